import PyProof.Rows.All
import Wide.All
import OpenK.AllK
import Wide.FinOn
import HandS.Base
import HandS.Call
import HandS.List
import HandS.Comp
import HandS.Dict
import HandS.Iter
import HandS.Ends
import HandS.Words
import HandS.Lambda
import HandS.EndTab
import HandS.Exc
import HandS.TupAny
import HandS.TupMul
import HandS.Conv
import HandS.Zip
import KE.GoesEnum
import KE.GoesMore
import KE.GoesZip
import HandS.Head0
import HandS.Head1
import HandS.Head2
import HandS.HeadHook4
import HandS.Walk
import HandS.TupLe
import HandS.Wide
import HandS.Style
import HandS.Deep
import HandS.IsInst
import HandS.Text
import HandS.RaiseMore
import PyProof.StrOps2
import HandS.Set
import HandS.SetFor
import HandS.SetTxt0
import HandS.Strs
import HandS.SortOrd
import HandS.SortRule
import HandS.SortInts
import KE.KNestM
import HandS.ExcOwn
import HandS.ExcField
import HandS.ExcInit
import HandS.TryMany
import HandS.Small
import HandS.ExcCtx
import HandS.HotCalls
import HandS.ExcIs
import HandS.ExcValue
import PySem.Challenge.RW_workwishes_k42_even_told_or_refused
set_option Elab.async false
set_option linter.all false
set_option maxRecDepth 100000
set_option maxHeartbeats 4000000
namespace DL
open PySem PySem.Spec PyProof.Rows L2
inductive D where
  | non | bl (b : Bool) | int (i : Int) | str (s : Str) | tup (ds : List D) | lst (ds : List D) | scr (ds : List D) | dct (kvs : List (Key × Key)) | ref (n : Nat) | fn (a : Addr) (io : List Addr) (F : Hp) | exc (c : Str) (ns : List Str) (ds : List D)
inductive Cel where
  | lst (ds : List D) | dead | ins (C : Str) (fs : List (Str × D)) | dct (l : Option Obj) (kvs : List (Key × Key))
abbrev Sto := List Cel
abbrev En := List (Option D)
/-- a tuple whose object is known to have no dict -/
def SqE (K : PySem.W.Frag) (F : Hp) (a : Addr) (xs : List V) : Prop := (∃ o, F a = some (.frz o (.tup xs)) ∧ o.dict = none) ∨
  ∃ (o : Obj) (its : Array Value) (n : Nat), K.lookup a = some o ∧ o.cls = .type "tuple" ∧ o.data = .seq its n ∧ its.size ≤ sizeLine ∧ Vals xs its.toList ∧ o.dict = none
theorem SqE.t {K : PySem.W.Frag} {F : Hp} {a : Addr} {xs : List V} (s : SqE K F a xs) : SqT K F a xs := by
  rcases s with ⟨o, s, _⟩ | ⟨o, its, n, h1, h2, h3, h4, h5, _⟩
  · exact .inl (.inr ⟨o, s⟩)
  · exact .inr ⟨o, its, n, h1, h2, h3, h4, h5⟩
theorem SqE.mono {K : PySem.W.Frag} {F F' : Hp} {a : Addr} {xs : List V} (h : ∀ a o, F a = some o → F' a = some o) (s : SqE K F a xs) : SqE K F' a xs := by
  rcases s with ⟨o, s, d⟩ | s
  · exact .inl ⟨o, h _ _ s, d⟩
  · exact .inr s
/-- an exception's object at a, its class, its dict -/
def exV (C : Addr) (d : Option Addr) (a : Addr) : HO := .ext fun h => ∃ (oe : Obj) (vs : Array Value), h.get? a = some oe ∧ Zc (.ref C) d oe ∧ oe.data = .fields vs
def ExD (F : Hp) (d : Option Addr) (fv : List (Str × V)) : Prop := (d = none ∧ fv = []) ∨ ∃ dd, d = some dd ∧ F dd = some (.xd fv)
theorem ExD.mono {F F' : Hp} {d : Option Addr} {fv : List (Str × V)} (h : ∀ a o, F a = some o → F' a = some o) (x : ExD F d fv) : ExD F' d fv := by
  rcases x with x | ⟨dd, e, z⟩
  · exact .inl x
  · exact .inr ⟨dd, e, h _ _ z⟩
mutual
inductive Den (K : PySem.W.Frag) (io : List Addr) (F : Hp) : V → D → Prop
  | non : Den K io F .non .non
  | bl (b : Bool) : Den K io F (.bl b) (.bl b)
  | int (i : Int) : Den K io F (.int i) (.int i)
  | str (x : Str) : Den K io F (.str x) (.str x)
  | tup {a : Addr} {xs : List V} {ds : List D} : SqE K F a xs → DenL K io F xs ds → ds.length ≤ sizeLine → Den K io F (.ref a) (.tup ds)
  | lst {a : Addr} {xs : List V} {ds : List D} : F a = some (.lst xs) → DenL K io F xs ds → ds.length ≤ sizeLine → Den K io F (.ref a) (.lst ds)
  | scr {a : Addr} {xs : List V} {ds : List D} : SqL K F a xs → DenL K io F xs ds → ds.length ≤ sizeLine → Den K io F (.ref a) (.scr ds)
  | dct {a : Addr} {kvs : List (Key × Key)} : F a = some (.dK (kvs.map fun p => (p.1, kV p.2))) → Den K io F (.ref a) (.dct kvs)
  | ref {a : Addr} {n : Nat} : io[n]? = some a → Den K io F (.ref a) (.ref n)
  | fn {a : Addr} {io0 : List Addr} {F0 : Hp} : (∀ (n : Nat) b, io0[n]? = some b → io[n]? = some b) → (∀ b o, F0 b = some o → F b = some o) → Den K io F (.ref a) (.fn a io0 F0)
  | exc {a C : Addr} {c : Str} {d : Option Addr} {fv : List (Str × V)} {ns : List Str} {vs : List V} {ds : List D} : PySem.W.nsIn K mainGlobals c = some (some (.ref C)) → F a = some (exV C d a) → ExD F d fv → ns = fv.map (·.1) → vs = fv.map (·.2) → DenL K io F vs ds → Den K io F (.ref a) (.exc c ns ds)
inductive DenL (K : PySem.W.Frag) (io : List Addr) (F : Hp) : List V → List D → Prop
  | nil : DenL K io F [] []
  | cons {v : V} {vs : List V} {d : D} {ds : List D} : Den K io F v d → DenL K io F vs ds → DenL K io F (v :: vs) (d :: ds)
end
section
variable {K : PySem.W.Frag} {io io' : List Addr} {F F' : Hp}
theorem SqT_mono {a : Addr} {xs : List V} (h : ∀ a o, F a = some o → F' a = some o) (s : SqT K F a xs) : SqT K F' a xs := by
  rcases s with (s | ⟨o, s⟩) | s
  · exact .inl (.inl (h _ _ s))
  · exact .inl (.inr ⟨o, h _ _ s⟩)
  · exact .inr s
theorem SqL_mono {a : Addr} {xs : List V} (h : ∀ a o, F a = some o → F' a = some o) (s : SqL K F a xs) : SqL K F' a xs := by
  rcases s with (s | ⟨o, s⟩) | s
  · exact .inl (.inl (h _ _ s))
  · exact .inl (.inr ⟨o, h _ _ s⟩)
  · exact .inr s
mutual
theorem Den.mono (hi : ∀ (n : Nat) a, io[n]? = some a → io'[n]? = some a) (h : ∀ a o, F a = some o → F' a = some o) : ∀ {v : V} {d : D}, Den K io F v d → Den K io' F' v d
  | _, _, .non => .non
  | _, _, .bl b => .bl b
  | _, _, .int i => .int i
  | _, _, .str x => .str x
  | _, _, .tup s r z => .tup (s.mono h) (DenL.mono hi h r) z
  | _, _, .lst s r z => .lst (h _ _ s) (DenL.mono hi h r) z
  | _, _, .scr s r z => .scr (SqL_mono h s) (DenL.mono hi h r) z
  | _, _, .dct e => .dct (h _ _ e)
  | _, _, .ref e => .ref (hi _ _ e)
  | _, _, .fn a b => .fn (fun n c e => hi n c (a n c e)) (fun c o e => h c o (b c o e))
  | _, _, .exc n e x a b r => .exc n (h _ _ e) (x.mono h) a b (DenL.mono hi h r)
theorem DenL.mono (hi : ∀ (n : Nat) a, io[n]? = some a → io'[n]? = some a) (h : ∀ a o, F a = some o → F' a = some o) : ∀ {vs : List V} {ds : List D}, DenL K io F vs ds → DenL K io' F' vs ds
  | _, _, .nil => .nil
  | _, _, .cons a b => .cons (Den.mono hi h a) (DenL.mono hi h b)
end
theorem DenL.length : ∀ {vs : List V} {ds : List D}, DenL K io F vs ds → vs.length = ds.length
  | _, _, .nil => rfl
  | _, _, .cons _ r => by rw [List.length_cons, List.length_cons, r.length]
theorem DenL.get : ∀ {vs : List V} {ds : List D} {i : Nat} {d : D}, DenL K io F vs ds → ds[i]? = some d → ∃ v, vs[i]? = some v ∧ Den K io F v d
  | _, _, _, _, .nil, e => by simp at e
  | _, _, 0, _, .cons r _, e => by simp at e; subst e; exact ⟨_, rfl, r⟩
  | _, _, i + 1, d, .cons _ t, e => by
    obtain ⟨u, h1, h2⟩ := DenL.get (i := i) (d := d) t (by simpa using e)
    exact ⟨u, by simpa using h1, h2⟩
theorem DenL.append : ∀ {vs ws : List V} {ds es : List D}, DenL K io F vs ds → DenL K io F ws es → DenL K io F (vs ++ ws) (ds ++ es)
  | _, _, _, _, .nil, s => s
  | _, _, _, _, .cons r t, s => .cons r (DenL.append t s)
theorem DenL.take : ∀ {vs : List V} {ds : List D} (n : Nat), DenL K io F vs ds → DenL K io F (vs.take n) (ds.take n)
  | _, _, 0, _ => by rw [List.take_zero, List.take_zero]; exact .nil
  | _, _, _ + 1, .nil => .nil
  | _, _, n + 1, .cons r t => .cons r (DenL.take n t)
theorem DenL.drop : ∀ {vs : List V} {ds : List D} (n : Nat), DenL K io F vs ds → DenL K io F (vs.drop n) (ds.drop n)
  | _, _, 0, r => r
  | _, _, _ + 1, .nil => .nil
  | _, _, n + 1, .cons _ t => DenL.drop n t
theorem DenL.setAt : ∀ {vs : List V} {ds : List D} (i : Nat) {v : V} {d : D}, Den K io F v d → DenL K io F vs ds → DenL K io F (vs.set i v) (ds.set i d)
  | _, _, _, _, _, _, .nil => .nil
  | _, _, 0, _, _, q, .cons _ t => .cons q t
  | _, _, i + 1, _, _, q, .cons r t => .cons r (DenL.setAt i q t)
theorem DenL.erase : ∀ {vs : List V} {ds : List D} (i : Nat), DenL K io F vs ds → DenL K io F (vs.eraseIdx i) (ds.eraseIdx i)
  | _, _, _, .nil => .nil
  | _, _, 0, .cons _ t => t
  | _, _, i + 1, .cons r t => .cons r (DenL.erase i t)
theorem DenL.none_of {vs : List V} {ds : List D} {i : Nat} (r : DenL K io F vs ds) (e : ds[i]? = none) : vs[i]? = none := by
  have h := r.length
  have h2 := List.getElem?_eq_none_iff.mp e
  exact List.getElem?_eq_none_iff.mpr (by omega)
theorem DenL.replicate {v : V} {d : D} (h : Den K io F v d) : ∀ n : Nat, DenL K io F (List.replicate n v) (List.replicate n d)
  | 0 => .nil
  | n + 1 => by rw [List.replicate_succ, List.replicate_succ]; exact .cons h (DenL.replicate h n)
theorem DenL.flat {vs : List V} {ds : List D} (h : DenL K io F vs ds) : ∀ n : Nat, DenL K io F (List.replicate n vs).flatten (List.replicate n ds).flatten
  | 0 => .nil
  | n + 1 => by rw [List.replicate_succ, List.replicate_succ, List.flatten_cons, List.flatten_cons]; exact h.append (DenL.flat h n)
end
def lamNames : List Str := ["weights_of", "hoped_weights"]
def lamQ (x : Str) : Str := x ++ ".<locals>." ++ "<lambda>"
def tabsOf (K : PySem.W.Frag) : List (Addr × Str) := lamNames.filterMap fun x => (PySem.W.tabIn K x).map fun p => (p.2, lamQ x)
abbrev DenF (K : PySem.W.Frag) (io : List Addr) (F : Hp) : List (Str × V) → List (Str × D) → Prop := Paired fun p q => p.1 = q.1 ∧ Den K io F p.2 q.2
/-- a dict of one's own: open, or locked while it is walked -/
def DLk (l : Option Obj) (kvs : List (Key × Key)) (u : HO) : Prop := (l = none ∧ u = .dK (kvs.map fun p => (p.1, kV p.2))) ∨ ∃ o, l = some o ∧ u = .frz o (.dK (kvs.map fun p => (p.1, kV p.2)))
def CelOk (K : PySem.W.Frag) (H : Hp) (io : List Addr) (F : Hp) (a : Addr) : Cel → Prop
  | .lst ds => F a = none ∧ ds.length ≤ sizeLine ∧ ∃ vs, H a = some (.lst vs) ∧ DenL K io F vs ds
  | .dead => True
  | .ins C fs => F a = none ∧ ∃ cc dx fv, PySem.W.nsIn K mainGlobals C = some (some (.ref cc)) ∧ H a = some (.ins cc dx fv) ∧ DenF K io F fv fs
  | .dct b kvs => F a = none ∧ kvs.length ≤ sizeLine ∧ ∃ u, H a = some u ∧ DLk b kvs u
structure RelH (K : PySem.W.Frag) (H : Hp) (io : List Addr) (F : Hp) (st : Sto) : Prop where
  sub : ∀ a o, F a = some o → H a = some o
  len : io.length = st.length
  nd : io.Nodup
  there : ∀ a ∈ io, ∃ o, H a = some o
  cel : ∀ (n : Nat) c a, st[n]? = some c → io[n]? = some a → CelOk K H io F a c
  tab : ∀ p ∈ tabsOf K, F p.1 = none ∧ p.1 ∉ io ∧ ∃ ps, H p.1 = some (.tbl ps) ∧ TriplesOk ps.toList ∧ ∀ (pos : Pos) (cv : Value), codeAmong pos ps.toList = some cv → ∃ c, cv = .ref c ∧ F c = some (LamX.CodeO c p.2)
/-- from one state to a later one -/
structure Stp (H : Hp) (io : List Addr) (F H' : Hp) (io' : List Addr) (F' : Hp) : Prop where
  ext : ∃ more, io' = io ++ more ∧ ∀ a ∈ more, H a = none
  fr : ∀ a o, F a = some o → F' a = some o
  keep : ∀ a o, H a = some o → (∀ ps, o ≠ .tbl ps) → a ∉ io → H' a = some o
  dom : ∀ a o, H a = some o → ∃ o', H' a = some o'
  fnw : ∀ a o, F' a = some o → F a = some o ∨ H a = none ∨ a ∈ io
/-- whence an exception's wish looks on: the state at a def's, a try's or a suite's start -/
class Bs where
  H : Hp
  io : List Addr
  F : Hp
structure Rel [B : Bs] (K : PySem.W.Frag) (σ : L2.St) (H : Hp) (env : En) (io : List Addr) (F : Hp) (st : Sto) : Prop extends RelH K H io F st where
  sl : σ.length = env.length
  slot : ∀ (i : Nat) d, env[i]? = some (some d) → ∃ v, σ[i]? = some (some v) ∧ Den K io F v d
  bs : Stp B.H B.io B.F H io F
section
variable {K : PySem.W.Frag} {io io' io1 io2 : List Addr} {F F' F1 F2 H H' H1 H2 : Hp} {st st' : Sto} {σ : L2.St} {env : En}
theorem Stp.ix (s : Stp H io F H' io' F') (n : Nat) (a : Addr) (h : io[n]? = some a) : io'[n]? = some a := by
  obtain ⟨more, e, _⟩ := s.ext
  subst e
  rw [List.getElem?_append_left (List.getElem?_eq_some_iff.mp h).1]
  exact h
theorem Stp.den (s : Stp H io F H' io' F') {v : V} {d : D} (h : Den K io F v d) : Den K io' F' v d := h.mono s.ix s.fr
theorem Stp.denL (s : Stp H io F H' io' F') {v : List V} {d : List D} (h : DenL K io F v d) : DenL K io' F' v d := h.mono s.ix s.fr
theorem Stp.refl : Stp H io F H io F := ⟨⟨[], by simp, fun _ h => by cases h⟩, fun _ _ h => h, fun _ _ h _ _ => h, fun _ o h => ⟨o, h⟩, fun _ _ h => .inl h⟩
theorem Stp.none_of (s : Stp H io F H' io' F') {a : Addr} (h : H' a = none) : H a = none := by
  cases e : H a with
  | none => rfl
  | some o =>
    obtain ⟨o', h'⟩ := s.dom a o e
    rw [h] at h'; cases h'
theorem Stp.trans (s : Stp H io F H1 io1 F1) (t : Stp H1 io1 F1 H2 io2 F2) : Stp H io F H2 io2 F2 := by
  obtain ⟨m1, e1, n1⟩ := s.ext
  obtain ⟨m2, e2, n2⟩ := t.ext
  refine ⟨⟨m1 ++ m2, by rw [e2, e1, List.append_assoc], fun a ha => ?_⟩, fun a o h => t.fr _ _ (s.fr _ _ h), fun a o h hn ho => ?_, fun a o h => ?_, fun a o h => ?_⟩
  · rcases List.mem_append.mp ha with h | h
    · exact n1 a h
    · exact s.none_of (n2 a h)
  · have h1 := s.keep a o h hn ho
    refine t.keep a o h1 hn fun hm => ?_
    rw [e1] at hm
    rcases List.mem_append.mp hm with h2 | h2
    · exact ho h2
    · have := n1 a h2
      rw [h] at this; cases this
  · obtain ⟨o1, h1⟩ := s.dom a o h
    exact t.dom a o1 h1
  · rcases t.fnw a o h with h1 | h1 | h1
    · exact s.fnw a o h1
    · exact .inr (.inl (s.none_of h1))
    · rw [e1] at h1
      rcases List.mem_append.mp h1 with h2 | h2
      · exact .inr (.inr h2)
      · exact .inr (.inl (n1 a h2))
/-- an object beside frozen ones and the store stays beside, as it is -/
theorem Stp.beside (s : Stp H io F H' io' F') {p : Addr} {o : HO} (h : H p = some o) (hn : ∀ ps, o ≠ .tbl ps) (hF : F p = none) (hio : p ∉ io) : H' p = some o ∧ F' p = none ∧ p ∉ io' := by
  refine ⟨s.keep p o h hn hio, ?_, fun hm => ?_⟩
  · cases e : F' p with
    | none => rfl
    | some u =>
      rcases s.fnw p u e with h1 | h1 | h1
      · rw [hF] at h1; cases h1
      · rw [h] at h1; cases h1
      · exact absurd h1 hio
  · obtain ⟨more, e, n⟩ := s.ext
    rw [e] at hm
    rcases List.mem_append.mp hm with h1 | h1
    · exact hio h1
    · have := n p h1
      rw [h] at this; cases this
/-- an object that was not there at first may change -/
theorem Stp.own (s : Stp H io F H' io' F') {p : Addr} {o : HO} (h : H p = none) : Stp H io F (upd H' p o) io' F' :=
  ⟨s.ext, s.fr, fun a u e hn ho => by rw [upd_ne (fun z => by subst z; rw [h] at e; cases e)]; exact s.keep a u e hn ho, fun a u e => by
    by_cases z : a = p
    · subst z; exact ⟨o, upd_same⟩
    · rw [upd_ne z]; exact s.dom a u e, s.fnw⟩
/-- .. and be frozen -/
theorem Stp.frz (s : Stp H io F H' io' F') {p : Addr} {o : HO} (h : H p = none) (hF : F' p = none) : Stp H io F H' io' (upd F' p o) :=
  ⟨s.ext, fun a u e => by
    have := s.fr a u e
    rw [upd_ne (fun z => by subst z; rw [hF] at this; cases this)]
    exact this, s.keep, s.dom, fun a u e => by
    by_cases z : a = p
    · subst z; exact .inr (.inl h)
    · rw [upd_ne z] at e; exact s.fnw a u e⟩
/-- .. or a cell -/
theorem Stp.cell (s : Stp H io F H' io' F') {p : Addr} (h : H p = none) : Stp H io F H' (io' ++ [p]) F' := by
  obtain ⟨more, e, n⟩ := s.ext
  refine ⟨⟨more ++ [p], by rw [e, List.append_assoc], fun a ha => ?_⟩, s.fr, s.keep, s.dom, s.fnw⟩
  rcases List.mem_append.mp ha with h1 | h1
  · exact n a h1
  · simp at h1; subst h1; exact h
theorem Rel.next [Bs] (R : Rel K σ H env io F st) (s : Stp H io F H' io' F') (r : RelH K H' io' F' st') : Rel K σ H' env io' F' st' :=
  { r with sl := R.sl, bs := R.bs.trans s, slot := fun i d e => let ⟨v, h1, h2⟩ := R.slot i d e; ⟨v, h1, s.den h2⟩ }
theorem RelH.notF (R : RelH K H io F st) {a : Addr} (h : H a = none) : F a = none := by
  cases e : F a with
  | none => rfl
  | some o => have := R.sub _ _ e; rw [h] at this; cases this
theorem RelH.notIo (R : RelH K H io F st) {a : Addr} (h : H a = none) : a ∉ io := fun hm => by
  obtain ⟨o, e⟩ := R.there a hm
  rw [h] at e; cases e
theorem CelOk.next {a : Addr} {c : Cel} (s : Stp H io F H' io' F') (e : H' a = H a) (hf : F a = none → F' a = none) (h : CelOk K H io F a c) : CelOk K H' io' F' a c := by
  cases c with
  | lst ds =>
    obtain ⟨h1, h2, vs, h3, h4⟩ := h
    exact ⟨hf h1, h2, vs, by rw [e]; exact h3, s.denL h4⟩
  | dead => trivial
  | ins C fs =>
    obtain ⟨h1, cc, dx, fv, hc, h3, h4⟩ := h
    exact ⟨hf h1, cc, dx, fv, hc, by rw [e]; exact h3, Paired.mapP h4 fun p q z => ⟨z.1, s.den z.2⟩⟩
  | dct b kvs =>
    obtain ⟨h1, h2, u, h3, h4⟩ := h
    exact ⟨hf h1, h2, u, by rw [e]; exact h3, h4⟩
theorem same_upd {p : Addr} {o : HO} (h : H p = none) : ∀ a u, H a = some u → upd H p o a = some u := fun b x e => by
  rw [upd_ne (ne_of_none e h)]
  exact e
/-- a new frozen object -/
theorem Stp.laid {p : Addr} {o : HO} (h : H p = none) (hF : ∀ a o, F a = some o → H a = some o) : Stp H io F (upd H p o) io (upd F p o) :=
  ⟨⟨[], by simp, fun _ h => by cases h⟩, fun a u e => by rw [upd_ne (fun z => by subst z; have := hF _ _ e; rw [h] at this; cases this)]; exact e, fun a u e _ _ => same_upd h a u e, fun a u e => ⟨u, same_upd h a u e⟩, fun a u e => by
    by_cases z : a = p
    · subst z; exact .inr (.inl h)
    · rw [upd_ne z] at e; exact .inl e⟩
theorem RelH.laid (R : RelH K H io F st) {p : Addr} {o : HO} (h : H p = none) : RelH K (upd H p o) io (upd F p o) st := by
  refine ⟨fun a u e => ?_, R.len, R.nd, fun a ha => ?_, fun n c a h1 h2 => ?_, fun q hq => ?_⟩
  rotate_right
  · obtain ⟨t1, t2, ps, t3, t4, t5⟩ := R.tab q hq
    have ne : q.1 ≠ p := fun z => by rw [z, h] at t3; cases t3
    refine ⟨by rw [upd_ne ne]; exact t1, t2, ps, by rw [upd_ne ne]; exact t3, t4, fun pos cv hc => ?_⟩
    obtain ⟨c, e1, e2⟩ := t5 pos cv hc
    refine ⟨c, e1, ?_⟩
    rw [upd_ne (fun z => by have := R.sub _ _ e2; rw [z, h] at this; cases this)]
    exact e2
  · by_cases z : a = p
    · subst z; rw [upd_same] at e ⊢; exact e
    · rw [upd_ne z] at e ⊢; exact R.sub _ _ e
  · obtain ⟨u, e⟩ := R.there a ha
    exact ⟨u, same_upd h a u e⟩
  · have ne : a ≠ p := fun z => by subst z; exact R.notIo h (List.mem_of_getElem? h2)
    exact (R.cel n c a h1 h2).next (Stp.laid h R.sub) (upd_ne ne) fun hf => by rw [upd_ne ne]; exact hf
/-- a new tracked object that is neither frozen nor in the store -/
theorem Stp.aside {p : Addr} {o : HO} (h : H p = none) : Stp H io F (upd H p o) io F :=
  ⟨⟨[], by simp, fun _ h => by cases h⟩, fun a u e => e, fun a u e _ _ => same_upd h a u e, fun a u e => ⟨u, same_upd h a u e⟩, fun _ _ e => .inl e⟩
theorem RelH.aside (R : RelH K H io F st) {p : Addr} {o : HO} (h : H p = none) : RelH K (upd H p o) io F st := by
  refine ⟨fun a u e => same_upd h _ _ (R.sub _ _ e), R.len, R.nd, fun a ha => ?_, fun n c a h1 h2 => ?_, fun q hq => ?_⟩
  rotate_right
  · obtain ⟨t1, t2, ps, t3, t4, t5⟩ := R.tab q hq
    exact ⟨t1, t2, ps, same_upd h _ _ t3, t4, t5⟩
  · obtain ⟨u, e⟩ := R.there a ha
    exact ⟨u, same_upd h a u e⟩
  · have ne : a ≠ p := fun z => by subst z; exact R.notIo h (List.mem_of_getElem? h2)
    exact (R.cel n c a h1 h2).next (Stp.aside h) (upd_ne ne) fun hf => hf
/-- a tracked object beside the store changes -/
theorem RelH.side (R : RelH K H io F st) {p : Addr} {o o0 : HO} (hp : H p = some o0) (hn : ∀ ps, o0 ≠ .tbl ps) (hf : F p = none) (hio : p ∉ io) : RelH K (upd H p o) io F st := by
  refine ⟨fun a u e => ?_, R.len, R.nd, fun a ha => ?_, fun n c a h1 h2 => ?_, fun q hq => ?_⟩
  rotate_right
  · obtain ⟨t1, t2, ps, t3, t4, t5⟩ := R.tab q hq
    exact ⟨t1, t2, ps, by rw [upd_ne (fun z => by rw [z, hp] at t3; cases t3; exact hn _ rfl)]; exact t3, t4, t5⟩
  · rw [upd_ne (fun z => by subst z; rw [hf] at e; cases e)]
    exact R.sub _ _ e
  · rw [upd_ne (fun z => by subst z; exact hio ha)]
    exact R.there a ha
  · have ne : a ≠ p := fun z => by subst z; exact hio (List.mem_of_getElem? h2)
    have := R.cel n c a h1 h2
    cases c with
    | lst ds => obtain ⟨q1, q2, vs, q3, q4⟩ := this; exact ⟨q1, q2, vs, by rw [upd_ne ne]; exact q3, q4⟩
    | dead => trivial
    | ins C fs => obtain ⟨q1, cc, dx, fv, qc, q3, q4⟩ := this; exact ⟨q1, cc, dx, fv, qc, by rw [upd_ne ne]; exact q3, q4⟩
    | dct b kvs => obtain ⟨q1, q2, u, q3, q4⟩ := this; exact ⟨q1, q2, u, by rw [upd_ne ne]; exact q3, q4⟩
/-- a tracked object beside the store is frozen -/
theorem RelH.frz (R : RelH K H io F st) {p : Addr} {o : HO} (hp : H p = some o) (hn : ∀ ps, o ≠ .tbl ps) (hf : F p = none) (hio : p ∉ io) : RelH K H io (upd F p o) st := by
  have fr : ∀ a u, F a = some u → upd F p o a = some u := fun a u e => by
    rw [upd_ne (fun z => by subst z; rw [hf] at e; cases e)]; exact e
  refine ⟨fun a u e => ?_, R.len, R.nd, R.there, fun n c a h1 h2 => ?_, fun q hq => ?_⟩
  rotate_right
  · obtain ⟨t1, t2, ps, t3, t4, t5⟩ := R.tab q hq
    refine ⟨by rw [upd_ne (fun z => by rw [z, hp] at t3; cases t3; exact hn _ rfl)]; exact t1, t2, ps, t3, t4, fun pos cv hc => ?_⟩
    obtain ⟨c, e1, e2⟩ := t5 pos cv hc
    exact ⟨c, e1, fr _ _ e2⟩
  · by_cases z : a = p
    · subst z; rw [upd_same] at e; cases e; exact hp
    · rw [upd_ne z] at e; exact R.sub _ _ e
  · have ne : a ≠ p := fun z => by subst z; exact hio (List.mem_of_getElem? h2)
    have := R.cel n c a h1 h2
    cases c with
    | lst ds => obtain ⟨q1, q2, vs, q3, q4⟩ := this; exact ⟨by rw [upd_ne ne]; exact q1, q2, vs, q3, q4.mono (fun _ _ h => h) fr⟩
    | dead => trivial
    | ins C fs => obtain ⟨q1, cc, dx, fv, qc, q3, q4⟩ := this; exact ⟨by rw [upd_ne ne]; exact q1, cc, dx, fv, qc, q3, Paired.mapP q4 fun _ _ z => ⟨z.1, z.2.mono (fun _ _ h => h) fr⟩⟩
    | dct b kvs => obtain ⟨q1, q2, u, q3, q4⟩ := this; exact ⟨by rw [upd_ne ne]; exact q1, q2, u, q3, q4⟩
/-- .. becomes a cell -/
theorem RelH.adopt (R : RelH K H io F st) {p : Addr} {c : Cel} (hp : ∃ o, H p = some o ∧ ∀ ps, o ≠ .tbl ps) (hio : p ∉ io) (hc : CelOk K H (io ++ [p]) F p c) : RelH K H (io ++ [p]) F (st ++ [c]) := by
  have ix : ∀ (n : Nat) a, io[n]? = some a → (io ++ [p])[n]? = some a := fun n a h => by
    rw [List.getElem?_append_left (List.getElem?_eq_some_iff.mp h).1]; exact h
  refine ⟨R.sub, by rw [List.length_append, List.length_append, R.len]; rfl, List.nodup_append.mpr ⟨R.nd, by simp, fun a ha b hb => ?_⟩, fun a ha => ?_, fun n d a h1 h2 => ?_, fun q hq => ?_⟩
  rotate_right
  · obtain ⟨t1, t2, ps, t3, t4, t5⟩ := R.tab q hq
    refine ⟨t1, fun hm => ?_, ps, t3, t4, t5⟩
    rcases List.mem_append.mp hm with h | h
    · exact t2 h
    · simp at h
      obtain ⟨o, h1, h2⟩ := hp
      rw [← h, t3] at h1
      cases h1
      exact h2 _ rfl
  · simp at hb
    subst hb
    intro e
    subst e
    exact hio ha
  · rcases List.mem_append.mp ha with h | h
    · exact R.there a h
    · simp at h
      subst h
      obtain ⟨o, h1, _⟩ := hp
      exact ⟨o, h1⟩
  · by_cases hn : n < st.length
    · rw [List.getElem?_append_left hn] at h1
      rw [List.getElem?_append_left (by rw [R.len]; exact hn)] at h2
      have := R.cel n d a h1 h2
      cases d with
      | lst ds => obtain ⟨q1, q2, vs, q3, q4⟩ := this; exact ⟨q1, q2, vs, q3, q4.mono ix fun _ _ h => h⟩
      | dead => trivial
      | ins C fs => obtain ⟨q1, cc, dx, fv, qc, q3, q4⟩ := this; exact ⟨q1, cc, dx, fv, qc, q3, Paired.mapP q4 fun _ _ z => ⟨z.1, z.2.mono ix fun _ _ h => h⟩⟩
      | dct b kvs => obtain ⟨q1, q2, u, q3, q4⟩ := this; exact ⟨q1, q2, u, q3, q4⟩
    · have e : n = st.length := by
        have := (List.getElem?_eq_some_iff.mp h1).1
        rw [List.length_append, List.length_singleton] at this
        omega
      subst e
      rw [List.getElem?_append_right (Nat.le_refl _), Nat.sub_self] at h1
      rw [← R.len, List.getElem?_append_right (Nat.le_refl _), Nat.sub_self] at h2
      cases h1
      cases h2
      exact hc
theorem RelH.newRef (R : RelH K H io F st) {p : Addr} : Den K (io ++ [p]) F (.ref p) (.ref st.length) := .ref (by rw [← R.len, List.getElem?_append_right (Nat.le_refl _), Nat.sub_self]; rfl)
end
end DL
namespace DL
open PySem PySem.Spec PyProof.Rows L2
abbrev tobj (its : List Value) : Obj := { cls := .type "tuple", data := .seq its.toArray }
abbrev XtK (H : Hp) (Q : VK) (vs : List V) : Prop := ∀ (p : Addr) (o : Obj), H p = none → o.dict = none → Q (.ref p) (upd H p (.frz o (.tup vs)))
section
variable {X : Cx} {pins : List (Addr × Obj)} {σ : L2.St} {H : Hp} {s : Shared} {xs : List V} {its : List Value} {Q : VK}
theorem new_tup (I : Inv X pins σ H s) (z : xs.length ≤ sizeLine) (r : Vals xs its) (q : XtK H Q xs) : EP X pins σ Q (.ref s.heap.objs.size) { s with heap := s.heap.push (tobj its) } :=
  ⟨.ref s.heap.objs.size, upd H s.heap.objs.size (.frz (tobj its) (.tup xs)), I.laid (t' := s.toks) (fun _ _ e => Heap.get?_push_of_some _ e) (Nat.le_refl _) ⟨Heap.get?_push_size _ rfl, z, its, r, IsTup.new _ _⟩, rfl, q _ _ (I.hok.fresh (Nat.le_refl _)) rfl⟩
def tTupX (t : TA) : TE := fun σ H Q => t σ H fun xs H1 => xs.length ≤ sizeLine ∧ XtK H1 Q xs
theorem pe_tupX {es : List Expr} {t : TA} {k} {pos : Pos} (h : PA X es t) : PE X (.Tuple es k pos) (tTupX t) :=
  ⟨fun pins s σ H Q I hq => wpAny_Tuple_spliced (thn (h.run pos pins s σ H _ I hq) fun us s1 ⟨xs, H1, I1, r, z, q⟩ => ⟨by rw [← r.length]; exact z, new_tup I1 z r q⟩)⟩
def rCatX (K : PySem.W.Frag) : V → V → Hp → VK → Prop := fun x y H Q => ∃ a b xs ys, x = .ref a ∧ y = .ref b ∧ SqT K H a xs ∧ SqT K H b ys ∧ xs.length + ys.length ≤ sizeLine ∧
  (xs = [] → Q (.ref b) H) ∧ (xs ≠ [] → ys = [] → Q (.ref a) H) ∧ (xs ≠ [] → ys ≠ [] → XtK H Q (xs ++ ys))
theorem op_catX : OpR X (binaryOp .Add) (rCatX X.K) := fun pins s σ H x y v u Q I rx ry h => by
  obtain ⟨a, b, xs, ys, rfl, rfl, ha, hb, hz, q0, q1, q2⟩ := h
  cases rx; cases ry
  obtain ⟨t1, r1, p1, _⟩ := I.tuple ha; obtain ⟨t2, r2, p2, _⟩ := I.tuple hb
  cases xs with
  | nil => cases r1; exact cat_tup0 p1 p2 ⟨.ref b, H, I, rfl, q0 rfl⟩
  | cons x xs =>
    have n1 : t1 ≠ [] := fun e => nomatch (r1.nil_iff.mp e)
    refine HT.cat_tup p1 p2 n1 (fun z => ⟨.ref a, H, I, rfl, q1 (fun e => nomatch e) (r2.nil_iff.mp z)⟩) (fun z => new_tup I (by rw [List.length_append]; exact hz) (r1.append r2) (q2 (fun e => nomatch e) fun w => z (r2.nil_iff.mpr w))) ?_
    rw [← r1.length, ← r2.length]; exact hz
def rSlX (K : PySem.W.Frag) : V → Option Int → Option Int → Hp → VK → Prop := fun x lo hi H Q => ∃ a xs, x = .ref a ∧ SqT K H a xs ∧
  (HT.sIx xs.length 0 lo = 0 ∧ HT.sIx xs.length xs.length hi = xs.length → Q (.ref a) H) ∧ (¬ (HT.sIx xs.length 0 lo = 0 ∧ HT.sIx xs.length xs.length hi = xs.length) → XtK H Q (cutV xs lo hi))
theorem sl_tupX : SlR X (rSlX X.K) := fun pins s σ H x v vl vu lo hi sl Q I rx hs pl pu h => by
  obtain ⟨a, xs, rfl, hx, q1, q2⟩ := h
  cases rx
  obtain ⟨its, r, ht, hz⟩ := I.tuple hx
  have hl : its.toArray.size = xs.length := r.length.symm
  by_cases hw : HT.sIx xs.length 0 lo = 0 ∧ HT.sIx xs.length xs.length hi = xs.length
  · exact ⟨"tuple", _, PyProof.Rows.slot_tuple_getitem.lookup, ht.typeIs, getItem_tuple_whole ht hs pl pu (by rw [hl]; exact hw) ⟨.ref a, H, I, rfl, q1 hw⟩⟩
  · refine ⟨"tuple", _, PyProof.Rows.slot_tuple_getitem.lookup, ht.typeIs, HT.getItem_tuple_cut ht hs pl pu (by rw [hl]; exact hw) ?_ (by rw [hl]; exact hz)⟩
    rw [hl]
    exact new_tup I (Nat.le_trans (cutV_length xs lo hi) hz) ((r.drop (HT.sIx xs.length 0 lo)).take (HT.sIx xs.length xs.length hi - HT.sIx xs.length 0 lo)) (q2 hw)
theorem call_tupleX : CallR X (.type "tuple") (fun xs H Q => ∃ p ys, xs = [.ref p] ∧ ((SqL X.K H p ys ∧ XtK H Q ys) ∨ (SqT X.K H p ys ∧ Q (.ref p) H))) := fun pins s σ H xs us Q I r h => by
  obtain ⟨p, ys, rfl, h⟩ := h
  obtain ⟨u, rfl, rx⟩ := vals1 r
  cases rx
  rcases h with ⟨hq, q⟩ | ⟨hq, q⟩
  · obtain ⟨its, r2, pl, hz⟩ := I.list hq
    have hl := r2.length
    exact call_tuple_list pl.isList (fun h' kp => new_tup (I.kept (t' := s.toks) kp) hz r2 q) (by simp only [List.size_toArray] <;> omega)
  · obtain ⟨its, r2, pl, hz⟩ := I.tuple hq
    exact call_tuple_same pl ⟨.ref p, H, I, rfl, q⟩
def tTupRgX (te : L2.St → Hp → (Int → Int → Hp → Prop) → Prop) : TE := fun σ H Q => te σ H fun a b H1 => RgOk a b ∧ XtK H1 Q (rgV a b)
theorem pe_tupRgX {e : Expr} {te : L2.St → Hp → (Int → Int → Hp → Prop) → Prop} {p pos : Pos} (hc : X.calm = true) (hg : Gl X "tuple") (hm : X.mg "tuple" = none) (he : PRg X e te) (na : starEach [e] X.env = (false, eval e X.env) :: starEach [] X.env := by rfl) : PE X (.Call (.Name "tuple" p) [e] [] pos) (tTupRgX te) := by
  refine ⟨fun pins s σ H Q I h => Call_ (ld_blt I hg hm boot_tuple (PyProof.Rows.callWith_type1 (args_cons (thn (he pins s σ H _ I h) fun x s1 ⟨r, a, b, t, u, v, H1, ex, hr, I1, ⟨⟨b1, b2, b3, b4, b5⟩, q⟩⟩ => args_nil ?_) na) na))⟩
  subst ex
  refine call_tuple_range (n := (b - a).toNat) (I1.ok.hd hc) hr (small_one b1 b2 b3 b4) (rangeSize_nat a b) b5 fun h' tk acc hk hi => ?_
  have I2 : Inv X pins σ H1 { s1 with heap := h', toks := tk } := I1.kept hk
  obtain ⟨l, rfl⟩ : ∃ l : List Value, acc = l.toArray := ⟨acc.toList, by simp⟩
  exact new_tup I2 (xs := rgV a b) (its := l) (by rw [rgV_length, sizeLine_eq]; omega) (by simpa using vals_rg hi) q
end
structure SrcG (K : PySem.W.Frag) (S : Hp → Addr → List V → Prop) (Is : Heap → Addr → Array Value → Prop) (It1 : Heap → Addr → Addr → Nat → Prop) : Prop where
  get : ∀ {X : Cx} {pins : List (Addr × Obj)} {σ : L2.St} {H : Hp} {s : Shared} {a : Addr} {xs : List V}, X.K = K → Inv X pins σ H s → S H a xs → ∃ its : List Value, Vals xs its ∧ Is s.heap a its.toArray
  inj : ∀ {X : Cx} {pins : List (Addr × Obj)} {σ : L2.St} {H : Hp} {s : Shared} {a : Addr} {xs ys : List V}, X.K = K → Inv X pins σ H s → S H a xs → S H a ys → xs = ys
  dr : ∀ {prog : Program} {w : World} {A : Around} (it a : Addr) (items : Array Value), A.handled = none → a ≠ it → Draws prog w A it [it, a] items.size (fun i v => items[i]? = some v) (fun i h => It1 h it a i ∧ Is h a items)
  ob : ∀ {h : Heap} {it a : Addr} {i : Nat}, It1 h it a i → ∃ o, h.get? it = some o ∧ ∀ v, o.data ≠ .cell v
  at_ : ∀ {h h' : Heap} {it a : Addr} {i : Nat}, It1 h it a i → (∀ o, h.get? it = some o → h'.get? it = some o) → It1 h' it a i
theorem srcL (K : PySem.W.Frag) : SrcG K (SqL K) Heap.IsList Heap.IsListIter where
  get := fun e I h => by subst e; obtain ⟨its, r, p, _⟩ := I.list h; exact ⟨its, r, p.isList⟩
  inj := fun e I h h' => by subst e; exact I.list_inj h h'
  dr := fun it a items hh ne => Draws.list hh it a ne items
  ob := fun ⟨o, e, _, d⟩ => ⟨o, e, fun v q => by rw [d] at q; cases q⟩
  at_ := fun h k => h.at k
theorem srcT (K : PySem.W.Frag) : SrcG K (SqT K) Heap.IsTuple Heap.IsTupleIter where
  get := fun e I h => by subst e; obtain ⟨its, r, p, _⟩ := I.tuple h; exact ⟨its, r, p⟩
  inj := fun e I h h' => by subst e; exact I.tuple_inj h h'
  dr := fun it a items hh ne => Draws.tuple hh it a ne items
  ob := fun ⟨o, e, _, d⟩ => ⟨o, e, fun v q => by rw [d] at q; cases q⟩
  at_ := fun h k => h.at k
def IteX (S : Hp → Addr → List V → Prop) (a : Addr) : It :=
  ⟨fun i H => ∃ (xs : List V) (x : V), S H a xs ∧ xs[i]? = some x, fun i H v H' => ∃ T x o, v = .ref T ∧ H T = none ∧ o.dict = none ∧ H' = upd H T (.frz o (.tup [.int (i : Nat), x])) ∧ ∀ xs, S H a xs → xs[i]? = some x, fun i H => ∃ xs : List V, S H a xs ∧ xs.length = i⟩
theorem pair_ok {P : Program} {w : World} {H : Hp} {h : Heap} {T : Addr} {x y : V} {u v : Value} (e : h.get? T = some (tobj [u, v])) (ru : RelV x u) (rv : RelV y v) : ObjOk P w H h T (.frz (tobj [u, v]) (.tup [x, y])) :=
  ⟨e, by show 2 ≤ sizeLine; decide, [u, v], .cons ru (.cons rv .nil), ⟨_, e, rfl, _, rfl⟩⟩
theorem turn_enumX {P : Program} {w : World} {K : PySem.W.Frag} {elts : List Expr} {kk : Nat} {tpos : Pos} {S : Hp → Addr → List V → Prop} {Is : Heap → Addr → Array Value → Prop} {It1 : Heap → Addr → Addr → Nat → Prop} (G : SrcG K S Is It1) (a e it : Addr) :
    Turn P w K (.Tuple elts kk tpos) (IteX S a) [e, it] e (fun i h => (∃ old, IsEnum h e it ((i : Nat) : Int) old) ∧ It1 h it a i ∧ e ≠ it ∧ a ≠ it ∧ e ≠ a) where
  mem := List.mem_cons_self
  obj := fun i h ⟨⟨old, he⟩, hi, _⟩ b hb => by
    rcases List.mem_cons.mp hb with rfl | hb
    · exact ⟨_, he, fun v q => nomatch q⟩
    · rw [List.mem_singleton] at hb; subst hb; exact G.ob hi
  keep := fun i h h' ⟨⟨old, he⟩, hi, hne⟩ k => ⟨⟨old, k e List.mem_cons_self _ he⟩, G.at_ hi fun o q => k it (List.mem_cons_of_mem _ List.mem_cons_self) o q, hne⟩
  item := by
    intro X hP hw hK hc i pins s σ H E I hf st hg
    subst hP hw
    obtain ⟨⟨old, he⟩, hit, hne, hai, hea⟩ := st
    obtain ⟨xs, x, hq, hx⟩ := hg
    obtain ⟨its, rv, p⟩ := G.get hK I hq
    obtain ⟨u, hu, ru⟩ := rv.get hx
    have hu' : its.toArray[i]? = some u := by simpa using hu
    have Dr := G.dr (prog := X.prog) (w := X.w) (A := X.A.in1) it a its.toArray (I.ok.hd hc) hai
    have hel := Heap.lt_size he
    obtain ⟨oi, hoi, _⟩ := G.ob hit
    refine wpAny_pyNext_enum_itemD Dr he ⟨hit, p⟩ (Array.getElem?_eq_some_iff.mp hu').1 hne (by simp [hne, hea]) fun u2 h1 tk hP ho hit1 hT hsz hk => ?_
    have hP : its.toArray[i]? = some u2 := hP
    rw [hu'] at hP
    cases hP
    refine ⟨_, rfl, wpAny_letOwnedTupleGo_enum (s := { s with heap := h1, toks := tk + 1 }) ho fun h2 he2 sb => ?_⟩
    have hT2 : h2.get? s.heap.objs.size = some (tobj [.int i tk, u]) := (sb.2 _ (Nat.ne_of_gt hel)).trans hT
    have I1 : Inv X pins σ (upd H s.heap.objs.size (.frz (tobj [.int i tk, u]) (.tup [.int (i : Nat), x]))) { s with heap := h2, toks := tk + 1 } :=
      I.turnedNew (ch := [e, it]) (fun b ob hb q => (sb.2 b (fun z => hb (by simp [z]))).trans (hk b ob (fun z => hb (by simp [z])) (fun z => hb (by simp [z])) q)) hf (Nat.le_refl _) (pair_ok hT2 ⟨_, rfl⟩ ru)
    refine ⟨.ref s.heap.objs.size, _, I1, rfl, ⟨_, x, _, rfl, I.hok.fresh (Nat.le_refl _), rfl, rfl, fun ys hy => by rw [G.inj hK I hy hq]; exact hx⟩, ⟨⟨u, ?_⟩, G.at_ hit1.1 fun o q => (sb.2 it (Ne.symm hne)).trans q, hne, hai, hea⟩, fun b hb => ?_⟩
    · rw [show ((i + 1 : Nat) : Int) = (i : Int) + 1 by omega]; exact he2
    · have hb' : b < s.heap.objs.size := by
        rcases List.mem_cons.mp hb with rfl | hb
        · exact hel
        · rw [List.mem_singleton] at hb; subst hb; exact Heap.lt_size hoi
      rw [upd_ne (Nat.ne_of_lt hb')]; exact (hf b hb).1
  done := by
    intro X hP hw hK hc i pins s σ H E I hf st hg
    subst hP hw
    obtain ⟨⟨old, he⟩, hit, hne, hai, hea⟩ := st
    obtain ⟨xs, hq, hx⟩ := hg
    obtain ⟨its, rv, p⟩ := G.get hK I hq
    obtain ⟨f0, f1, f2, f3, f4, f5⟩ := hf it (by simp)
    have en : i = its.toArray.size := by rw [← hx, rv.length]; rfl
    subst en
    exact wpAny_pyNext_enum_endD (G.dr (prog := X.prog) (w := X.w) (A := X.A.in1) it a its.toArray (I.ok.hd hc) hai) he ⟨hit, p⟩ fun h' eb => ⟨rfl, I.turned (t' := s.toks) (fun b o hb q => eb b o hb q) f0 f1 f3 f4 f5⟩
  self := fun A i s Q E ⟨⟨_, he⟩, _⟩ h => wpAny_pyIter_enum he h
def ItzX (S1 S2 : Hp → Addr → List V → Prop) (a b : Addr) : It :=
  ⟨fun i H => ∃ (xs ys : List V) (x y : V), S1 H a xs ∧ S2 H b ys ∧ xs[i]? = some x ∧ ys[i]? = some y,
    fun i H v H' => ∃ T x y o, v = .ref T ∧ H T = none ∧ o.dict = none ∧ H' = upd H T (.frz o (.tup [x, y])) ∧ (∀ xs, S1 H a xs → xs[i]? = some x) ∧ ∀ ys, S2 H b ys → ys[i]? = some y,
    fun i H => ∃ xs ys : List V, S1 H a xs ∧ S2 H b ys ∧ i ≤ xs.length ∧ i ≤ ys.length ∧ (xs.length ≤ i ∨ ys.length ≤ i)⟩
/-- how a zip of two kinds goes on -/
structure ZipN (Is1 Is2 : Heap → Addr → Array Value → Prop) (J1 J2 : Heap → Addr → Addr → Nat → Prop) : Prop where
  nx : ∀ {prog : Program} {w : World} {A : Around} {E : Value → Shared → Prop} {s : Shared} {z TI TO i1 i2 l1 l2 : Addr} {k : Nat} {xs ys : Array Value} {x y a b : Value} {Q : Option Value → Shared → Prop}, A.handled = none → ZipApart z TI TO i1 i2 l1 l2 →
    IsZip s.heap z TI TO .none → IsPair s.heap TI (.ref i1) (.ref i2) → IsPair s.heap TO a b → J1 s.heap i1 l1 k → J2 s.heap i2 l2 k → Is1 s.heap l1 xs → Is2 s.heap l2 ys → xs[k]? = some x → ys[k]? = some y →
    (∀ h2 tk, IsZip h2 z TI TO (rawInt s.heap.objs.size) → IsPair h2 TO x y → J1 h2 i1 l1 (k + 1) → J2 h2 i2 l2 (k + 1) → IsPair h2 s.heap.objs.size x y →
      (∀ c o, c ≠ z → c ≠ TO → c ≠ i1 → c ≠ i2 → s.heap.get? c = some o → h2.get? c = some o) → Q (some (.ref s.heap.objs.size)) { s with heap := h2, toks := tk }) → wpAny (model prog w) A (pyNext (.ref z)) Q E s
  en : ∀ {prog : Program} {w : World} {A : Around} {E : Value → Shared → Prop} {s : Shared} {z TI TO i1 i2 l1 l2 : Addr} {k : Nat} {xs ys : Array Value} {a b : Value} {Q : Option Value → Shared → Prop}, A.handled = none → ZipApart z TI TO i1 i2 l1 l2 →
    IsZip s.heap z TI TO .none → IsPair s.heap TI (.ref i1) (.ref i2) → IsPair s.heap TO a b → J1 s.heap i1 l1 k → J2 s.heap i2 l2 k → Is1 s.heap l1 xs → Is2 s.heap l2 ys → k ≤ xs.size → k ≤ ys.size → (xs[k]? = none ∨ ys[k]? = none) →
    (∀ h2 tk, (∀ c o, c ≠ z → c ≠ TO → c ≠ i1 → c ≠ i2 → s.heap.get? c = some o → h2.get? c = some o) → Q none { s with heap := h2, toks := tk }) → wpAny (model prog w) A (pyNext (.ref z)) Q E s
theorem zipN_LL : ZipN Heap.IsList Heap.IsList Heap.IsListIter Heap.IsListIter where
  nx := fun {prog w A E s _ _ _ _ _ _ _ _ _ _ _ _ _ _ _} _ D hz hTI hTO h1 h2 p1 p2 hx hy q => wpAny_pyNext_zip_item D hz hTI hTO h1 h2 p1 p2 hx hy fun h' a b c d e _ f => q h' s.toks a b c d e f
  en := fun {prog w A E s _ _ _ _ _ _ _ _ _ _ _ _ _} hh D hz hTI hTO h1 h2 p1 p2 _ _ hx q => wpAny_pyNext_zip_end hh D hz hTI hTO h1 h2 p1 p2 hx fun h' => q h' s.toks
theorem zipN_TT : ZipN Heap.IsTuple Heap.IsTuple Heap.IsTupleIter Heap.IsTupleIter where
  nx := fun {prog w A E s _ _ _ _ _ _ _ _ _ _ _ _ _ _ _} _ D hz hTI hTO h1 h2 p1 p2 hx hy q => RZ.pyNext_zipT_item D hz hTI hTO h1 h2 p1 p2 hx hy fun h' a b c d e _ f => q h' s.toks a b c d e f
  en := fun {prog w A E s _ _ _ _ _ _ _ _ _ _ _ _ _} hh D hz hTI hTO h1 h2 p1 p2 _ _ hx q => RZ.pyNext_zipT_end hh D hz hTI hTO h1 h2 p1 p2 hx fun h' => q h' s.toks
theorem sep_of {z TI TO i1 i2 l1 l2 : Addr} (D : ZipApart z TI TO i1 i2 l1 l2) : ZipSep2 z TI TO i1 i2 [i1, l1] [i2, l2] :=
  { TIz := D.TIz, TOz := D.TOz, TITO := D.TITO, TIi1 := D.TIi1, TIi2 := D.TIi2, mem1 := by simp, mem2 := by simp, zf1 := by simp [D.i1z.symm, D.l1z.symm], zf2 := by simp [D.i2z.symm, D.l2z.symm], Tf1 := by simp [D.TOi1, D.l1TO.symm], Tf2 := by simp [D.TOi2, D.l2TO.symm], sep1_2 := by simp [D.i12, D.l2i1.symm], sep2_1 := by simp [D.i12.symm, D.l1i2.symm] }
theorem same_at {α : Type} {xs : Array α} {k : Nat} {x y : α} (h : xs[k]? = some x) (h2 : xs[k]? = some y) : y = x := Option.some.inj (h2.symm.trans h)
theorem ends_at {α : Type} {xs : Array α} {k : Nat} (h : k ≤ xs.size) (h2 : xs[k]? = none) : k = xs.size := Nat.le_antisymm h (Array.getElem?_eq_none_iff.mp h2)
/-- two kinds of iterators that are drawn from, side by side -/
theorem zipN_of {Is1 Is2 : Heap → Addr → Array Value → Prop} {J1 J2 : Heap → Addr → Addr → Nat → Prop}
    (D1 : ∀ {prog : Program} {w : World} {A : Around}, A.handled = none → ∀ (it l : Addr), l ≠ it → ∀ xs : Array Value, Draws prog w A it [it, l] xs.size (fun i v => xs[i]? = some v) (fun i h => J1 h it l i ∧ Is1 h l xs))
    (D2 : ∀ {prog : Program} {w : World} {A : Around}, A.handled = none → ∀ (it l : Addr), l ≠ it → ∀ xs : Array Value, Draws prog w A it [it, l] xs.size (fun i v => xs[i]? = some v) (fun i h => J2 h it l i ∧ Is2 h l xs)) : ZipN Is1 Is2 J1 J2 where
  nx := fun {prog w A E s z TI TO i1 i2 l1 l2 k xs ys x y a b Q} hh D hz hTI hTO h1 h2 p1 p2 hx hy q => wpAny_pyNext_zipD2_item (sep_of D) (D1 (A := A.in1) hh i1 l1 D.l1i1 xs) (D2 (A := A.in1) hh i2 l2 D.l2i2 ys) hz hTI hTO ⟨h1, p1⟩ ⟨h2, p2⟩ (Array.getElem?_eq_some_iff.mp hx).1 (Array.getElem?_eq_some_iff.mp hy).1 fun x1 x2 h' tk y1 y2 b1 b2 d1 d2 b5 _ b7 => by
    cases same_at hx y1
    cases same_at hy y2
    exact q h' tk b1 b2 d1.1 d2.1 b5 b7
  en := fun {prog w A E s z TI TO i1 i2 l1 l2 k xs ys a b Q} hh D hz hTI hTO h1 h2 p1 p2 z1 z2 hx q => wpAny_pyNext_zipD2_end (sep_of D) (D1 (A := A.in1) hh i1 l1 D.l1i1 xs) (D2 (A := A.in1) hh i2 l2 D.l2i2 ys) hz hTI hTO ⟨h1, p1⟩ ⟨h2, p2⟩ z1 z2 (hx.imp (ends_at z1) (ends_at z2)) q
theorem zipN_LT : ZipN Heap.IsList Heap.IsTuple Heap.IsListIter Heap.IsTupleIter := zipN_of (fun hh it l ne xs => Draws.list hh it l ne xs) (fun hh it l ne xs => Draws.tuple hh it l ne xs)
theorem zipN_TL : ZipN Heap.IsTuple Heap.IsList Heap.IsTupleIter Heap.IsListIter := zipN_of (fun hh it l ne xs => Draws.tuple hh it l ne xs) (fun hh it l ne xs => Draws.list hh it l ne xs)
theorem of5 {P : Addr → Prop} {a b c d e : Addr} (h1 : P a) (h2 : P b) (h3 : P c) (h4 : P d) (h5 : P e) : ∀ x ∈ [a, b, c, d, e], P x :=
  List.forall_mem_cons.mpr ⟨h1, List.forall_mem_cons.mpr ⟨h2, List.forall_mem_cons.mpr ⟨h3, List.forall_mem_cons.mpr ⟨h4, List.forall_mem_cons.mpr ⟨h5, fun _ h => nomatch h⟩⟩⟩⟩⟩
theorem turn_zipX {P : Program} {w : World} {K : PySem.W.Frag} {elts : List Expr} {kk : Nat} {tpos : Pos} {S1 S2 : Hp → Addr → List V → Prop} {Is1 Is2 : Heap → Addr → Array Value → Prop} {J1 J2 : Heap → Addr → Addr → Nat → Prop} (G1 : SrcG K S1 Is1 J1) (G2 : SrcG K S2 Is2 J2) (N : ZipN Is1 Is2 J1 J2)
    {a b z TI TO i1 i2 : Addr} (D : ZipApart z TI TO i1 i2 a b) :
    Turn P w K (.Tuple elts kk tpos) (ItzX S1 S2 a b) [z, TI, TO, i1, i2] z (fun i h => IsZip h z TI TO .none ∧ IsPair h TI (.ref i1) (.ref i2) ∧ (∃ x y, IsPair h TO x y) ∧ J1 h i1 a i ∧ J2 h i2 b i) where
  mem := List.mem_cons_self
  obj := fun i h ⟨hz, hTI, ⟨x, y, hTO⟩, h1, h2⟩ => of5 ⟨_, hz, fun v q => nomatch q⟩ ⟨_, hTI, fun v q => nomatch q⟩ ⟨_, hTO, fun v q => nomatch q⟩ (G1.ob h1) (G2.ob h2)
  keep := fun i h h' ⟨hz, hTI, ⟨x, y, hTO⟩, h1, h2⟩ k => ⟨k z (by simp) _ hz, k TI (by simp) _ hTI, ⟨x, y, k TO (by simp) _ hTO⟩, G1.at_ h1 fun o q => k i1 (by simp) o q, G2.at_ h2 fun o q => k i2 (by simp) o q⟩
  item := by
    intro X hP hw hK hc i pins s σ H E I hf st hg
    subst hP hw
    obtain ⟨hz, hTI, ⟨x0, y0, hTO⟩, h1, h2⟩ := st
    obtain ⟨xs, ys, x, y, hqx, hqy, hx, hy⟩ := hg
    obtain ⟨t1, r1, p1⟩ := G1.get hK I hqx
    obtain ⟨t2, r2, p2⟩ := G2.get hK I hqy
    obtain ⟨u, hu, ru⟩ := r1.get hx
    obtain ⟨v, hv, rv⟩ := r2.get hy
    obtain ⟨o1, e1, _⟩ := G1.ob h1
    obtain ⟨o2, e2, _⟩ := G2.ob h2
    refine N.nx (I.ok.hd hc) D hz hTI hTO h1 h2 p1 p2 (x := u) (y := v) (by simpa using hu) (by simpa using hv) fun h3 tk z3 TO3 h13 h23 hT hk => ?_
    refine ⟨_, rfl, wpAny_letOwnedTupleGo_zip (s := { s with heap := h3, toks := tk }) z3 fun h4 z4 sb => ?_⟩
    have hT4 : h4.get? s.heap.objs.size = some (tobj [u, v]) := (sb.2 _ (Nat.ne_of_gt (Heap.lt_size hz))).trans hT
    have I1 : Inv X pins σ (upd H s.heap.objs.size (.frz (tobj [u, v]) (.tup [x, y]))) { s with heap := h4, toks := tk } :=
      I.turnedNew (t' := tk) (ch := [z, TI, TO, i1, i2]) (fun c o hb q => (sb.2 c (fun e => hb (by simp [e]))).trans (hk c o (fun e => hb (by simp [e])) (fun e => hb (by simp [e])) (fun e => hb (by simp [e])) (fun e => hb (by simp [e])) q)) hf (Nat.le_refl _) (pair_ok hT4 ru rv)
    refine ⟨.ref s.heap.objs.size, _, I1, rfl, ⟨_, x, y, _, rfl, I.hok.fresh (Nat.le_refl _), rfl, rfl, fun l hl => by rw [G1.inj hK I hl hqx]; exact hx, fun l hl => by rw [G2.inj hK I hl hqy]; exact hy⟩,
      ⟨z4, (sb.2 _ D.TIz).trans (hk _ _ D.TIz D.TITO D.TIi1 D.TIi2 hTI), ⟨u, v, (sb.2 _ D.TOz).trans TO3⟩, G1.at_ h13 fun o q => (sb.2 _ D.i1z).trans q, G2.at_ h23 fun o q => (sb.2 _ D.i2z).trans q⟩, fun c hcm => ?_⟩
    have hlt : c < s.heap.objs.size := of5 (P := fun c => c < s.heap.objs.size) (Heap.lt_size hz) (Heap.lt_size hTI) (Heap.lt_size hTO) (Heap.lt_size e1) (Heap.lt_size e2) c hcm
    rw [upd_ne (Nat.ne_of_lt hlt)]; exact (hf c hcm).1
  done := by
    intro X hP hw hK hc i pins s σ H E I hf st hg
    subst hP hw
    obtain ⟨hz, hTI, ⟨x0, y0, hTO⟩, h1, h2⟩ := st
    obtain ⟨xs, ys, hqx, hqy, hle1, hle2, hend⟩ := hg
    obtain ⟨t1, r1, p1⟩ := G1.get hK I hqx
    obtain ⟨t2, r2, p2⟩ := G2.get hK I hqy
    have l1 := r1.length; have l2 := r2.length
    refine N.en (I.ok.hd hc) D hz hTI hTO h1 h2 p1 p2 (by simp; omega) (by simp; omega) ?_ fun h3 tk hk => ⟨rfl, I.turnedL (t' := tk) (ch := [z, TI, TO, i1, i2]) (fun c o hb q => hk c o (fun e => hb (by simp [e])) (fun e => hb (by simp [e])) (fun e => hb (by simp [e])) (fun e => hb (by simp [e])) q) hf⟩
    rcases hend with q | q
    · exact .inl (by simp; omega)
    · exact .inr (by simp; omega)
  self := fun A i s Q E st h => wpAny_pyIter_zip st.1 h
def iZipX (K : PySem.W.Frag) (ta : TA) : TI := fun σ H R => ta σ H fun vs H1 => ∃ a b xs ys, vs = [.ref a, .ref b] ∧ ((SqL K H1 a xs ∧ SqL K H1 b ys ∧ R (ItzX (SqL K) (SqL K) a b) H1) ∨ (SqT K H1 a xs ∧ SqT K H1 b ys ∧ R (ItzX (SqT K) (SqT K) a b) H1) ∨
  (SqL K H1 a xs ∧ SqT K H1 b ys ∧ R (ItzX (SqL K) (SqT K) a b) H1) ∨ (SqT K H1 a xs ∧ SqL K H1 b ys ∧ R (ItzX (SqT K) (SqL K) a b) H1))
theorem pi_zipX {X : Cx} {e e2 : Expr} {ta : TA} {p pos tpos : Pos} {elts : List Expr} {kk : Nat} (hg : Gl X "zip") (hm : X.mg "zip" = none) (ha : PA X [e, e2] ta)
    (hs : starEach [e, e2] X.env = (false, eval e X.env) :: starEach [e2] X.env := by rfl) (hpl : (backTo pos (starEach [e2] X.env)).any (·.1) = false := by rfl) : PI X (.Tuple elts kk tpos) (.Call (.Name "zip" p) [e, e2] [] pos) (iZipX X.K ta) := by
  refine ⟨fun pins s σ H R I h => Call_ (ld_blt I hg hm PyProof.Rows.boot_zip (PyProof.Rows.callWith_type1 (thn (ha.run pos pins s σ H _ I h) fun us s1 ⟨vs, H1, I1, r1, q1⟩ => ?_) hs hpl))⟩
  obtain ⟨a, b, xs, ys, rfl, q1⟩ := q1
  obtain ⟨u, t, rfl, ru, r2⟩ : ∃ u t, us = u :: t ∧ RelV (.ref a) u ∧ Vals [.ref b] t := by cases r1 with | cons x y => exact ⟨_, _, rfl, x, y⟩
  obtain ⟨v, rfl, rv⟩ := vals1 r2
  cases ru; cases rv
  have fr : ∀ k, FpOk X pins H1 (s1.heap.objs.size + k) := fun k => I1.fpOk (Nat.le_add_right _ _) (I1.hok.fresh (Nat.le_add_right _ _))
  have f5 := of5 (P := FpOk X pins H1) (fr 4) (fr 2) (fr 3) (fr 0) (fr 1)
  rcases q1 with ⟨hqx, hqy, q⟩ | ⟨hqx, hqy, q⟩ | ⟨hqx, hqy, q⟩ | ⟨hqx, hqy, q⟩
  · obtain ⟨t1, _, p1, _⟩ := I1.list hqx
    obtain ⟨t2, _, p2, _⟩ := I1.list hqy
    exact call_zip_2 p1.isList p2.isList fun h' hz hTI hTO h1 h2 hsz hk => wpAny_pyIter_zip hz ⟨s1.heap.objs.size + 4, [s1.heap.objs.size + 4, s1.heap.objs.size + 2, s1.heap.objs.size + 3, s1.heap.objs.size, s1.heap.objs.size + 1], _, _, H1, rfl, I1.kept (t' := s1.toks) hk, turn_zipX (srcL X.K) (srcL X.K) zipN_LL (PySem.W.ktu_apart s1.heap.objs.size a b p1.lt p2.lt), ⟨hz, hTI, ⟨_, _, hTO⟩, h1, h2⟩, f5, q⟩
  · obtain ⟨t1, _, p1, _⟩ := I1.tuple hqx
    obtain ⟨t2, _, p2, _⟩ := I1.tuple hqy
    exact RZ.call_zipT (show s1.heap.IsTuple a t1.toArray from p1) (show s1.heap.IsTuple b t2.toArray from p2) fun h' hz hTI hTO h1 h2 hsz hk => wpAny_pyIter_zip hz ⟨s1.heap.objs.size + 4, [s1.heap.objs.size + 4, s1.heap.objs.size + 2, s1.heap.objs.size + 3, s1.heap.objs.size, s1.heap.objs.size + 1], _, _, H1, rfl, I1.kept (t' := s1.toks) hk, turn_zipX (srcT X.K) (srcT X.K) zipN_TT (PySem.W.ktu_apart s1.heap.objs.size a b p1.lt p2.lt), ⟨hz, hTI, ⟨_, _, hTO⟩, h1, h2⟩, f5, q⟩
  · obtain ⟨t1, _, p1, _⟩ := I1.list hqx
    obtain ⟨t2, _, p2, _⟩ := I1.tuple hqy
    exact zip_begins2 (begins_list a t1.toArray) (begins_tuple b t2.toArray) p1.isList p2 fun h' hz hTI hTO h1 h2 hsz hk => wpAny_pyIter_zip hz ⟨s1.heap.objs.size + 4, [s1.heap.objs.size + 4, s1.heap.objs.size + 2, s1.heap.objs.size + 3, s1.heap.objs.size, s1.heap.objs.size + 1], _, _, H1, rfl, I1.kept (t' := s1.toks) hk, turn_zipX (srcL X.K) (srcT X.K) zipN_LT (PySem.W.ktu_apart s1.heap.objs.size a b p1.lt p2.lt), ⟨hz, hTI, ⟨_, _, hTO⟩, ⟨_, h1, rfl, rfl⟩, ⟨_, h2, rfl, rfl⟩⟩, f5, q⟩
  · obtain ⟨t1, _, p1, _⟩ := I1.tuple hqx
    obtain ⟨t2, _, p2, _⟩ := I1.list hqy
    exact zip_begins2 (begins_tuple a t1.toArray) (begins_list b t2.toArray) p1 p2.isList fun h' hz hTI hTO h1 h2 hsz hk => wpAny_pyIter_zip hz ⟨s1.heap.objs.size + 4, [s1.heap.objs.size + 4, s1.heap.objs.size + 2, s1.heap.objs.size + 3, s1.heap.objs.size, s1.heap.objs.size + 1], _, _, H1, rfl, I1.kept (t' := s1.toks) hk, turn_zipX (srcT X.K) (srcL X.K) zipN_TL (PySem.W.ktu_apart s1.heap.objs.size a b p1.lt p2.lt), ⟨hz, hTI, ⟨_, _, hTO⟩, ⟨_, h1, rfl, rfl⟩, ⟨_, h2, rfl, rfl⟩⟩, f5, q⟩
end DL
namespace DL
open PySem PySem.Spec PyProof.Rows L2
variable [Bs]
abbrev DK := D → Sto → Prop
abbrev BK := Bool → Sto → Prop
abbrev LK := List D → Sto → Prop
abbrev DE := En → Sto → DK → Prop
abbrev DT := En → Sto → BK → Prop
abbrev DA := En → Sto → LK → Prop
structure DEnds where
  nx : En → Sto → Prop
  rt : DK
  bk : En → Sto → Prop := fun _ _ => False
  ct : En → Sto → Prop := fun _ _ => False
abbrev DS := DEnds → En → Sto → Prop
def MoE (w : DE) : Prop := ∀ (e : En) (s : Sto) (Q Q' : DK), (∀ d s, Q d s → Q' d s) → w e s Q → w e s Q'
def MoT (w : DT) : Prop := ∀ (e : En) (s : Sto) (Q Q' : BK), (∀ d s, Q d s → Q' d s) → w e s Q → w e s Q'
def MoA (w : DA) : Prop := ∀ (e : En) (s : Sto) (Q Q' : LK), (∀ d s, Q d s → Q' d s) → w e s Q → w e s Q'
structure DEnds.le (A B : DEnds) : Prop where
  nx : ∀ e s, A.nx e s → B.nx e s
  rt : ∀ d s, A.rt d s → B.rt d s
  bk : ∀ e s, A.bk e s → B.bk e s
  ct : ∀ e s, A.ct e s → B.ct e s
theorem DEnds.le.refl (A : DEnds) : A.le A := ⟨fun _ _ h => h, fun _ _ h => h, fun _ _ h => h, fun _ _ h => h⟩
def MoS (w : DS) : Prop := ∀ (A B : DEnds) (e : En) (s : Sto), A.le B → w A e s → w B e s
/-- the wishes below -/
def kE (K : PySem.W.Frag) (H : Hp) (io : List Addr) (F : Hp) (Q : VK) : DK := fun d st' => ∀ v io' F' H', Stp H io F H' io' F' → RelH K H' io' F' st' → Den K io' F' v d → Q v H'
def kT (K : PySem.W.Frag) (H : Hp) (io : List Addr) (F : Hp) (Q : Bool → Hp → Prop) : BK := fun b st' => ∀ io' F' H', Stp H io F H' io' F' → RelH K H' io' F' st' → Q b H'
def kA (K : PySem.W.Frag) (H : Hp) (io : List Addr) (F : Hp) (Q : List V → Hp → Prop) : LK := fun ds st' => ∀ vs io' F' H', Stp H io F H' io' F' → RelH K H' io' F' st' → DenL K io' F' vs ds → Q vs H'
def kN (K : PySem.W.Frag) (H : Hp) (io : List Addr) (F : Hp) (Q : L2.St → Hp → Prop) : En → Sto → Prop := fun env' st' => ∀ σ' io' F' H', Stp H io F H' io' F' → Rel K σ' H' env' io' F' st' → Q σ' H'
def kD (K : PySem.W.Frag) (H : Hp) (io : List Addr) (F : Hp) (D : Ends) : DEnds := ⟨kN K H io F D.nx, kE K H io F D.rt, kN K H io F D.bk, kN K H io F D.ct⟩
def tE (K : PySem.W.Frag) (w : DE) : TE := fun σ H Q => ∃ env io F st, Rel K σ H env io F st ∧ w env st (kE K H io F Q)
def tT (K : PySem.W.Frag) (w : DT) : TT := fun σ H Q => ∃ env io F st, Rel K σ H env io F st ∧ w env st (kT K H io F Q)
def tA (K : PySem.W.Frag) (w : DA) : TA := fun σ H Q => ∃ env io F st, Rel K σ H env io F st ∧ w env st (kA K H io F Q)
def tS (K : PySem.W.Frag) (w : DS) : TS := fun D σ H => ∃ env io F st, Rel K σ H env io F st ∧ w (kD K H io F D) env st
structure WE (X : Cx) (e : Expr) (w : DE) : Prop where
  mo : MoE w
  pe : PE X e (tE X.K w)
structure WT (X : Cx) (e : Expr) (w : DT) : Prop where
  mo : MoT w
  pe : PT X e (tT X.K w)
structure WA (X : Cx) (es : List Expr) (w : DA) : Prop where
  mo : MoA w
  pe : PA X es (tA X.K w)
structure WS (X : Cx) (s : Stmt) (w : DS) : Prop where
  mo : MoS w
  pe : PS X s (tS X.K w)
structure WB (X : Cx) (s : List Stmt) (w : DS) : Prop where
  mo : MoS w
  pe : PSs X s (tS X.K w)
theorem PE_imp {X : Cx} {e : Expr} {t t' : TE} (h : PE X e t) (i : ∀ σ H Q, t' σ H Q → t σ H Q) : PE X e t' := ⟨fun p s σ H Q I q => h.run p s σ H Q I (i σ H Q q)⟩
theorem PT_imp {X : Cx} {e : Expr} {t t' : TT} (h : PT X e t) (i : ∀ σ H Q, t' σ H Q → t σ H Q) : PT X e t' := ⟨fun p s σ H Q I q => h.run p s σ H Q I (i σ H Q q)⟩
theorem PA_imp {X : Cx} {e : List Expr} {t t' : TA} (h : PA X e t) (i : ∀ σ H Q, t' σ H Q → t σ H Q) : PA X e t' := ⟨fun pos p s σ H Q I q => h.run pos p s σ H Q I (i σ H Q q)⟩
theorem PS_imp {X : Cx} {e : Stmt} {t t' : TS} (h : PS X e t) (i : ∀ D σ H, t' D σ H → t D σ H) : PS X e t' := ⟨fun p s σ H Q I q => h.run p s σ H Q I (i Q σ H q)⟩
theorem PSs_imp {X : Cx} {e : List Stmt} {t t' : TS} (h : PSs X e t) (i : ∀ D σ H, t' D σ H → t D σ H) : PSs X e t' := ⟨fun p s σ H Q I q => h.run p s σ H Q I (i Q σ H q)⟩
section
variable {K : PySem.W.Frag} {io io' io1 : List Addr} {F F' F1 H H' H1 : Hp} {st st' : Sto} {σ : L2.St} {env : En}
/-- an expression's reading, its end as one wants -/
theorem tE_use {w : DE} (m : MoE w) {P : DK} {Q : VK} (R : Rel K σ H env io F st) (h : w env st P)
    (k : ∀ d st' v io' F' H', P d st' → Stp H io F H' io' F' → Rel K σ H' env io' F' st' → Den K io' F' v d → Q v H') : tE K w σ H Q :=
  ⟨env, io, F, st, R, m _ _ _ _ (fun d st' p v io' F' H' s r n => k d st' v io' F' H' p s (R.next s r) n) h⟩
theorem tT_use {w : DT} (m : MoT w) {P : BK} {Q : Bool → Hp → Prop} (R : Rel K σ H env io F st) (h : w env st P)
    (k : ∀ b st' io' F' H', P b st' → Stp H io F H' io' F' → Rel K σ H' env io' F' st' → Q b H') : tT K w σ H Q :=
  ⟨env, io, F, st, R, m _ _ _ _ (fun b st' p io' F' H' s r => k b st' io' F' H' p s (R.next s r)) h⟩
theorem tA_use {w : DA} (m : MoA w) {P : LK} {Q : List V → Hp → Prop} (R : Rel K σ H env io F st) (h : w env st P)
    (k : ∀ ds st' vs io' F' H', P ds st' → Stp H io F H' io' F' → Rel K σ H' env io' F' st' → DenL K io' F' vs ds → Q vs H') : tA K w σ H Q :=
  ⟨env, io, F, st, R, m _ _ _ _ (fun d st' p v io' F' H' s r n => k d st' v io' F' H' p s (R.next s r) n) h⟩
theorem kE_at {Q : VK} {d : D} {v : V} (h : kE K H io F Q d st') (s : Stp H io F H' io' F') (r : RelH K H' io' F' st') (n : Den K io' F' v d) : Q v H' := h v io' F' H' s r n
theorem kE_later {Q : VK} {d : D} {st : Sto} (s : Stp H io F H' io' F') (h : kE K H io F Q d st) : kE K H' io' F' Q d st := fun v io2 F2 H2 t r n => h v io2 F2 H2 (s.trans t) r n
theorem kN_later {Q : L2.St → Hp → Prop} {e : En} {st : Sto} (s : Stp H io F H' io' F') (h : kN K H io F Q e st) : kN K H' io' F' Q e st := fun σ2 io2 F2 H2 t r => h σ2 io2 F2 H2 (s.trans t) r
theorem kD_later {D : Ends} (s : Stp H io F H' io' F') : (kD K H io F D).le (kD K H' io' F' D) := ⟨fun _ _ h => kN_later s h, fun _ _ h => kE_later s h, fun _ _ h => kN_later s h, fun _ _ h => kN_later s h⟩
end
section
variable {X : Cx} {pos : Pos}
def wVar (i : Nat) : DE := fun env st Q => ∃ d, env[i]? = some (some d) ∧ Q d st
theorem we_var {i : Nat} {x : Str} (hN : X.N[i]? = some x) (hv : Vis X.env.scope x) (hd : (x == ("__debug__" : Str)) = false := by decide) (hcd : (x == ("__classdict__" : Str)) = false := by decide) : WE X (.Name x pos) (wVar i) := by
  refine ⟨fun e s Q Q' h ⟨d, h1, h2⟩ => ⟨d, h1, h _ _ h2⟩, PE_imp (pe_var hN hv hd hcd) fun σ H Q ⟨env, io, F, st, R, d, e, q⟩ => ?_⟩
  obtain ⟨v, h1, h2⟩ := R.slot i d e
  exact ⟨v, h1, q v io F H Stp.refl R.toRelH h2⟩
def wC (d : D) : DE := fun _ st Q => Q d st
theorem moC (d : D) : MoE (wC d) := fun _ _ _ _ h q => h _ _ q
theorem we_c {e : Expr} {v : V} {d : D} (h : PE X e (tC v)) (hd : ∀ io F, Den X.K io F v d) : WE X e (wC d) :=
  ⟨moC d, PE_imp h fun σ H Q ⟨env, io, F, st, R, q⟩ => q v io F H Stp.refl R.toRelH (hd _ _)⟩
theorem we_int {i : Int} {j} : WE X (.Constant (.int i) j pos) (wC (.int i)) := we_c pe_int fun _ _ => .int i
theorem we_bl {b : Bool} {j} : WE X (.Constant (.bool b) j pos) (wC (.bl b)) := we_c pe_bl fun _ _ => .bl b
theorem we_non {j} : WE X (.Constant .none j pos) (wC .non) := we_c pe_non fun _ _ => .non
theorem we_str {x} {j} : WE X (.Constant (.str x) j pos) (wC (.str x)) := we_c pe_str fun _ _ => .str x
end
abbrev R2D := D → D → Sto → DK → Prop
def wOp (f : R2D) (wa wb : DE) : DE := fun env st Q => wa env st fun a s1 => wb env s1 fun b s2 => f a b s2 Q
def MoR (f : R2D) : Prop := ∀ a b s Q Q', (∀ d s, Q d s → Q' d s) → f a b s Q → f a b s Q'
/-- f is done by r -/
structure Rz (K : PySem.W.Frag) (r : R2) (f : R2D) : Prop where
  mo : MoR f
  on : ∀ {H io F st x y a b Q}, RelH K H io F st → Den K io F x a → Den K io F y b → f a b st (kE K H io F Q) → r x y H Q
theorem moOp {f : R2D} {wa wb : DE} (mf : MoR f) (ma : MoE wa) (mb : MoE wb) : MoE (wOp f wa wb) := fun e s Q Q' h q => ma _ _ _ _ (fun _ _ q => mb _ _ _ _ (fun _ _ q => mf _ _ _ _ _ h q) q) q
theorem tOp_of {X : Cx} {r : R2} {f : R2D} {a b : Expr} {wa wb : DE} (z : Rz X.K r f) (ha : WE X a wa) (hb : WE X b wb) {σ : L2.St} {H : Hp} {Q : VK} (h : tE X.K (wOp f wa wb) σ H Q) : tOp r (tE X.K wa) (tE X.K wb) σ H Q := by
  obtain ⟨env, io, F, st, R, q⟩ := h
  refine tE_use ha.mo R q fun d1 s1 v1 io1 F1 H1 q1 t1 R1 n1 => ?_
  refine tE_use hb.mo R1 q1 fun d2 s2 v2 io2 F2 H2 q2 t2 R2 n2 => ?_
  exact z.on R2.toRelH (t2.den n1) n2 (z.mo _ _ _ _ _ (fun d s => kE_later (t1.trans t2)) q2)
section
variable {X : Cx} {pos : Pos} {a b c : Expr} {wa wb wc : DE}
theorem we_op {op : Operator} {r : R2} {f : R2D} (ho : OpR X (binaryOp op) r) (z : Rz X.K r f) (ha : WE X a wa) (hb : WE X b wb) : WE X (.BinOp a op b pos) (wOp f wa wb) :=
  ⟨moOp z.mo ha.mo hb.mo, PE_imp (pe_op ho ha.pe hb.pe) fun σ H Q h => tOp_of z ha hb h⟩
theorem we_cmp {op : CmpOp} {r : R2} {f : R2D} (ho : OpR X (compareOp op) r) (z : Rz X.K r f) (ha : WE X a wa) (hb : WE X b wb) (hm : behindInMarks op b = false) : WE X (.Compare a [op] [b] pos) (wOp f wa wb) :=
  ⟨moOp z.mo ha.mo hb.mo, PE_imp (pe_cmpR ho ha.pe hb.pe hm) fun σ H Q h => tOp_of z ha hb h⟩
/-- a value that is a bool, as a test -/
def wTest (w : DE) : DT := fun env st Q => w env st fun d s => ∃ b, d = .bl b ∧ Q b s
theorem moTest {w : DE} (m : MoE w) : MoT (wTest w) := fun e s Q Q' h q => m _ _ _ _ (fun _ _ ⟨b, e, q⟩ => ⟨b, e, h _ _ q⟩) q
theorem kB {K : PySem.W.Frag} {H : Hp} {io : List Addr} {F : Hp} {Q : Bool → Hp → Prop} {d : D} {st : Sto} (h : ∃ b, d = .bl b ∧ kT K H io F Q b st) : kE K H io F (fun x H' => ∃ k, x = .bl k ∧ Q k H') d st := by
  obtain ⟨b, e, q⟩ := h
  subst e
  intro v io' F' H' s r n
  cases n
  exact ⟨b, rfl, q _ _ _ s r⟩
theorem wt_val {e : Expr} {w : DE} (h : WE X e w) (he : ∀ whole, isTrue e X.env whole = (do let v ← whole; standAt e.pos; holding [v] (truthy v)) := by intro _; rfl) : WT X e (wTest w) :=
  ⟨moTest h.mo, PT_imp (pt_val h.pe he) fun σ H Q ⟨env, io, F, st, R, q⟩ => ⟨env, io, F, st, R, h.mo _ _ _ _ (fun d s => kB) q⟩⟩
theorem wt_cmp {op : CmpOp} {r : R2} {f : R2D} (ho : OpR X (compareOp op) r) (z : Rz X.K r f) (ha : WE X a wa) (hb : WE X b wb) (hm : behindInMarks op b = false) : WT X (.Compare a [op] [b] pos) (wTest (wOp f wa wb)) :=
  ⟨moTest (moOp z.mo ha.mo hb.mo), PT_imp (pt_cmpR ho ha.pe hb.pe hm) fun σ H Q ⟨env, io, F, st, R, q⟩ =>
    tOp_of z ha hb ⟨env, io, F, st, R, moOp z.mo ha.mo hb.mo _ _ _ _ (fun d s => kB) q⟩⟩
def wChain (f f' : R2D) (wa wb wc : DE) : DE := fun env st Q => wa env st fun x s1 => wb env s1 fun y s2 => f x y s2 fun z s3 => ∃ k, z = .bl k ∧ if k = true then wc env s3 fun u s4 => f' y u s4 Q else Q (.bl false) s3
theorem moChain {f f' : R2D} (mf : MoR f) (mf' : MoR f') (ma : MoE wa) (mb : MoE wb) (mc : MoE wc) : MoE (wChain f f' wa wb wc) := fun e s Q Q' h q =>
  ma _ _ _ _ (fun _ _ q => mb _ _ _ _ (fun _ _ q => mf _ _ _ _ _ (fun _ _ ⟨k, e, q⟩ => ⟨k, e, by
    cases k with
    | true => exact mc _ _ _ _ (fun _ _ q => mf' _ _ _ _ _ h q) q
    | false => exact h _ _ q⟩) q) q) q
theorem tChain_of {r r' : R2} {f f' : R2D} (z : Rz X.K r f) (z' : Rz X.K r' f') (ha : WE X a wa) (hb : WE X b wb) (hc : WE X c wc) {σ : L2.St} {H : Hp} {Q : VK} (h : tE X.K (wChain f f' wa wb wc) σ H Q) : tChain r r' (tE X.K wa) (tE X.K wb) (tE X.K wc) σ H Q := by
  obtain ⟨env, io, F, st, R, q⟩ := h
  refine tE_use ha.mo R q fun d1 s1 v1 io1 F1 H1 q1 t1 R1 n1 => ?_
  refine tE_use hb.mo R1 q1 fun d2 s2 v2 io2 F2 H2 q2 t2 R2 n2 => ?_
  refine z.on R2.toRelH (t2.den n1) n2 (z.mo _ _ _ _ _ (fun d s3 q3 => ?_) q2)
  obtain ⟨k, e, q3⟩ := q3
  subst e
  intro v3 io3 F3 H3 t3 R3 n3
  cases n3
  refine ⟨k, rfl, ?_⟩
  cases k with
  | true =>
    rw [if_pos rfl] at q3 ⊢
    refine tE_use hc.mo (R2.next t3 R3) q3 fun d4 s4 v4 io4 F4 H4 q4 t4 R4 n4 => ?_
    exact z'.on R4.toRelH ((t3.trans t4).den n2) n4 (z'.mo _ _ _ _ _ (fun d s => kE_later (((t1.trans t2).trans t3).trans t4)) q4)
  | false =>
    rw [if_neg Bool.false_ne_true] at q3 ⊢
    exact kE_at q3 ((t1.trans t2).trans t3) R3 (.bl false)
theorem we_chain {op op' : CmpOp} {r r' : R2} {f f' : R2D} (ho : OpR X (compareOp op) r) (z : Rz X.K r f) (ho' : OpR X (compareOp op') r') (z' : Rz X.K r' f') (ha : WE X a wa) (hb : WE X b wb) (hc : WE X c wc)
    (hm : lastMarks [op, op'] [b, c] = false := by with_unfolding_all rfl) : WE X (.Compare a [op, op'] [b, c] pos) (wChain f f' wa wb wc) :=
  ⟨moChain z.mo z'.mo ha.mo hb.mo hc.mo, PE_imp (pe_chain ho ho' ha.pe hb.pe hc.pe hm) fun σ H Q h => tChain_of z z' ha hb hc h⟩
theorem wt_chain {op op' : CmpOp} {r r' : R2} {f f' : R2D} (ho : OpR X (compareOp op) r) (z : Rz X.K r f) (ho' : OpR X (compareOp op') r') (z' : Rz X.K r' f') (ha : WE X a wa) (hb : WE X b wb) (hc : WE X c wc)
    (hm : lastMarks [op, op'] [b, c] = false := by with_unfolding_all rfl) : WT X (.Compare a [op, op'] [b, c] pos) (wTest (wChain f f' wa wb wc)) :=
  ⟨moTest (moChain z.mo z'.mo ha.mo hb.mo hc.mo), PT_imp (pt_chain ho ho' ha.pe hb.pe hc.pe hm) fun σ H Q ⟨env, io, F, st, R, q⟩ =>
    tChain_of z z' ha hb hc ⟨env, io, F, st, R, moChain z.mo z'.mo ha.mo hb.mo hc.mo _ _ _ _ (fun d s => kB) q⟩⟩
end
end DL
namespace DL
open PySem PySem.Spec PyProof.Rows L2
variable [Bs]
section
variable {X : Cx} {pos : Pos} {a b : Expr} {rest : List Expr} {wa wb : DE} {ta tb : DT}
def wAnd (ta tb : DT) : DT := fun env st Q => ta env st fun c s => if c = true then tb env s Q else Q false s
def wOr (ta tb : DT) : DT := fun env st Q => ta env st fun c s => if c = true then Q true s else tb env s Q
def wNot (ta : DT) : DT := fun env st Q => ta env st fun c s => Q (!c) s
theorem moAnd (ma : MoT ta) (mb : MoT tb) : MoT (wAnd ta tb) := fun e s Q Q' h q => ma _ _ _ _ (fun c _ q => by cases c with
  | true => exact mb _ _ _ _ h q
  | false => exact h _ _ q) q
theorem moOr (ma : MoT ta) (mb : MoT tb) : MoT (wOr ta tb) := fun e s Q Q' h q => ma _ _ _ _ (fun c _ q => by cases c with
  | true => exact h _ _ q
  | false => exact mb _ _ _ _ h q) q
/-- a test whatever its whole is -/
structure WW (X : Cx) (e : Expr) (w : DT) : Prop where
  mo : MoT w
  pe : PW X e (tT X.K w)
theorem WW.wt {e : Expr} {w : DT} (h : WW X e w) : WT X e w := ⟨h.mo, h.pe.pt⟩
theorem PW_imp {e : Expr} {t t' : TT} (h : PW X e t) (i : ∀ σ H Q, t' σ H Q → t σ H Q) : PW X e t' := ⟨fun w p s σ H Q I q => h.run w p s σ H Q I (i σ H Q q)⟩
theorem ww_and1 (h : WT X a ta) : WW X (.BoolOp .And [a] pos) ta := ⟨h.mo, pw_and1 h.pe⟩
theorem ww_or1 (h : WT X a ta) : WW X (.BoolOp .Or [a] pos) ta := ⟨h.mo, pw_or1 h.pe⟩
theorem ww_and (ha : WT X a ta) (hb : WW X (.BoolOp .And (b :: rest) pos) tb) : WW X (.BoolOp .And (a :: b :: rest) pos) (wAnd ta tb) := by
  refine ⟨moAnd ha.mo hb.mo, PW_imp (pw_and ha.pe hb.pe) fun σ H Q ⟨env, io, F, st, R, q⟩ => ?_⟩
  refine tT_use ha.mo R q fun c s1 io1 F1 H1 q1 t1 R1 => ?_
  cases c with
  | true => exact tT_use hb.mo R1 q1 fun c s2 io2 F2 H2 q2 t2 R2 => q2 _ _ _ (t1.trans t2) R2.toRelH
  | false => exact q1 _ _ _ t1 R1.toRelH
theorem ww_or (ha : WT X a ta) (hb : WW X (.BoolOp .Or (b :: rest) pos) tb) : WW X (.BoolOp .Or (a :: b :: rest) pos) (wOr ta tb) := by
  refine ⟨moOr ha.mo hb.mo, PW_imp (pw_or ha.pe hb.pe) fun σ H Q ⟨env, io, F, st, R, q⟩ => ?_⟩
  refine tT_use ha.mo R q fun c s1 io1 F1 H1 q1 t1 R1 => ?_
  cases c with
  | true => exact q1 _ _ _ t1 R1.toRelH
  | false => exact tT_use hb.mo R1 q1 fun c s2 io2 F2 H2 q2 t2 R2 => q2 _ _ _ (t1.trans t2) R2.toRelH
theorem wt_not (ha : WT X a ta) : WT X (.UnaryOp .Not a pos) (wNot ta) :=
  ⟨fun e s Q Q' h q => ha.mo _ _ _ _ (fun _ _ q => h _ _ q) q, PT_imp (pt_not ha.pe) fun σ H Q ⟨env, io, F, st, R, q⟩ => ⟨env, io, F, st, R, q⟩⟩
def wAndV (wa wb : DE) : DE := fun env st Q => wa env st fun d s => ∃ c, d = .bl c ∧ if c = true then wb env s Q else Q (.bl false) s
def wOrV (wa wb : DE) : DE := fun env st Q => wa env st fun d s => ∃ c, d = .bl c ∧ if c = true then Q (.bl true) s else wb env s Q
def wNotV (wa : DE) : DE := fun env st Q => wa env st fun d s => ∃ c, d = .bl c ∧ Q (.bl (!c)) s
theorem we_one {op} (h : WE X a wa) : WE X (.BoolOp op [a] pos) wa := ⟨h.mo, pe_one h.pe⟩
theorem we_and (ha : WE X a wa) (hb : WE X (.BoolOp .And (b :: rest) pos) wb) : WE X (.BoolOp .And (a :: b :: rest) pos) (wAndV wa wb) := by
  refine ⟨fun e s Q Q' h q => ha.mo _ _ _ _ (fun _ _ ⟨c, e, q⟩ => ⟨c, e, by
    cases c with
    | true => exact hb.mo _ _ _ _ h q
    | false => exact h _ _ q⟩) q, PE_imp (pe_and ha.pe hb.pe) fun σ H Q ⟨env, io, F, st, R, q⟩ => ?_⟩
  refine tE_use ha.mo R q fun d s1 v io1 F1 H1 q1 t1 R1 n1 => ?_
  obtain ⟨c, e, q1⟩ := q1
  subst e
  cases n1
  refine ⟨c, rfl, ?_⟩
  cases c with
  | true => exact tE_use hb.mo R1 q1 fun d s2 v2 io2 F2 H2 q2 t2 R2 n2 => kE_at q2 (t1.trans t2) R2.toRelH n2
  | false => exact kE_at q1 t1 R1.toRelH (.bl false)
theorem we_or (ha : WE X a wa) (hb : WE X (.BoolOp .Or (b :: rest) pos) wb) : WE X (.BoolOp .Or (a :: b :: rest) pos) (wOrV wa wb) := by
  refine ⟨fun e s Q Q' h q => ha.mo _ _ _ _ (fun _ _ ⟨c, e, q⟩ => ⟨c, e, by
    cases c with
    | true => exact h _ _ q
    | false => exact hb.mo _ _ _ _ h q⟩) q, PE_imp (pe_or ha.pe hb.pe) fun σ H Q ⟨env, io, F, st, R, q⟩ => ?_⟩
  refine tE_use ha.mo R q fun d s1 v io1 F1 H1 q1 t1 R1 n1 => ?_
  obtain ⟨c, e, q1⟩ := q1
  subst e
  cases n1
  refine ⟨c, rfl, ?_⟩
  cases c with
  | true => exact kE_at q1 t1 R1.toRelH (.bl true)
  | false => exact tE_use hb.mo R1 q1 fun d s2 v2 io2 F2 H2 q2 t2 R2 n2 => kE_at q2 (t1.trans t2) R2.toRelH n2
theorem we_not (ha : WE X a wa) : WE X (.UnaryOp .Not a pos) (wNotV wa) := by
  refine ⟨fun e s Q Q' h q => ha.mo _ _ _ _ (fun _ _ ⟨c, e, q⟩ => ⟨c, e, h _ _ q⟩) q, PE_imp (pe_not ha.pe) fun σ H Q ⟨env, io, F, st, R, q⟩ => ?_⟩
  refine tE_use ha.mo R q fun d s1 v io1 F1 H1 q1 t1 R1 n1 => ?_
  obtain ⟨c, e, q1⟩ := q1
  subst e
  cases n1
  exact ⟨c, rfl, kE_at q1 t1 R1.toRelH (.bl _)⟩
def wNeg (wa : DE) : DE := fun env st Q => wa env st fun d s => ∃ i, d = .int i ∧ Q (.int (-i)) s
theorem we_neg (ha : WE X a wa) : WE X (.UnaryOp .USub a pos) (wNeg wa) := by
  refine ⟨fun e s Q Q' h q => ha.mo _ _ _ _ (fun _ _ ⟨c, e, q⟩ => ⟨c, e, h _ _ q⟩) q, PE_imp (pe_un un_neg ha.pe) fun σ H Q ⟨env, io, F, st, R, q⟩ => ?_⟩
  refine tE_use ha.mo R q fun d s1 v io1 F1 H1 q1 t1 R1 n1 => ?_
  obtain ⟨c, e, q1⟩ := q1
  subst e
  cases n1
  exact ⟨c, rfl, kE_at q1 t1 R1.toRelH (.int _)⟩
def wNil : DA := fun _ st Q => Q [] st
def wCons (wa : DE) (wr : DA) : DA := fun env st Q => wa env st fun d s1 => wr env s1 fun ds s2 => Q (d :: ds) s2
theorem wa_nil : WA X [] wNil := ⟨fun _ _ _ _ h q => h _ _ q, PA_imp pa_nil fun σ H Q ⟨env, io, F, st, R, q⟩ => q [] io F H Stp.refl R.toRelH .nil⟩
theorem wa_cons {es : List Expr} {wr : DA} (ha : WE X a wa) (hr : WA X es wr) (hs : starEach (a :: es) X.env = (false, eval a X.env) :: starEach es X.env := by rfl) : WA X (a :: es) (wCons wa wr) := by
  refine ⟨fun e s Q Q' h q => ha.mo _ _ _ _ (fun _ _ q => hr.mo _ _ _ _ (fun _ _ q => h _ _ q) q) q, PA_imp (pa_cons ha.pe hr.pe hs) fun σ H Q ⟨env, io, F, st, R, q⟩ => ?_⟩
  refine tE_use ha.mo R q fun d s1 v io1 F1 H1 q1 t1 R1 n1 => ?_
  refine tA_use hr.mo R1 q1 fun ds s2 vs io2 F2 H2 q2 t2 R2 n2 => ?_
  exact q2 _ _ _ _ (t1.trans t2) R2.toRelH (.cons (t2.den n1) n2)
end
/-- a new tuple -/
theorem lay_tup {K : PySem.W.Frag} {H : Hp} {io : List Addr} {F : Hp} {st : Sto} {Q : VK} {vs : List V} {ds : List D} (R : RelH K H io F st) (n : DenL K io F vs ds) (z : ds.length ≤ sizeLine) (q : kE K H io F Q (.tup ds) st) :
    XtK H Q vs := fun p o hp hd =>
  q _ io (upd F p (.frz o (.tup vs))) _ (Stp.laid hp R.sub) (R.laid hp) (.tup (.inl ⟨o, upd_same, hd⟩) ((Stp.laid hp R.sub).denL n) z)
theorem lay_lst {K : PySem.W.Frag} {H : Hp} {io : List Addr} {F : Hp} {st : Sto} {Q : VK} {vs : List V} {ds : List D} (R : RelH K H io F st) (n : DenL K io F vs ds) (z : ds.length ≤ sizeLine) (q : kE K H io F Q (.lst ds) st) :
    ∀ p, H p = none → Q (.ref p) (upd H p (.lst vs)) := fun p hp =>
  q _ io (upd F p (.lst vs)) _ (Stp.laid hp R.sub) (R.laid hp) (.lst upd_same ((Stp.laid hp R.sub).denL n) z)
section
variable {K : PySem.W.Frag} {io io' : List Addr} {F F' H H' : Hp} {st st' : Sto}
/-- a new cell -/
theorem new_cell (R : RelH K H io F st) {p : Addr} {vs : List V} {ds : List D} (hp : H p = none) (n : DenL K io F vs ds) (z : ds.length ≤ sizeLine) :
    Stp H io F (upd H p (.lst vs)) (io ++ [p]) F ∧ RelH K (upd H p (.lst vs)) (io ++ [p]) F (st ++ [.lst ds]) ∧ Den K (io ++ [p]) F (.ref p) (.ref st.length) := by
  have s : Stp H io F (upd H p (.lst vs)) (io ++ [p]) F := (Stp.aside hp).cell hp
  exact ⟨s, (R.aside hp).adopt ⟨_, upd_same, fun _ z => nomatch z⟩ (R.notIo hp) ⟨R.notF hp, z, vs, upd_same, s.denL n⟩, R.newRef⟩
theorem lay_cell {Q : VK} {vs : List V} {ds : List D} (R : RelH K H io F st) (n : DenL K io F vs ds) (z : ds.length ≤ sizeLine) (q : kE K H io F Q (.ref st.length) (st ++ [.lst ds])) :
    ∀ p, H p = none → Q (.ref p) (upd H p (.lst vs)) := fun p hp => by
  obtain ⟨s, r, d⟩ := new_cell R hp n z
  exact q _ _ _ _ s r d
/-- a new list: kept apart (mutable) or a value -/
def newL (m : Bool) (ds : List D) (st : Sto) (Q : DK) : Prop := if m = true then Q (.ref st.length) (st ++ [.lst ds]) else Q (.lst ds) st
theorem newL_mo {m : Bool} {ds : List D} {st : Sto} {Q Q' : DK} (h : ∀ d s, Q d s → Q' d s) (q : newL m ds st Q) : newL m ds st Q' := by
  cases m with
  | true => exact h _ _ q
  | false => exact h _ _ q
theorem lay_new {m : Bool} {Q : VK} {vs : List V} {ds : List D} (R : RelH K H io F st) (n : DenL K io F vs ds) (z : ds.length ≤ sizeLine) (q : newL m ds st (kE K H io F Q)) :
    ∀ p, H p = none → Q (.ref p) (upd H p (.lst vs)) := by
  cases m with
  | true => exact lay_cell R n z q
  | false => exact lay_lst R n z q
end
section
variable {X : Cx} {pos : Pos} {es : List Expr} {wa : DA}
def wTup (wa : DA) : DE := fun env st Q => wa env st fun ds s => ds.length ≤ sizeLine ∧ Q (.tup ds) s
def wLst (m : Bool) (wa : DA) : DE := fun env st Q => wa env st fun ds s => ds.length ≤ sizeLine ∧ newL m ds s Q
theorem we_tup {k} (h : WA X es wa) : WE X (.Tuple es k pos) (wTup wa) := by
  refine ⟨fun e s Q Q' i q => h.mo _ _ _ _ (fun _ _ ⟨z, q⟩ => ⟨z, i _ _ q⟩) q, PE_imp (pe_tupX h.pe) fun σ H Q ⟨env, io, F, st, R, q⟩ => ?_⟩
  refine tA_use h.mo R q fun ds s1 vs io1 F1 H1 ⟨z, q1⟩ t1 R1 n1 => ⟨by rw [n1.length]; exact z, ?_⟩
  exact lay_tup R1.toRelH n1 z (kE_later t1 q1)
theorem we_lst {m : Bool} (h : WA X es wa) : WE X (.List es pos) (wLst m wa) := by
  refine ⟨fun e s Q Q' i q => h.mo _ _ _ _ (fun _ _ ⟨z, q⟩ => ⟨z, newL_mo i q⟩) q, PE_imp (pe_lst h.pe) fun σ H Q ⟨env, io, F, st, R, q⟩ => ?_⟩
  refine tA_use h.mo R q fun ds s1 vs io1 F1 H1 ⟨z, q1⟩ t1 R1 n1 => ⟨by rw [n1.length]; exact z, ?_⟩
  exact lay_new R1.toRelH n1 z (newL_mo (fun _ _ => kE_later t1) q1)
end
end DL
namespace DL
open PySem PySem.Spec PyProof.Rows L2
structure FnG (P : Program) (w : World) (K : PySem.W.Frag) (mg : Str → Option Value) (base : Heap) (CX : CXT) (k : Nat) (f : Addr) (fd : FuncData) (ps : List Str) (sp : Sp) : Prop where
  len : ∀ vs H Q E, sp vs H Q E → vs.length = ps.length
  run : ∀ (A : Around) (outer : List Env) (s : Shared) (H : Hp) (args : Args) (us : List Value) (vs : List V) (Q : VK) (E : XK), Room k A → A.guards = some [] → Env0 P w K mg base A outer s H → BindsTo s fd args (ps.zip us) →
    Vals vs us → sp vs H Q E → codeAny (model P w) A (.call (.ref f) args) (CR CX outer P w H s Q E) s
theorem FnG.mono {P : Program} {w : World} {K : PySem.W.Frag} {mg : Str → Option Value} {base : Heap} {CX : CXT} {j k : Nat} {f : Addr} {fd : FuncData} {ps : List Str} {sp : Sp} (F : FnG P w K mg base CX j f fd ps sp) (h : j ≤ k) :
    FnG P w K mg base CX k f fd ps sp := ⟨F.len, fun A outer s H args us vs Q E hr => F.run A outer s H args us vs Q E (hr.mono h)⟩
section
variable {X : Cx} {CX : CXT} {k : Nat} {f : Addr} {fd : FuncData} {ps : List Str} {sp : Sp} {E : XK} {x : Str} {p pos : Pos} {e : Expr} {es : List Expr} {t : TA}
theorem runG {pins : List (Addr × Obj)} {σ : L2.St} {H : Hp} {s : Shared} {Q : VK} {us : List Value} {vs : List V} (F : FnG X.prog X.w X.K X.mg X.base CX k f fd ps sp) (hr : Room k X.A) (hgd : X.A.guards = some []) (hb : Binds X.K fd ps [])
    (hx : Passes CX X E) (I : Inv X pins σ H s) (r : Vals vs us) (h : sp vs H Q E) : wpAny (model X.prog X.w) X.A (call (.ref f) us) (EP X pins σ Q) X.xe s := by
  have hlen : (us ++ []).length = ps.length := by rw [List.append_nil, ← r.length]; exact F.len _ _ _ _ h
  have hbind := hb s us I.kIn hlen
  rw [List.append_nil] at hbind
  have run := F.run X.A X.stack s H ⟨us, []⟩ us vs Q E hr hgd I.env0 hbind r h
  refine wpAny_call (codeAny_mono run fun res s' hq => ?_)
  match res, hq with
  | .error e, hq => exact hx pins σ H s e s' I hq
  | .ok (.ret u), hq => exact I.after hq
  | .ok .next, hq => exact hq.elim
  | .ok .brk, hq => exact hq.elim
  | .ok .cont, hq => exact hq.elim
theorem pe_callG (F : FnG X.prog X.w X.K X.mg X.base CX k f fd ps sp) (hr : Room k X.A) (hgd : X.A.guards = some []) (hg : Gl X x) (hm : X.mg x = some (.ref f)) (hk : PySem.W.keepIn X.K (.ref f) = true) (hb : Binds X.K fd ps []) (hx : Passes CX X E)
    (ha : PA X (e :: es) t) (hdb : (x == ("__debug__" : Str)) = false := by decide) (he : starEach (e :: es) X.env = (false, eval e X.env) :: starEach es X.env := by rfl) (hpl : (backTo pos (starEach es X.env)).any (·.1) = false := by rfl) :
    PE X (.Call (.Name x p) (e :: es) [] pos) (fun σ H Q => t σ H fun vs H1 => sp vs H1 Q E) := by
  refine ⟨fun pins s σ H Q I h => wpAny_Call_Name_kw (ld_glob I hg hm ?_ hdb)⟩
  refine PySem.W.callWith_K (h₀ := X.base) I.ok.mod.kin hk (thn (ha.run pos pins s σ H _ I h) fun us s1 h1 => ?_) he hpl
  obtain ⟨vs, H1, I1, r, q⟩ := h1
  exact ⟨I1.kIn, runG F hr hgd hb hx I1 r q⟩
end
/-- a def by its body -/
theorem fnG_of {CX : CXT} {P : Program} {w : World} {K : PySem.W.Frag} {mg : Str → Option Value} {base : Heap} {x qual : Str} {st : Stmt} {f : Addr} {fd : FuncData} {N ps : List Str} {k : Nat} {sp : Sp} (F : Fun K x qual st f fd) (S : FnScope N ps (defScope st))
    (len : ∀ vs H Q E, sp vs H Q E → vs.length = ps.length)
    (hbody : ∀ (cdv : Value) (A : Around) (outer : List Env) (s : Shared) (H : Hp) (vs : List V) (Q : VK) (E : XK), fd.code = cdv → Room k (A.deeper (envOfC qual (defScope st) s.heap.objs.size f cdv)) → A.guards = some [] → sp vs H Q E →
      ∃ t, PSs (cxOf CX P w K mg base N qual (defScope st) f cdv A outer s H E) (defBody st) t ∧ t { nx := fun _ H' => Q .non H', rt := Q } (L2.start N vs) H) : FnG P w K mg base CX (k + 1) f fd ps sp := by
  obtain ⟨oc, od, kV, doc, pm, an, cdv, ct, osl, rfl, lk, hcd⟩ := F.ex
  refine ⟨len, fun A outer s H args us vs Q E hr hgd e0 hb r hsp => ?_⟩
  have hl := len _ _ _ _ hsp
  have inK : K.In s.heap := e0.mod.kin.keeps fun b o e => (e0.bs b o e).1
  have lim : s.heap.NoLimit := e0.mod.nolimit.keeps fun b o e => (e0.bs b o e).1
  have slots : ∀ y ∈ ps.zip us, (defScope st).names.lookup y.1 = some .local ∨ ((defScope st).names.lookup y.1 = some .cell ∧ ((cellsFrom (s.heap.objs.size + 1) (defScope st).names []).lookup y.1).isSome = true) := by
    rintro ⟨n, v⟩ hy
    have q := S.par n (List.of_mem_zip hy).1
    exact q.elim .inl fun q => .inr ⟨q, PySem.W.cellsFrom_some _ _ _ (.inl q)⟩
  refine codeAny_call_function hr.depth (inK _ _ lk) rfl S.co S.gen rfl (PySem.W.codeRec_of inK hcd) (hb _ _ _ _ ?_)
  refine wpAny_newFunctionEnv_cells S.kind slots fun env he s1 entry => ?_
  subst he
  obtain ⟨t, ht, hq⟩ := hbody cdv A outer s H vs Q E rfl (hr.deeper _) hgd hsp
  have I : Inv (cxOf CX P w K mg base N qual (defScope st) f cdv A outer s H E) [] (L2.start N vs) H s1 := inv_start S hr.hd e0 hl r entry
  refine ⟨lim.keeps entry.toInCall.keep, codeAny_func (wpAny_mono (ht.run [] s1 _ H _ I hq) (fun fl s' hs => ?_) fun e s' hs => hs)⟩
  match fl, hs with
  | .ret u, ⟨v, _, H', J, rv, q⟩ => exact ⟨v, H', J.os, J.bare, J.base, J.hok, rv, q⟩
  | .next, ⟨_, H', J, q⟩ => exact ⟨.non, H', J.os, J.bare, J.base, J.hok, rfl, q⟩
  | .brk, ⟨_, _, _, q⟩ => exact q.elim
  | .cont, ⟨_, _, _, q⟩ => exact q.elim
/-- the code objects and tables of the defs that make lambdas -/
def tabCs (K : PySem.W.Frag) : List (Addr × Addr) := lamNames.filterMap fun x => PySem.W.tabIn K x
theorem tabs_cs {K : PySem.W.Frag} {p : Addr × Str} (h : p ∈ tabsOf K) : ∃ c, (c, p.1) ∈ tabCs K := by
  obtain ⟨x, hx, e⟩ := List.mem_filterMap.mp h
  cases q : PySem.W.tabIn K x with
  | none => rw [q] at e; cases e
  | some r =>
    rw [q] at e
    cases e
    exact ⟨r.1, List.mem_filterMap.mpr ⟨x, hx, q⟩⟩
/-- the law's call -/
theorem law_callT {P : Program} {w : World} {K : PySem.W.Frag} {mg mb : Str → Option Value} {k : Nat} {fa a : Addr} {fd : FuncData} {x : Str} {sp : Sp} {s₁ : Shared} {vs : List Value} {ns : List Int}
    (KX : K.In s₁.heap) (hns : s₁.heap.Ns mainGlobals mg) (hb : s₁.heap.Ns builtinsNs mb) (hbb : ∀ x : Str, x ≠ "__name__" → mb x = bootBuiltins x) (hlim : s₁.heap.NoLimit) (hg : s₁.gens = #[])
    (tE : ∀ p ∈ tabCs K, PySem.W.CodeHd s₁.heap p.1 p.2 ∧ s₁.heap.get? p.2 = some { cls := .none, data := .fields #[] }) (tN : ∀ p ∈ tabCs K, K.lookup p.2 = none)
    (tB : ∃ (bm : Addr) (ob : Obj), mg "__builtins__" = some (.ref bm) ∧ bm ≠ builtinsNs ∧ s₁.heap.get? bm = some ob ∧ ob.cls = .type "module" ∧ ob.dict = some builtinsNs ∧ ob.data = .plain)
    (ha : s₁.heap.get? a = some { cls := .type "list", data := .seq vs.toArray }) (hi : IntsAre vs ns) (hl : ns.length ≤ sizeLine) (hr : Room k callerA)
    (F : ∀ base : Heap, K.In base → base.Ns mainGlobals mg → (∀ p ∈ tabCs K, LamX.TabB base mg p.1 p.2) → FnG P w K mg base CX0 k fa fd [x] sp) (hbind : ∀ (s : Shared) (u : Value), BindsTo s fd ⟨[u], []⟩ [(x, u)])
    (hsp : ∀ H : Hp, (∀ p ∈ tabCs K, H p.2 = some (.tbl #[])) → SqL K H a (ns.map V.int) → sp [.ref a] H (fun v _ => v = .bl true) fun _ _ _ => False) :
    codeAny (model P w) callerA (.call (.ref fa) ⟨[.ref a], []⟩) (fun r s' => r = .ok (.ret (.bool true)) ∧ OldK s₁.heap s'.heap ∧ s'.os = s₁.os ∧ AllBare s'.gens) s₁ := by
  have rv := vals_ints hi
  have lenV := hi.length
  let obj : Obj := { cls := .type "list", data := .seq vs.toArray }
  let Ps : List Addr := (tabCs K).map (·.2)
  have tabP : ∀ b ∈ Ps, s₁.heap.get? b = some { cls := .none, data := .fields #[] } ∧ K.lookup b = none := fun b hb => by
    obtain ⟨p, hp, rfl⟩ := List.mem_map.mp hb
    exact ⟨(tE p hp).2, tN p hp⟩
  have inP : ∀ p ∈ tabCs K, p.2 ∈ Ps := fun p hp => List.mem_map.mpr ⟨p, hp, rfl⟩
  have aP : a ∉ Ps := fun h => by
    have := (tabP a h).1
    rw [ha] at this
    cases this
  -- the abstract heap: the script, unless the module itself has it, and the tables
  let H0 : Hp := fun b => if b ∈ Ps then some (.tbl #[]) else if b = a ∧ K.lookup a = none then some (.frz obj (.lst (ns.map V.int))) else none
  have h0t : ∀ b ∈ Ps, H0 b = some (.tbl #[]) := fun b hb => by show (if b ∈ Ps then _ else _) = _; rw [if_pos hb]
  have h0n : ∀ b, b ∉ Ps → H0 b = if b = a ∧ K.lookup a = none then some (.frz obj (.lst (ns.map V.int))) else none := fun b hb => by show (if b ∈ Ps then _ else _) = _; rw [if_neg hb]
  have at_a : ∀ b o, H0 b = some o → (b ∈ Ps ∧ o = .tbl #[]) ∨ (b ∉ Ps ∧ b = a ∧ K.lookup a = none ∧ o = .frz obj (.lst (ns.map V.int))) := fun b o e => by
    by_cases hb : b ∈ Ps
    · rw [h0t b hb] at e
      exact .inl ⟨hb, (Option.some.inj e).symm⟩
    · rw [h0n b hb] at e
      by_cases q : b = a ∧ K.lookup a = none
      · rw [if_pos q] at e
        exact .inr ⟨hb, q.1, q.2, (Option.some.inj e).symm⟩
      · rw [if_neg q] at e
        cases e
  have hS : SqL K H0 a (ns.map V.int) := by
    cases q : K.lookup a with
    | none => exact .inl (.inr ⟨obj, by rw [h0n a aP, if_pos ⟨rfl, q⟩]⟩)
    | some o =>
      have e := KX a o q
      rw [ha] at e
      cases e
      exact .inr ⟨_, vs.toArray, _, q, rfl, rfl, rfl, by rw [List.size_toArray, lenV]; exact hl, by simpa using rv⟩
  have hok : HOk P w H0 s₁.heap := fun b o e => by
    rcases at_a b o e with ⟨hb, rfl⟩ | ⟨_, rfl, _, rfl⟩
    · exact (tabP b hb).1
    · exact ⟨ha, by rw [List.length_map]; exact hl, vs, _, rv, ha⟩
  have free_of : ∀ {b : Addr} {o : Obj}, s₁.heap.get? b = some o → (∀ xs n, o.data ≠ .seq xs n) → o.data ≠ .fields #[] → H0 b = none := fun {b o} e d d2 => by
    cases q : H0 b with
    | none => rfl
    | some u =>
      rcases at_a b u q with ⟨hb, _⟩ | ⟨_, rfl, _, _⟩
      · rw [(tabP b hb).1] at e
        cases e
        exact absurd rfl d2
      · rw [ha] at e
        cases e
        exact absurd rfl (d _ _)
  have nsOf : ∀ {b : Addr} {m : Str → Option Value}, s₁.heap.Ns b m → (hidT s₁.heap H0).Ns b m := fun {b m} ⟨o, es, ep, e, d, r⟩ =>
    ⟨o, es, ep, hidT_get e (free_of e (fun xs n z => by rw [d] at z; cases z) (fun z => by rw [d] at z; cases z)), d, r⟩
  have inB : K.In (hidT s₁.heap H0) := fun b o e => hidT_get (KX b o e) (by
    cases q : H0 b with
    | none => rfl
    | some u =>
      rcases at_a b u q with ⟨hb, _⟩ | ⟨_, rfl, q2, _⟩
      · rw [(tabP b hb).2] at e; cases e
      · rw [q2] at e; cases e)
  have hM : Mod K mg (hidT s₁.heap H0) := ⟨inB, nsOf hns, ⟨mb, nsOf hb, hbb⟩, let ⟨mc, h1, h2⟩ := hlim; ⟨mc, nsOf h1, h2⟩⟩
  have hTB : ∀ p ∈ tabCs K, LamX.TabB (hidT s₁.heap H0) mg p.1 p.2 := fun p hp => by
    have hPp := (tE p hp).2
    constructor
    · obtain ⟨o, us, f1, f2, f3, f4, f5, f6, f7, g1, g2, g3, g4, gr⟩ := (tE p hp).1
      have : H0 p.1 = none := free_of g1 (fun xs n z => by rw [g3] at z; cases z) fun z => by
        rw [g3] at z
        cases z
        simp at g4
      exact ⟨o, us, f1, f2, f3, f4, f5, f6, f7, hidT_get g1 this, g2, g3, g4, gr⟩
    · obtain ⟨bm, ob, b1, b2, b3, b4, b5, b6⟩ := tB
      have n1 : bm ≠ mainGlobals := fun q => by
        obtain ⟨o, es, ep, e, d, _⟩ := hns
        rw [q, e] at b3
        cases b3
        rw [d] at b6; cases b6
      have n2 : bm ≠ p.2 := fun q => by
        rw [q, hPp] at b3
        cases b3; cases b6
      have : H0 bm = none := free_of b3 (fun xs n z => by rw [b6] at z; cases z) fun z => by rw [b6] at z; cases z
      exact ⟨bm, ob, b1, b2, n1, n2, hidT_get b3 this, b4, b5, b6⟩
    · intro q
      obtain ⟨o, es, ep, e, d, _⟩ := hns
      rw [q, hPp] at e
      cases e; cases d
  have e0 : Env0 P w K mg (hidT s₁.heap H0) callerA [] s₁ H0 := ⟨rfl, hM, fun b o e => of_hidT e, Nat.le_of_eq (hidT_size _ _), trivial, fun b hb => absurd (show b ∈ ([] : List Addr) from hb) (by simp), hok, .of_eq hg⟩
  refine codeAny_mono ((F _ inB (nsOf hns) hTB).run callerA [] s₁ H0 ⟨[.ref a], []⟩ [.ref a] [.ref a] _ _ hr rfl e0 (hbind s₁ (.ref a)) (.cons rfl .nil) (hsp H0 (fun p hp => h0t _ (inP p hp)) hS)) fun r s' h => ?_
  match r, h with
  | .error e, h => exact h.elim
  | .ok .next, h => exact h.elim
  | .ok .brk, h => exact h.elim
  | .ok .cont, h => exact h.elim
  | .ok (.ret u), h =>
    obtain ⟨v, H', os, bare, un, hok', r', q⟩ := h
    subst q
    obtain rfl : u = Value.bool true := r'
    have stay : ∀ b o, b ∉ Ps → s₁.heap.get? b = some o → s'.heap.get? b = some o := fun b o nb e => by
      cases q : H0 b with
      | none => exact un.keep b o e q (by intro z; exact absurd (show b ∈ ([] : List Addr) from z) (by simp)) (by simp)
      | some u =>
        rcases at_a b u q with ⟨hb, _⟩ | ⟨_, rfl, _, rfl⟩
        · exact absurd hb nb
        · have e2 := hok' _ _ (un.frzs _ obj _ q)
          rw [ha] at e
          cases e
          exact e2.1
    have grew : ∀ p ∈ tabCs K, ∃ more : Array Value, s'.heap.get? p.2 = some { cls := .none, data := .fields more } := fun p hp => by
      obtain ⟨more, z⟩ := un.tbls p.2 #[] (h0t _ (inP p hp))
      exact ⟨_, hok' _ _ z⟩
    refine ⟨rfl, ⟨fun b o e => ?_, fun b o e => ?_⟩, os, bare⟩
    all_goals by_cases hm : b ∈ Ps
    · obtain ⟨p, hp, rfl⟩ := List.mem_map.mp hm
      obtain ⟨more, z⟩ := grew p hp
      rw [(tE p hp).2] at e
      cases e
      refine .inr (.inl ⟨((tE p hp).1.tab (tE p hp).2).isCodeTable, rfl, #[], more, rfl, ?_⟩)
      rw [Array.empty_append]
      exact z
    · exact .inl (stay b o hm e)
    · obtain ⟨p, hp, rfl⟩ := List.mem_map.mp hm
      obtain ⟨more, z⟩ := grew p hp
      exact ⟨_, z⟩
    · exact ⟨o, stay b o hm e⟩
end DL
namespace DL
open PySem PySem.Spec PyProof.Rows L2
def tabsW (g : Addr → Option Obj) (K : PySem.W.Frag) : Bool := (tabCs K).all fun p => PySem.W.codeHdIn K p.1 p.2 && (match g p.2 with
  | some o => He.emptyTab o
  | none => false)
def wOf (fn : List He.DefD) (ex : PySem.W.Frag → Bool) (g : Addr → Option Obj) (K : PySem.W.Frag) : He.AlD := ((fn.all fun d => d.ok K) && (ex K && tabsW g K), fn.map fun d => He.fnW K d.at_)
/-- the objects looked at: the module's, the classes' namespaces and methods, the defs' code -/
def refE (o : Obj) : List Addr := match o.data with
  | .dict es _ => es.toList.flatMap fun e => He.refV e.val
  | _ => []
def refC (o : Obj) : List Addr := match o.data with
  | .func fd => He.refV fd.code
  | .cls cd => [cd.ns]
  | _ => []
def lev (f : Obj → List Addr) (g : Addr → Option Obj) (as : List Addr) : List Addr := as.flatMap fun a => match g a with
  | some o => f o
  | none => []
def asW3 (g : Addr → Option Obj) (l1 l2 l3 : List Addr) : List Addr := mainGlobals :: (l1 ++ (l2 ++ (l3 ++ lev refC g l3)))
def asW2 (g : Addr → Option Obj) (l1 l2 : List Addr) : List Addr := asW3 g l1 l2 (lev refE g l2)
def asW1 (g : Addr → Option Obj) (l1 : List Addr) : List Addr := asW2 g l1 (lev refC g l1)
def asW (g : Addr → Option Obj) : List Addr := asW1 g (lev refE g [mainGlobals])
def obsW (fn : List He.DefD) (ex : PySem.W.Frag → Bool) (g : Addr → Option Obj) : He.AlD := wOf fn ex g (He.frT g (asW g))
structure SaysW (fn : List He.DefD) (ex : PySem.W.Frag → Bool) (h : Heap) (K : PySem.W.Frag) : Prop where
  d : He.SaysD [] fn K
  ex : ex K = true
  tabs : ∀ p ∈ tabCs K, (PySem.W.codeHdIn K p.1 p.2 = true ∧ h.get? p.2 = some { cls := .none, data := .fields #[] }) ∧ K.lookup p.2 = none
theorem saysW_of {fn : List He.DefD} {ex : PySem.W.Frag → Bool} {h : Heap} (e : obsW fn ex h.get? = He.valD fn) : SaysW fn ex h (He.frT h.get? (asW h.get?)) := by
  have e1 : ((fn.all fun d => d.ok (He.frT h.get? (asW h.get?))) && (ex (He.frT h.get? (asW h.get?)) && tabsW h.get? (He.frT h.get? (asW h.get?)))) = true := congrArg (fun z : He.AlD => z.1) e
  have e2 : fn.map (fun d => He.fnW (He.frT h.get? (asW h.get?)) d.at_) = fn.map He.DefD.val := congrArg (fun z : He.AlD => z.2) e
  obtain ⟨h1, h2⟩ := He.ba e1
  obtain ⟨h3, h4⟩ := He.ba h2
  refine ⟨?_, h3, fun p hp => ?_⟩
  · show ((([] : List He.Fa).all fun f => f.ok _) && fn.all fun d => d.ok _, fn.map fun d => He.fnW _ d.at_) = (true, fn.map He.DefD.val)
    rw [e2, h1]
    rfl
  · obtain ⟨h5, h6⟩ := He.ba (List.all_eq_true.mp h4 p hp)
    cases q : h.get? p.2 with
    | none => rw [q] at h6; cases h6
    | some o =>
      rw [q] at h6
      exact ⟨⟨h5, by rw [He.emptyTab_eq h6]⟩, He.frT_none q h6⟩
def hookW (fn : List He.DefD) (ex : PySem.W.Frag → Bool) : PySem.W.Hook where
  α := He.AlD
  obs := fun s => obsW fn ex s.heap.get?
  val := fun _ => He.valD fn
  says := fun _ h => ∃ K : PySem.W.Frag, K.In h ∧ SaysW fn ex h K
  of := fun _ _ e => ⟨_, He.frT_in, saysW_of e⟩
  keeps := fun _ _ _ ⟨K, hK, c⟩ k => ⟨K, PySem.W.Frag.In.keeps hK k, ⟨c.d, c.ex, fun p hp => ⟨⟨(c.tabs p hp).1.1, k _ _ (c.tabs p hp).1.2⟩, (c.tabs p hp).2⟩⟩⟩
theorem obsW_eq {fn : List He.DefD} {ex : PySem.W.Frag → Bool} {g : Addr → Option Obj} {s : Shared} (h : ∀ a, g a = s.heap.get? a) : obsW fn ex g = (hookW fn ex).obs s := by
  have e : g = s.heap.get? := funext h
  rw [e] <;> rfl
section
variable {fn : List He.DefD} {K : PySem.W.Frag} {h : Heap}
/-- a def's object -/
theorem def_at {fa : List He.Fa} (c : He.SaysD fa fn K) (i : Nat) {d : He.DefD} (hi : fn[i]? = some d) (e1 : d.dfl = []) : ∃ (oc : Value) (od an : Option Addr) (sl : Array (Option Value)) (kV dc pm cd ct : Value),
    K.lookup (He.fAd K d.at_) = some ⟨oc, od, .func (PySem.W.fnOf d.name d.qual d.params d.body d.scope .none kV dc pm an cd ct), sl⟩ ∧ PySem.W.codeIn K cd d.qual = true ∧ PySem.W.keepIn K (.ref (He.fAd K d.at_)) = true := by
  obtain ⟨fd, F⟩ := c.def_ i hi
  obtain ⟨⟨oc, od, dV, kV, doc, pm, an, cdv, ct, osl, rfl, lk, hc, hd, _⟩, kp⟩ := F
  have hdv : d.dvs K = [] := by unfold He.DefD.dvs; rw [e1]; rfl
  rw [hdv] at hd
  rcases hd with ⟨_, rfl⟩ | ⟨z, _⟩
  · exact ⟨_, _, _, _, _, _, _, _, _, lk, hc, kp⟩
  · exact absurd rfl z
/-- an own exception's class -/
def oexB (K : PySem.W.Frag) (C : Addr) : Bool := match K.lookup C with
  | some ⟨.type c, _, .cls cd, sl⟩ => decide (c = "type") && (match cd.mro, sl.toList with
    | .ref C' :: bm, [_, _, _, _, some (.builtin n), _] => decide (C' = C) && (decide (n = "ValueError.__new__") && (!cd.hasDel && (cd.hasDict && PySem.HandSPX.refsVE bm)))
    | _, _ => false)
  | _ => false
theorem oexB_ok {C : Addr} (q : oexB K C = true) : ∃ nm q N bs bm sn sub ab col dd k0 k1 k2 k3 k5, K.lookup C = some (PySem.excClassObj nm q C N bs bm true sn sub ab col dd k0 k1 k2 k3 k5 "ValueError.__new__") ∧ PySem.HandSPX.refsVE bm = true := by
  unfold oexB at q
  split at q
  · rename_i c dd cd sl ho
    obtain ⟨q1, r⟩ := He.ba q
    clear q
    have ec := of_decide_eq_true q1
    subst ec
    split at r
    · rename_i C' bm k0 k1 k2 k3 n k5 hm hs
      obtain ⟨q2, r2⟩ := He.ba r
      obtain ⟨q3, r3⟩ := He.ba r2
      obtain ⟨q4, r4⟩ := He.ba r3
      obtain ⟨q5, q6⟩ := He.ba r4
      have e2 := of_decide_eq_true q2
      have e3 := of_decide_eq_true q3
      subst e2 e3
      obtain ⟨n1, n2, n3, n4, n5, n6, n7, n8, n9, n10, n11⟩ := cd
      have hm : n3 = .ref C' :: bm := hm
      have w4 : n11 = false := by simpa using q4
      have w5 : n6 = true := q5
      subst hm w4 w5
      obtain ⟨sl⟩ := sl
      have hs : sl = [k0, k1, k2, k3, some (.builtin "ValueError.__new__"), k5] := hs
      subst hs
      exact ⟨_, _, _, _, _, _, _, _, _, _, _, _, _, _, _, ho, q6⟩
    · cases r
  · cases q
theorem exs_at {exs : List (PySem.W.Frag → Bool)} (c : (exs.all fun f => f K) = true) (i : Nat) {f : PySem.W.Frag → Bool} (h : exs[i]? = some f) : f K = true := List.all_eq_true.mp c f (List.mem_of_getElem? h)
theorem walk_TE {l : PySem.W.OpenLaw} {n k : Nat} {q : Program} {loose : List Str} {XP : (Str → Option Value) → Heap → Prop} {YP : World → Heap → Prop} {d : DefRec} {sp : PySem.W.Frag → Sp} {x : Str}
    (hn : l.most = some n) (hn2 : n ≤ sizeLine) (hdf : d.params.defaults = []) (hr : Room k callerA)
    (F : ∀ (w : World) (mg : Str → Option Value) (fa : Addr) (h : Heap), YP w h → h.Ns mainGlobals mg → mg d.name = some (.ref fa) →
      ∃ K : PySem.W.Frag, K.In h ∧ (∀ p ∈ tabCs K, (PySem.W.CodeHd h p.1 p.2 ∧ h.get? p.2 = some { cls := .none, data := .fields #[] }) ∧ K.lookup p.2 = none) ∧
        ∃ fd : FuncData, (∀ (s : Shared) (u : Value), BindsTo s fd ⟨[u], []⟩ [(x, u)]) ∧ ∀ base : Heap, K.In base → base.Ns mainGlobals mg → (∀ p ∈ tabCs K, LamX.TabB base mg p.1 p.2) → FnG l.prog w K mg base CX0 k fa fd [x] (sp K))
    (hsp : ∀ (K : PySem.W.Frag) (H : Hp) (a : Addr) (ns : List Int), ns.length ≤ n → (∀ p ∈ tabCs K, H p.2 = some (.tbl #[])) → SqL K H a (ns.map V.int) → sp K [.ref a] H (fun v _ => v = .bl true) fun _ _ _ => False) :
    PySem.W.WalkO q loose XP YP l.row.toRowW d [] (fun f vs => PySem.call f vs) := by
  refine Att.attach_call hn hdf fun w s₀ s₁ mg mb fa o pm cd doc a vs ns G Y ho hd hcd hmg hobj hints hlen hg => ?_
  obtain ⟨K, KX, both, fd, hb, hF⟩ := F w mg fa _ Y G.T.g hmg
  exact law_callT KX G.T.g G.T.b G.T.builtins G.T.nolimit hg (fun p hp => (both p hp).1) (fun p hp => (both p hp).2) G.T.bmain hobj hints (Nat.le_trans hlen hn2) hr hF hb fun H h1 hS => hsp K H a ns hlen h1 hS
theorem tabs_ok {ex : PySem.W.Frag → Bool} (X : K.In h) (c : SaysW fn ex h K) : ∀ p ∈ tabCs K, (PySem.W.CodeHd h p.1 p.2 ∧ h.get? p.2 = some { cls := .none, data := .fields #[] }) ∧ K.lookup p.2 = none := fun p hp =>
  ⟨⟨PySem.W.codeHd_of_K X (c.tabs p hp).1.1, (c.tabs p hp).1.2⟩, (c.tabs p hp).2⟩
end
end DL
namespace DL.M
open PySem PySem.Spec PyProof.Rows L2
def topS (i : Nat) : Stmt := PySem.Challenge.pw_workwishes_k42_even_told_or_refused.main.body.getD i (.Pass ⟨0, 0, 0, 0⟩)
abbrev s_p_is_number : Stmt := topS 9
abbrev s_p_is_even : Stmt := topS 12
abbrev s_p_room_up_to : Stmt := topS 13
abbrev s_p_is_no_lower : Stmt := topS 14
abbrev s_p_in_blocks : Stmt := topS 19
abbrev s_f_law_deck : Stmt := topS 23
abbrev s_f_law_next : Stmt := topS 24
abbrev s_f_law_put : Stmt := topS 25
abbrev s_f_law_same : Stmt := topS 26
abbrev s_f_law_is_from : Stmt := topS 27
abbrev s_f_law_ways : Stmt := topS 28
abbrev s_f_law_clash : Stmt := topS 29
abbrev s_f_law_kept : Stmt := topS 31
abbrev s_f_law_room : Stmt := topS 36
abbrev s_f_law_is_kind : Stmt := topS 40
abbrev s_p_is_from : Stmt := topS 10
abbrev s_p_do_fit : Stmt := topS 17
abbrev s_f_law_goes : Stmt := topS 30
abbrev s_f_law_is_way : Stmt := topS 32
abbrev s_f_law_even_wish : Stmt := topS 34
abbrev s_f_law_full_days : Stmt := topS 37
abbrev s_f_law_uneven : Stmt := topS 42
abbrev s_p_holds_full : Stmt := topS 15
abbrev s_p_taken_wishes : Stmt := topS 18
abbrev s_f_law_is_plan : Stmt := topS 33
abbrev s_f_law_even : Stmt := topS 35
abbrev s_f_law_is_pair : Stmt := topS 38
abbrev s_p_full_day : Stmt := topS 20
abbrev s_f_law_is_paper : Stmt := topS 39
abbrev s_p_even : Stmt := topS 21
abbrev s_f_law_told : Stmt := topS 41
abbrev s_p_law : Stmt := topS 43
end DL.M
namespace DL
open PySem PySem.Spec PyProof.Rows L2
namespace HeadF
open PySem PySem.Spec PyProof.Rows L2
def d_p_is_number : He.DefD := ⟨("is_number", none), "is_number", "is_number", defArgs (DL.M.s_p_is_number), defBody (DL.M.s_p_is_number), defScope (DL.M.s_p_is_number), [], []⟩
def d_p_is_even : He.DefD := ⟨("is_even", none), "is_even", "is_even", defArgs (DL.M.s_p_is_even), defBody (DL.M.s_p_is_even), defScope (DL.M.s_p_is_even), [], []⟩
def d_p_room_up_to : He.DefD := ⟨("room_up_to", none), "room_up_to", "room_up_to", defArgs (DL.M.s_p_room_up_to), defBody (DL.M.s_p_room_up_to), defScope (DL.M.s_p_room_up_to), [], []⟩
def d_p_is_no_lower : He.DefD := ⟨("is_no_lower", none), "is_no_lower", "is_no_lower", defArgs (DL.M.s_p_is_no_lower), defBody (DL.M.s_p_is_no_lower), defScope (DL.M.s_p_is_no_lower), [], []⟩
def d_p_in_blocks : He.DefD := ⟨("in_blocks", none), "in_blocks", "in_blocks", defArgs (DL.M.s_p_in_blocks), defBody (DL.M.s_p_in_blocks), defScope (DL.M.s_p_in_blocks), [], []⟩
def d_f_law_deck : He.DefD := ⟨("_law_deck", none), "_law_deck", "_law_deck", defArgs (DL.M.s_f_law_deck), defBody (DL.M.s_f_law_deck), defScope (DL.M.s_f_law_deck), [], []⟩
def d_f_law_next : He.DefD := ⟨("_law_next", none), "_law_next", "_law_next", defArgs (DL.M.s_f_law_next), defBody (DL.M.s_f_law_next), defScope (DL.M.s_f_law_next), [], []⟩
def d_f_law_put : He.DefD := ⟨("_law_put", none), "_law_put", "_law_put", defArgs (DL.M.s_f_law_put), defBody (DL.M.s_f_law_put), defScope (DL.M.s_f_law_put), [], []⟩
def d_f_law_same : He.DefD := ⟨("_law_same", none), "_law_same", "_law_same", defArgs (DL.M.s_f_law_same), defBody (DL.M.s_f_law_same), defScope (DL.M.s_f_law_same), [], []⟩
def d_f_law_is_from : He.DefD := ⟨("_law_is_from", none), "_law_is_from", "_law_is_from", defArgs (DL.M.s_f_law_is_from), defBody (DL.M.s_f_law_is_from), defScope (DL.M.s_f_law_is_from), [], []⟩
def d_f_law_ways : He.DefD := ⟨("_law_ways", none), "_law_ways", "_law_ways", defArgs (DL.M.s_f_law_ways), defBody (DL.M.s_f_law_ways), defScope (DL.M.s_f_law_ways), [], []⟩
def d_f_law_clash : He.DefD := ⟨("_law_clash", none), "_law_clash", "_law_clash", defArgs (DL.M.s_f_law_clash), defBody (DL.M.s_f_law_clash), defScope (DL.M.s_f_law_clash), [], []⟩
def d_f_law_kept : He.DefD := ⟨("_law_kept", none), "_law_kept", "_law_kept", defArgs (DL.M.s_f_law_kept), defBody (DL.M.s_f_law_kept), defScope (DL.M.s_f_law_kept), [], []⟩
def d_f_law_room : He.DefD := ⟨("_law_room", none), "_law_room", "_law_room", defArgs (DL.M.s_f_law_room), defBody (DL.M.s_f_law_room), defScope (DL.M.s_f_law_room), [], []⟩
def d_f_law_is_kind : He.DefD := ⟨("_law_is_kind", none), "_law_is_kind", "_law_is_kind", defArgs (DL.M.s_f_law_is_kind), defBody (DL.M.s_f_law_is_kind), defScope (DL.M.s_f_law_is_kind), [], []⟩
def d_p_is_from : He.DefD := ⟨("is_from", none), "is_from", "is_from", defArgs (DL.M.s_p_is_from), defBody (DL.M.s_p_is_from), defScope (DL.M.s_p_is_from), [], []⟩
def d_p_do_fit : He.DefD := ⟨("do_fit", none), "do_fit", "do_fit", defArgs (DL.M.s_p_do_fit), defBody (DL.M.s_p_do_fit), defScope (DL.M.s_p_do_fit), [], []⟩
def d_f_law_goes : He.DefD := ⟨("_law_goes", none), "_law_goes", "_law_goes", defArgs (DL.M.s_f_law_goes), defBody (DL.M.s_f_law_goes), defScope (DL.M.s_f_law_goes), [], []⟩
def d_f_law_is_way : He.DefD := ⟨("_law_is_way", none), "_law_is_way", "_law_is_way", defArgs (DL.M.s_f_law_is_way), defBody (DL.M.s_f_law_is_way), defScope (DL.M.s_f_law_is_way), [], []⟩
def d_f_law_even_wish : He.DefD := ⟨("_law_even_wish", none), "_law_even_wish", "_law_even_wish", defArgs (DL.M.s_f_law_even_wish), defBody (DL.M.s_f_law_even_wish), defScope (DL.M.s_f_law_even_wish), [], []⟩
def d_f_law_full_days : He.DefD := ⟨("_law_full_days", none), "_law_full_days", "_law_full_days", defArgs (DL.M.s_f_law_full_days), defBody (DL.M.s_f_law_full_days), defScope (DL.M.s_f_law_full_days), [], []⟩
def d_f_law_uneven : He.DefD := ⟨("_law_uneven", none), "_law_uneven", "_law_uneven", defArgs (DL.M.s_f_law_uneven), defBody (DL.M.s_f_law_uneven), defScope (DL.M.s_f_law_uneven), [], []⟩
def d_p_holds_full : He.DefD := ⟨("holds_full", none), "holds_full", "holds_full", defArgs (DL.M.s_p_holds_full), defBody (DL.M.s_p_holds_full), defScope (DL.M.s_p_holds_full), [], []⟩
def d_p_taken_wishes : He.DefD := ⟨("taken_wishes", none), "taken_wishes", "taken_wishes", defArgs (DL.M.s_p_taken_wishes), defBody (DL.M.s_p_taken_wishes), defScope (DL.M.s_p_taken_wishes), [], []⟩
def d_f_law_is_plan : He.DefD := ⟨("_law_is_plan", none), "_law_is_plan", "_law_is_plan", defArgs (DL.M.s_f_law_is_plan), defBody (DL.M.s_f_law_is_plan), defScope (DL.M.s_f_law_is_plan), [], []⟩
def d_f_law_even : He.DefD := ⟨("_law_even", none), "_law_even", "_law_even", defArgs (DL.M.s_f_law_even), defBody (DL.M.s_f_law_even), defScope (DL.M.s_f_law_even), [], []⟩
def d_f_law_is_pair : He.DefD := ⟨("_law_is_pair", none), "_law_is_pair", "_law_is_pair", defArgs (DL.M.s_f_law_is_pair), defBody (DL.M.s_f_law_is_pair), defScope (DL.M.s_f_law_is_pair), [], []⟩
def d_p_full_day : He.DefD := ⟨("full_day", none), "full_day", "full_day", defArgs (DL.M.s_p_full_day), defBody (DL.M.s_p_full_day), defScope (DL.M.s_p_full_day), [], []⟩
def d_f_law_is_paper : He.DefD := ⟨("_law_is_paper", none), "_law_is_paper", "_law_is_paper", defArgs (DL.M.s_f_law_is_paper), defBody (DL.M.s_f_law_is_paper), defScope (DL.M.s_f_law_is_paper), [], []⟩
def d_p_even : He.DefD := ⟨("even", none), "even", "even", defArgs (DL.M.s_p_even), defBody (DL.M.s_p_even), defScope (DL.M.s_p_even), [], []⟩
def d_f_law_told : He.DefD := ⟨("_law_told", none), "_law_told", "_law_told", defArgs (DL.M.s_f_law_told), defBody (DL.M.s_f_law_told), defScope (DL.M.s_f_law_told), [], []⟩
def d_p_law : He.DefD := ⟨("law", none), "law", "law", defArgs (DL.M.s_p_law), defBody (DL.M.s_p_law), defScope (DL.M.s_p_law), [], []⟩
def d_init_NoRoom : He.DefD := ⟨("NoRoom", some "__init__"), "__init__", "NoRoom.__init__", defArgs (inClass (DL.M.topS 4) 0), defBody (inClass (DL.M.topS 4) 0), defScope (inClass (DL.M.topS 4) 0), [], []⟩
def dfs_0 : List (He.DefD) := [d_p_is_number, d_p_is_even, d_p_room_up_to, d_p_is_no_lower, d_p_in_blocks, d_f_law_deck, d_f_law_next, d_f_law_put, d_f_law_same, d_f_law_is_from, d_f_law_ways, d_f_law_clash, d_f_law_kept, d_f_law_room, d_f_law_is_kind, d_p_is_from, d_p_do_fit, d_f_law_goes, d_f_law_is_way, d_f_law_even_wish, d_f_law_full_days, d_f_law_uneven, d_p_holds_full, d_p_taken_wishes, d_f_law_is_plan, d_f_law_even, d_f_law_is_pair, d_p_full_day, d_f_law_is_paper, d_p_even]
def dfs_1 : List (He.DefD) := [d_f_law_told, d_p_law, d_init_NoRoom]
def dfs : List (He.DefD) := dfs_0 ++ dfs_1
def exs_0 : List (PySem.W.Frag → Bool) := [fun K => decide (PySem.W.nsIn K mainGlobals "NoDeed" = some (some (.ref (He.ga K "NoDeed")))), fun K => decide (PySem.W.exmOne K (.ref (He.ga K "NoDeed")) (.ref (He.ga K "WishError")) = some true), fun K => decide (PySem.W.nsIn K mainGlobals "NoPlan" = some (some (.ref (He.ga K "NoPlan")))), fun K => decide (PySem.W.exmOne K (.ref (He.ga K "NoPlan")) (.ref (He.ga K "WishError")) = some true), fun K => decide (PySem.W.nsIn K mainGlobals "NoRoom" = some (some (.ref (He.ga K "NoRoom")))), fun K => decide (PySem.W.keepIn K (.ref (He.ga K "NoRoom")) = true), fun K => decide (PySem.W.subIn K (.ref (He.ga K "NoRoom")) (.type "BaseException") = some true), fun K => decide (PySem.W.typeIn K (.ref (He.ga K "NoRoom")) = some (.type "type")), fun K => oexB K (He.ga K "NoRoom"), fun K => decide (PySem.W.findIn K (.ref (He.ga K "NoRoom")) "__setattr__" = some (some (.builtin "object.__setattr__"))), fun K => decide (PySem.W.findIn K (.ref (He.ga K "NoRoom")) "__init__" = some (some (.ref (He.fAd K d_init_NoRoom.at_)))), fun K => decide (PySem.W.typeIn K (.ref (He.fAd K d_init_NoRoom.at_)) = some (.type "function")), fun K => decide (PySem.W.findIn K (.ref (He.ga K "NoRoom")) "work" = some none), fun K => decide (PySem.W.exmOne K (.ref (He.ga K "NoRoom")) (.ref (He.ga K "WishError")) = some true), fun K => decide (PySem.W.nsIn K mainGlobals "NoText" = some (some (.ref (He.ga K "NoText")))), fun K => decide (PySem.W.exmOne K (.ref (He.ga K "NoText")) (.ref (He.ga K "WishError")) = some true), fun K => decide (PySem.W.nsIn K mainGlobals "NotEven" = some (some (.ref (He.ga K "NotEven")))), fun K => decide (PySem.W.keepIn K (.ref (He.ga K "NotEven")) = true), fun K => decide (PySem.W.subIn K (.ref (He.ga K "NotEven")) (.type "BaseException") = some true), fun K => decide (PySem.W.typeIn K (.ref (He.ga K "NotEven")) = some (.type "type")), fun K => decide (PySem.W.excIn K (He.ga K "NotEven") [.type "ValueError", .type "Exception", .type "BaseException", .type "object"] "ValueError.__new__" = true), fun K => decide (PySem.W.exmOne K (.ref (He.ga K "NotEven")) (.ref (He.ga K "WishError")) = some true), fun K => decide (PySem.W.nsIn K mainGlobals "TooMany" = some (some (.ref (He.ga K "TooMany")))), fun K => decide (PySem.W.exmOne K (.ref (He.ga K "TooMany")) (.ref (He.ga K "WishError")) = some true), fun K => decide (PySem.W.nsIn K mainGlobals "WishError" = some (some (.ref (He.ga K "WishError")))), fun K => decide (PySem.W.specialIn K (.builtin "object.__class__") "__get__" = some (some (.builtin "getset_descriptor.__get__"))), fun K => decide (PySem.W.takesIn K (.builtin "object.__class__") = some true), fun K => decide (PySem.W.findIn K (.ref (He.ga K "NoDeed")) "__getattribute__" = some (some (.builtin "BaseException.__getattribute__"))), fun K => decide (PySem.W.findIn K (.ref (He.ga K "NoDeed")) "__getattr__" = some none), fun K => decide (PySem.W.subIn K (.ref (He.ga K "NoDeed")) (.type "BaseException") = some true)]
def exs_1 : List (PySem.W.Frag → Bool) := [fun K => decide (PySem.W.hasDictIn K (He.ga K "NoDeed") = true), fun K => decide (PySem.W.findIn K (.ref (He.ga K "NoDeed")) "__class__" = some (some (.builtin "object.__class__"))), fun K => decide (PySem.W.mroIn K (He.ga K "NoDeed") (.type "object") = some true), fun K => decide (PySem.W.kitOne K (.ref (He.ga K "NoDeed")) (.ref (He.ga K "NoDeed")) = some true), fun K => decide (PySem.W.kitOne K (.ref (He.ga K "NoDeed")) (.ref (He.ga K "NoPlan")) = some false), fun K => decide (PySem.W.kitOne K (.ref (He.ga K "NoDeed")) (.ref (He.ga K "NoRoom")) = some false), fun K => decide (PySem.W.kitOne K (.ref (He.ga K "NoDeed")) (.ref (He.ga K "NoText")) = some false), fun K => decide (PySem.W.kitOne K (.ref (He.ga K "NoDeed")) (.ref (He.ga K "NotEven")) = some false), fun K => decide (PySem.W.kitOne K (.ref (He.ga K "NoDeed")) (.ref (He.ga K "TooMany")) = some false), fun K => decide (PySem.W.kitOne K (.ref (He.ga K "NoDeed")) (.ref (He.ga K "WishError")) = some true), fun K => decide (PySem.W.kitOne K (.ref (He.ga K "NoDeed")) (.type "ValueError") = some true), fun K => decide (PySem.W.findIn K (.ref (He.ga K "NoPlan")) "__getattribute__" = some (some (.builtin "BaseException.__getattribute__"))), fun K => decide (PySem.W.findIn K (.ref (He.ga K "NoPlan")) "__getattr__" = some none), fun K => decide (PySem.W.subIn K (.ref (He.ga K "NoPlan")) (.type "BaseException") = some true), fun K => decide (PySem.W.hasDictIn K (He.ga K "NoPlan") = true), fun K => decide (PySem.W.findIn K (.ref (He.ga K "NoPlan")) "__class__" = some (some (.builtin "object.__class__"))), fun K => decide (PySem.W.mroIn K (He.ga K "NoPlan") (.type "object") = some true), fun K => decide (PySem.W.kitOne K (.ref (He.ga K "NoPlan")) (.ref (He.ga K "NoDeed")) = some false), fun K => decide (PySem.W.kitOne K (.ref (He.ga K "NoPlan")) (.ref (He.ga K "NoPlan")) = some true), fun K => decide (PySem.W.kitOne K (.ref (He.ga K "NoPlan")) (.ref (He.ga K "NoRoom")) = some false), fun K => decide (PySem.W.kitOne K (.ref (He.ga K "NoPlan")) (.ref (He.ga K "NoText")) = some false), fun K => decide (PySem.W.kitOne K (.ref (He.ga K "NoPlan")) (.ref (He.ga K "NotEven")) = some false), fun K => decide (PySem.W.kitOne K (.ref (He.ga K "NoPlan")) (.ref (He.ga K "TooMany")) = some false), fun K => decide (PySem.W.kitOne K (.ref (He.ga K "NoPlan")) (.ref (He.ga K "WishError")) = some true), fun K => decide (PySem.W.kitOne K (.ref (He.ga K "NoPlan")) (.type "ValueError") = some true), fun K => decide (PySem.W.findIn K (.ref (He.ga K "NoRoom")) "__getattribute__" = some (some (.builtin "BaseException.__getattribute__"))), fun K => decide (PySem.W.findIn K (.ref (He.ga K "NoRoom")) "__getattr__" = some none), fun K => decide (PySem.W.subIn K (.ref (He.ga K "NoRoom")) (.type "BaseException") = some true), fun K => decide (PySem.W.hasDictIn K (He.ga K "NoRoom") = true), fun K => decide (PySem.W.findIn K (.ref (He.ga K "NoRoom")) "__class__" = some (some (.builtin "object.__class__")))]
def exs_2 : List (PySem.W.Frag → Bool) := [fun K => decide (PySem.W.mroIn K (He.ga K "NoRoom") (.type "object") = some true), fun K => decide (PySem.W.kitOne K (.ref (He.ga K "NoRoom")) (.ref (He.ga K "NoDeed")) = some false), fun K => decide (PySem.W.kitOne K (.ref (He.ga K "NoRoom")) (.ref (He.ga K "NoPlan")) = some false), fun K => decide (PySem.W.kitOne K (.ref (He.ga K "NoRoom")) (.ref (He.ga K "NoRoom")) = some true), fun K => decide (PySem.W.kitOne K (.ref (He.ga K "NoRoom")) (.ref (He.ga K "NoText")) = some false), fun K => decide (PySem.W.kitOne K (.ref (He.ga K "NoRoom")) (.ref (He.ga K "NotEven")) = some false), fun K => decide (PySem.W.kitOne K (.ref (He.ga K "NoRoom")) (.ref (He.ga K "TooMany")) = some false), fun K => decide (PySem.W.kitOne K (.ref (He.ga K "NoRoom")) (.ref (He.ga K "WishError")) = some true), fun K => decide (PySem.W.kitOne K (.ref (He.ga K "NoRoom")) (.type "ValueError") = some true), fun K => decide (PySem.W.findIn K (.ref (He.ga K "NoText")) "__getattribute__" = some (some (.builtin "BaseException.__getattribute__"))), fun K => decide (PySem.W.findIn K (.ref (He.ga K "NoText")) "__getattr__" = some none), fun K => decide (PySem.W.subIn K (.ref (He.ga K "NoText")) (.type "BaseException") = some true), fun K => decide (PySem.W.hasDictIn K (He.ga K "NoText") = true), fun K => decide (PySem.W.findIn K (.ref (He.ga K "NoText")) "__class__" = some (some (.builtin "object.__class__"))), fun K => decide (PySem.W.mroIn K (He.ga K "NoText") (.type "object") = some true), fun K => decide (PySem.W.kitOne K (.ref (He.ga K "NoText")) (.ref (He.ga K "NoDeed")) = some false), fun K => decide (PySem.W.kitOne K (.ref (He.ga K "NoText")) (.ref (He.ga K "NoPlan")) = some false), fun K => decide (PySem.W.kitOne K (.ref (He.ga K "NoText")) (.ref (He.ga K "NoRoom")) = some false), fun K => decide (PySem.W.kitOne K (.ref (He.ga K "NoText")) (.ref (He.ga K "NoText")) = some true), fun K => decide (PySem.W.kitOne K (.ref (He.ga K "NoText")) (.ref (He.ga K "NotEven")) = some false), fun K => decide (PySem.W.kitOne K (.ref (He.ga K "NoText")) (.ref (He.ga K "TooMany")) = some false), fun K => decide (PySem.W.kitOne K (.ref (He.ga K "NoText")) (.ref (He.ga K "WishError")) = some true), fun K => decide (PySem.W.kitOne K (.ref (He.ga K "NoText")) (.type "ValueError") = some true), fun K => decide (PySem.W.findIn K (.ref (He.ga K "NotEven")) "__getattribute__" = some (some (.builtin "BaseException.__getattribute__"))), fun K => decide (PySem.W.findIn K (.ref (He.ga K "NotEven")) "__getattr__" = some none), fun K => decide (PySem.W.subIn K (.ref (He.ga K "NotEven")) (.type "BaseException") = some true), fun K => decide (PySem.W.hasDictIn K (He.ga K "NotEven") = true), fun K => decide (PySem.W.findIn K (.ref (He.ga K "NotEven")) "__class__" = some (some (.builtin "object.__class__"))), fun K => decide (PySem.W.mroIn K (He.ga K "NotEven") (.type "object") = some true), fun K => decide (PySem.W.kitOne K (.ref (He.ga K "NotEven")) (.ref (He.ga K "NoDeed")) = some false)]
def exs_3 : List (PySem.W.Frag → Bool) := [fun K => decide (PySem.W.kitOne K (.ref (He.ga K "NotEven")) (.ref (He.ga K "NoPlan")) = some false), fun K => decide (PySem.W.kitOne K (.ref (He.ga K "NotEven")) (.ref (He.ga K "NoRoom")) = some false), fun K => decide (PySem.W.kitOne K (.ref (He.ga K "NotEven")) (.ref (He.ga K "NoText")) = some false), fun K => decide (PySem.W.kitOne K (.ref (He.ga K "NotEven")) (.ref (He.ga K "NotEven")) = some true), fun K => decide (PySem.W.kitOne K (.ref (He.ga K "NotEven")) (.ref (He.ga K "TooMany")) = some false), fun K => decide (PySem.W.kitOne K (.ref (He.ga K "NotEven")) (.ref (He.ga K "WishError")) = some true), fun K => decide (PySem.W.kitOne K (.ref (He.ga K "NotEven")) (.type "ValueError") = some true), fun K => decide (PySem.W.findIn K (.ref (He.ga K "TooMany")) "__getattribute__" = some (some (.builtin "BaseException.__getattribute__"))), fun K => decide (PySem.W.findIn K (.ref (He.ga K "TooMany")) "__getattr__" = some none), fun K => decide (PySem.W.subIn K (.ref (He.ga K "TooMany")) (.type "BaseException") = some true), fun K => decide (PySem.W.hasDictIn K (He.ga K "TooMany") = true), fun K => decide (PySem.W.findIn K (.ref (He.ga K "TooMany")) "__class__" = some (some (.builtin "object.__class__"))), fun K => decide (PySem.W.mroIn K (He.ga K "TooMany") (.type "object") = some true), fun K => decide (PySem.W.kitOne K (.ref (He.ga K "TooMany")) (.ref (He.ga K "NoDeed")) = some false), fun K => decide (PySem.W.kitOne K (.ref (He.ga K "TooMany")) (.ref (He.ga K "NoPlan")) = some false), fun K => decide (PySem.W.kitOne K (.ref (He.ga K "TooMany")) (.ref (He.ga K "NoRoom")) = some false), fun K => decide (PySem.W.kitOne K (.ref (He.ga K "TooMany")) (.ref (He.ga K "NoText")) = some false), fun K => decide (PySem.W.kitOne K (.ref (He.ga K "TooMany")) (.ref (He.ga K "NotEven")) = some false), fun K => decide (PySem.W.kitOne K (.ref (He.ga K "TooMany")) (.ref (He.ga K "TooMany")) = some true), fun K => decide (PySem.W.kitOne K (.ref (He.ga K "TooMany")) (.ref (He.ga K "WishError")) = some true), fun K => decide (PySem.W.kitOne K (.ref (He.ga K "TooMany")) (.type "ValueError") = some true), fun K => decide (PySem.W.kitOne K (.type "tuple") (.ref (He.ga K "NoDeed")) = some false), fun K => decide (PySem.W.kitOne K (.type "int") (.ref (He.ga K "NoDeed")) = some false), fun K => decide (PySem.W.kitOne K (.type "tuple") (.ref (He.ga K "NoPlan")) = some false), fun K => decide (PySem.W.kitOne K (.type "int") (.ref (He.ga K "NoPlan")) = some false), fun K => decide (PySem.W.kitOne K (.type "tuple") (.ref (He.ga K "NoRoom")) = some false), fun K => decide (PySem.W.kitOne K (.type "int") (.ref (He.ga K "NoRoom")) = some false), fun K => decide (PySem.W.kitOne K (.type "tuple") (.ref (He.ga K "NoText")) = some false), fun K => decide (PySem.W.kitOne K (.type "int") (.ref (He.ga K "NoText")) = some false), fun K => decide (PySem.W.kitOne K (.type "tuple") (.ref (He.ga K "NotEven")) = some false)]
def exs_4 : List (PySem.W.Frag → Bool) := [fun K => decide (PySem.W.kitOne K (.type "int") (.ref (He.ga K "NotEven")) = some false), fun K => decide (PySem.W.kitOne K (.type "tuple") (.ref (He.ga K "TooMany")) = some false), fun K => decide (PySem.W.kitOne K (.type "int") (.ref (He.ga K "TooMany")) = some false), fun K => decide (PySem.W.kitOne K (.type "tuple") (.ref (He.ga K "WishError")) = some false), fun K => decide (PySem.W.kitOne K (.type "int") (.ref (He.ga K "WishError")) = some false), fun K => decide (PySem.W.findIn K (.ref (He.ga K "NoRoom")) "__getattribute__" = some (some (.builtin "BaseException.__getattribute__"))), fun K => decide (PySem.W.findIn K (.ref (He.ga K "NoRoom")) "__getattr__" = some none), fun K => decide (PySem.W.subIn K (.ref (He.ga K "NoRoom")) (.type "BaseException") = some true), fun K => decide (PySem.W.hasDictIn K (He.ga K "NoRoom") = true), fun K => decide (PySem.W.findIn K (.ref (He.ga K "NoRoom")) "work" = some none), fun K => decide (PySem.W.nsIn K mainGlobals "is_number" = some (some (.ref (He.fAd K d_p_is_number.at_)))), fun K => decide (PySem.W.nsIn K mainGlobals "is_even" = some (some (.ref (He.fAd K d_p_is_even.at_)))), fun K => decide (PySem.W.nsIn K mainGlobals "room_up_to" = some (some (.ref (He.fAd K d_p_room_up_to.at_)))), fun K => decide (PySem.W.nsIn K mainGlobals "is_no_lower" = some (some (.ref (He.fAd K d_p_is_no_lower.at_)))), fun K => decide (PySem.W.nsIn K mainGlobals "in_blocks" = some (some (.ref (He.fAd K d_p_in_blocks.at_)))), fun K => decide (PySem.W.nsIn K mainGlobals "_law_deck" = some (some (.ref (He.fAd K d_f_law_deck.at_)))), fun K => decide (PySem.W.nsIn K mainGlobals "_law_next" = some (some (.ref (He.fAd K d_f_law_next.at_)))), fun K => decide (PySem.W.nsIn K mainGlobals "_law_put" = some (some (.ref (He.fAd K d_f_law_put.at_)))), fun K => decide (PySem.W.nsIn K mainGlobals "_law_same" = some (some (.ref (He.fAd K d_f_law_same.at_)))), fun K => decide (PySem.W.nsIn K mainGlobals "_law_is_from" = some (some (.ref (He.fAd K d_f_law_is_from.at_)))), fun K => decide (PySem.W.nsIn K mainGlobals "_law_ways" = some (some (.ref (He.fAd K d_f_law_ways.at_)))), fun K => decide (PySem.W.nsIn K mainGlobals "_law_clash" = some (some (.ref (He.fAd K d_f_law_clash.at_)))), fun K => decide (PySem.W.nsIn K mainGlobals "_law_kept" = some (some (.ref (He.fAd K d_f_law_kept.at_)))), fun K => decide (PySem.W.nsIn K mainGlobals "_law_room" = some (some (.ref (He.fAd K d_f_law_room.at_)))), fun K => decide (PySem.W.nsIn K mainGlobals "_law_is_kind" = some (some (.ref (He.fAd K d_f_law_is_kind.at_)))), fun K => decide (PySem.W.nsIn K mainGlobals "is_from" = some (some (.ref (He.fAd K d_p_is_from.at_)))), fun K => decide (PySem.W.nsIn K mainGlobals "do_fit" = some (some (.ref (He.fAd K d_p_do_fit.at_)))), fun K => decide (PySem.W.nsIn K mainGlobals "_law_goes" = some (some (.ref (He.fAd K d_f_law_goes.at_)))), fun K => decide (PySem.W.nsIn K mainGlobals "_law_is_way" = some (some (.ref (He.fAd K d_f_law_is_way.at_)))), fun K => decide (PySem.W.nsIn K mainGlobals "_law_even_wish" = some (some (.ref (He.fAd K d_f_law_even_wish.at_))))]
def exs_5 : List (PySem.W.Frag → Bool) := [fun K => decide (PySem.W.nsIn K mainGlobals "_law_full_days" = some (some (.ref (He.fAd K d_f_law_full_days.at_)))), fun K => decide (PySem.W.nsIn K mainGlobals "_law_uneven" = some (some (.ref (He.fAd K d_f_law_uneven.at_)))), fun K => decide (PySem.W.nsIn K mainGlobals "holds_full" = some (some (.ref (He.fAd K d_p_holds_full.at_)))), fun K => decide (PySem.W.nsIn K mainGlobals "taken_wishes" = some (some (.ref (He.fAd K d_p_taken_wishes.at_)))), fun K => decide (PySem.W.nsIn K mainGlobals "_law_is_plan" = some (some (.ref (He.fAd K d_f_law_is_plan.at_)))), fun K => decide (PySem.W.nsIn K mainGlobals "_law_even" = some (some (.ref (He.fAd K d_f_law_even.at_)))), fun K => decide (PySem.W.nsIn K mainGlobals "_law_is_pair" = some (some (.ref (He.fAd K d_f_law_is_pair.at_)))), fun K => decide (PySem.W.nsIn K mainGlobals "full_day" = some (some (.ref (He.fAd K d_p_full_day.at_)))), fun K => decide (PySem.W.nsIn K mainGlobals "_law_is_paper" = some (some (.ref (He.fAd K d_f_law_is_paper.at_)))), fun K => decide (PySem.W.nsIn K mainGlobals "even" = some (some (.ref (He.fAd K d_p_even.at_)))), fun K => decide (PySem.W.nsIn K mainGlobals "_law_told" = some (some (.ref (He.fAd K d_f_law_told.at_)))), fun K => decide (PySem.W.nsIn K mainGlobals "law" = some (some (.ref (He.fAd K d_p_law.at_)))), fun K => decide (PySem.W.nsIn K mainGlobals "ValueError" = some none), fun K => decide (PySem.W.nsIn K mainGlobals "abs" = some none), fun K => decide (PySem.W.nsIn K mainGlobals "bool" = some none), fun K => decide (PySem.W.nsIn K mainGlobals "enumerate" = some none), fun K => decide (PySem.W.nsIn K mainGlobals "int" = some none), fun K => decide (PySem.W.nsIn K mainGlobals "isinstance" = some none), fun K => decide (PySem.W.nsIn K mainGlobals "len" = some none), fun K => decide (PySem.W.nsIn K mainGlobals "min" = some none), fun K => decide (PySem.W.nsIn K mainGlobals "range" = some none), fun K => decide (PySem.W.nsIn K mainGlobals "repr" = some none), fun K => decide (PySem.W.nsIn K mainGlobals "set" = some none), fun K => decide (PySem.W.nsIn K mainGlobals "sorted" = some none), fun K => decide (PySem.W.nsIn K mainGlobals "tuple" = some none), fun K => decide (PySem.W.nsIn K mainGlobals "zip" = some none)]
def exs : List (PySem.W.Frag → Bool) := exs_0 ++ exs_1 ++ exs_2 ++ exs_3 ++ exs_4 ++ exs_5
def loose_0 : List (PySem.Str) := ["WishError", "TooMany", "NoPlan", "NoRoom", "NotEven", "NoDeed", "NoText", "is_number", "is_from", "is_even", "room_up_to", "is_no_lower", "holds_full", "do_fit", "taken_wishes", "in_blocks", "full_day", "even", "_law_deck", "_law_next", "_law_put", "_law_same", "_law_is_from", "_law_ways", "_law_clash", "_law_goes", "_law_kept", "_law_is_way", "_law_is_plan", "_law_even_wish"]
def loose_1 : List (PySem.Str) := ["_law_even", "_law_room", "_law_full_days", "_law_is_pair", "_law_is_paper", "_law_is_kind", "_law_told", "_law_uneven"]
def loose : List (PySem.Str) := loose_0 ++ loose_1
abbrev R : PySem.W.OpenRow := PySem.W.OpenLaw.row PySem.Challenge.rw_workwishes_k42_even_told_or_refused
abbrev hk : PySem.W.Hook := hookW dfs (fun K => exs.all fun f => f K)
def ob (s : PySem.W.SharedT) : He.AlD := obsW dfs (fun K => exs.all fun f => f K) (HandSHeadRun.getT s)
theorem ob_eq (s : PySem.W.SharedT) : ob s = hk.obs s.abs := obsW_eq (HandSHeadRun.getT_eq s)
theorem run (w : World) : HandSHeadRun.RunEq R (PySem.W.view R.prog [43]) hk ob 40000 loose w := by
  intro os
  kernel_rfl
end HeadF
end DL
namespace DL
open PySem PySem.Spec PyProof.Rows L2
variable [Bs]
structure Spec where
  n : Nat
  G : Type
  args : G → List D
  pre : G → Sto → Prop
  post : G → Sto → D → Sto → Prop
def spOf (K : PySem.W.Frag) (S : Spec) : Sp := fun vs H Q _ => ∃ g io F st, (S.args g).length = S.n ∧ RelH K H io F st ∧ DenL K io F vs (S.args g) ∧ S.pre g st ∧ ∀ d st', S.post g st d st' → kE K H io F Q d st'
def wCall (S : Spec) (wa : DA) : DE := fun env st Q => wa env st fun ds s1 => ∃ g, ds = S.args g ∧ (S.args g).length = S.n ∧ S.pre g s1 ∧ ∀ d s2, S.post g s1 d s2 → Q d s2
section
variable {X : Cx} {pos p : Pos} {e : Expr} {es : List Expr} {wa : DA} {k : Nat} {f : Addr} {fd : FuncData} {ps : List Str} {x : Str}
theorem moCall {S : Spec} {wa : DA} (m : MoA wa) : MoE (wCall S wa) := fun _ _ _ _ i q => m _ _ _ _ (fun _ _ ⟨g, e, z, p, q⟩ => ⟨g, e, z, p, fun d s h => i _ _ (q d s h)⟩) q
theorem we_call {S : Spec} (F : FnG X.prog X.w X.K X.mg X.base CX0 k f fd ps (spOf X.K S)) (hr : Room k X.A) (hgd : X.A.guards = some []) (hg : Gl X x) (hm : X.mg x = some (.ref f)) (hk : PySem.W.keepIn X.K (.ref f) = true) (hb : Binds X.K fd ps [])
    (ha : WA X (e :: es) wa) (hdb : (x == ("__debug__" : Str)) = false := by decide) (he : starEach (e :: es) X.env = (false, eval e X.env) :: starEach es X.env := by rfl) (hpl : (backTo pos (starEach es X.env)).any (·.1) = false := by rfl) :
    WE X (.Call (.Name x p) (e :: es) [] pos) (wCall S wa) := by
  refine ⟨moCall ha.mo, PE_imp (pe_callG F hr hgd hg hm hk hb pass0 ha.pe hdb he hpl) fun σ H Q ⟨env, io, F, st, R, q⟩ => ?_⟩
  refine tA_use ha.mo R q fun ds s1 vs io1 F1 H1 ⟨g, eg, z, p1, q1⟩ t1 R1 n1 => ?_
  subst eg
  exact ⟨g, io1, F1, s1, z, R1.toRelH, n1, p1, fun d s2 h => kE_later t1 (q1 d s2 h)⟩
abbrev RLD := List D → Sto → DK → Prop
structure RzL (K : PySem.W.Frag) (r : List V → Hp → VK → Prop) (f : RLD) : Prop where
  mo : ∀ ds s Q Q', (∀ d s, Q d s → Q' d s) → f ds s Q → f ds s Q'
  on : ∀ {H io F st vs ds Q}, RelH K H io F st → DenL K io F vs ds → f ds st (kE K H io F Q) → r vs H Q
def wCB (f : RLD) (wa : DA) : DE := fun env st Q => wa env st fun ds s1 => f ds s1 Q
theorem we_callX {r : List V → Hp → VK → Prop} {f : RLD} (z : RzL X.K r f) {e0 : Expr} (pe : ∀ {t : TA}, PA X es t → PE X e0 (tCB r t)) (ha : WA X es wa) : WE X e0 (wCB f wa) := by
  refine ⟨fun _ _ _ _ i q => ha.mo _ _ _ _ (fun _ _ q => z.mo _ _ _ _ i q) q, PE_imp (pe ha.pe) fun σ H Q ⟨env, io, F, st, R, q⟩ => ?_⟩
  refine tA_use ha.mo R q fun ds s1 vs io1 F1 H1 q1 t1 R1 n1 => ?_
  exact z.on R1.toRelH n1 (z.mo _ _ _ _ (fun _ _ => kE_later t1) q1)
end
section
variable {X : Cx} {pos pos' : Pos} {e : Expr} {we : DE} {ss rest : Stmt} {sts : List Stmt} {ws wr : DS}
theorem wb_nil : WB X [] (fun D env st => D.nx env st) := ⟨fun _ _ _ _ l q => l.nx _ _ q, PSs_imp pss_nil fun D σ H ⟨env, io, F, st, R, q⟩ => q σ io F H Stp.refl R⟩
def wSeq (a b : DS) : DS := fun D env st => a { D with nx := fun e s => b D e s } env st
theorem kD_seq {K : PySem.W.Frag} {H : Hp} {io : List Addr} {F : Hp} {D : Ends} {b : DS} (mb : MoS b) : DEnds.le { kD K H io F D with nx := fun e s => b (kD K H io F D) e s } (kD K H io F { D with nx := tS K b D }) :=
  ⟨fun e s h σ' io' F' H' t R => ⟨e, io', F', s, R, mb _ _ _ _ (kD_later t) h⟩, fun _ _ h => h, fun _ _ h => h, fun _ _ h => h⟩
theorem wb_cons (h1 : WS X ss ws) (h2 : WB X sts wr) : WB X (ss :: sts) (wSeq ws wr) := by
  refine ⟨fun A B e s l q => h1.mo { A with nx := fun e s => wr A e s } _ _ _ ⟨fun e s q => h2.mo A B _ _ l q, l.rt, l.bk, l.ct⟩ q, PSs_imp (pss_cons h1.pe h2.pe) fun D σ H ⟨env, io, F, st, R, q⟩ => ?_⟩
  exact ⟨env, io, F, st, R, h1.mo _ _ _ _ (kD_seq h2.mo) q⟩
theorem wb_one (h1 : WS X ss ws) : WB X [ss] ws := ⟨h1.mo, pss_one h1.pe⟩
def wDrop (we : DE) : DS := fun D env st => we env st fun _ s => D.nx env s
theorem ws_expr (he : WE X e we) (hs : swapsWith e none pos.line X.env = pure false := by rfl) : WS X (.Expr e pos) (wDrop we) := by
  refine ⟨fun _ _ _ _ l q => he.mo _ _ _ _ (fun _ _ q => l.nx _ _ q) q, PS_imp (ps_expr he.pe hs) fun D σ H ⟨env, io, F, st, R, q⟩ => ?_⟩
  exact tE_use he.mo R q fun d s1 v io1 F1 H1 q1 t1 R1 n1 => q1 σ _ _ _ t1 R1
def wRet (we : DE) : DS := fun D env st => we env st D.rt
theorem ws_ret (he : WE X e we) : WS X (.Return (some e) pos) (wRet we) := by
  refine ⟨fun _ _ _ _ l q => he.mo _ _ _ _ (fun _ _ q => l.rt _ _ q) q, PS_imp (ps_ret he.pe) fun D σ H ⟨env, io, F, st, R, q⟩ => ?_⟩
  exact tE_use he.mo R q fun d s1 v io1 F1 H1 q1 t1 R1 n1 => kE_at q1 t1 R1.toRelH n1
def wIf (c : DT) (a b : DS) : DS := fun D env st => c env st fun k s => if k = true then a D env s else b D env s
theorem ws_if {c : Expr} {a b : List Stmt} {wc : DT} {wa wb : DS} (hc : WT X c wc) (ha : WB X a wa) (hb : WB X b wb) : WS X (.If c a b pos) (wIf wc wa wb) := by
  refine ⟨fun _ _ _ _ l q => hc.mo _ _ _ _ (fun k _ q => by
    cases k with
    | true => exact ha.mo _ _ _ _ l q
    | false => exact hb.mo _ _ _ _ l q) q, PS_imp (ps_if hc.pe ha.pe hb.pe) fun D σ H ⟨env, io, F, st, R, q⟩ => ?_⟩
  refine tT_use hc.mo R q fun k s1 io1 F1 H1 q1 t1 R1 => ?_
  cases k with
  | true => exact ⟨env, io1, F1, s1, R1, ha.mo _ _ _ _ (kD_later t1) q1⟩
  | false => exact ⟨env, io1, F1, s1, R1, hb.mo _ _ _ _ (kD_later t1) q1⟩
abbrev DG := D → En → Sto → (En → Sto → Prop) → Prop
def MoG (g : DG) : Prop := ∀ d e s (Q Q' : En → Sto → Prop), (∀ e s, Q e s → Q' e s) → g d e s Q → g d e s Q'
def tG (K : PySem.W.Frag) (g : DG) : TG := fun v σ H Q => ∃ d env io F st, Rel K σ H env io F st ∧ Den K io F v d ∧ g d env st (kN K H io F Q)
structure WG (X : Cx) (e : Expr) (g : DG) : Prop where
  mo : MoG g
  pe : PG X e (tG X.K g)
abbrev DGs := List D → En → Sto → (En → Sto → Prop) → Prop
def MoGs (g : DGs) : Prop := ∀ d e s (Q Q' : En → Sto → Prop), (∀ e s, Q e s → Q' e s) → g d e s Q → g d e s Q'
def tGs (K : PySem.W.Frag) (g : DGs) : TGs := fun vs σ H Q => ∃ ds env io F st, Rel K σ H env io F st ∧ DenL K io F vs ds ∧ g ds env st (kN K H io F Q)
structure WGs (X : Cx) (es : List Expr) (g : DGs) : Prop where
  mo : MoGs g
  pe : PGs X es (tGs X.K g)
theorem PG_imp {t t' : TG} (h : PG X e t) (i : ∀ v σ H Q, t' v σ H Q → t v σ H Q) : PG X e t' := ⟨fun p s σ H v u Q I r q => h.run p s σ H v u Q I r (i v σ H Q q)⟩
theorem PGs_imp {es : List Expr} {t t' : TGs} (h : PGs X es t) (i : ∀ v σ H Q, t' v σ H Q → t v σ H Q) : PGs X es t' := ⟨fun p s σ H v u Q I r q => h.run p s σ H v u Q I r (i v σ H Q q)⟩
theorem Rel.set {K : PySem.W.Frag} {σ : L2.St} {H : Hp} {env : En} {io : List Addr} {F : Hp} {st : Sto} {i : Nat} {v : V} {d : D} (R : Rel K σ H env io F st) (n : Den K io F v d) : Rel K (σ.set i (some v)) H (env.set i (some d)) io F st :=
  { R.toRelH with
    bs := R.bs
    sl := by rw [List.length_set, List.length_set]; exact R.sl
    slot := fun j d' e => by
      by_cases hj : i = j
      · subst hj
        by_cases hl : i < env.length
        · rw [List.getElem?_set_self hl] at e
          cases e
          exact ⟨v, List.getElem?_set_self (by rw [R.sl]; exact hl), n⟩
        · rw [List.getElem?_eq_none (by rw [List.length_set]; omega)] at e
          cases e
      · rw [List.getElem?_set_ne hj] at e ⊢
        exact R.slot j d' e }
def gNm (i : Nat) : DG := fun d env st Q => Q (env.set i (some d)) st
theorem wg_name {i : Nat} {x : Str} (hN : X.N.Nodup) (hi : X.N[i]? = some x) (hx : Loc X.env.scope x) (hf : X.fn x = true ∨ X.env.scope.names.lookup x = some .local := by first | exact .inl rfl | exact .inr rfl | assumption) : WG X (.Name x pos) (gNm i) :=
  ⟨fun _ _ _ _ _ h q => h _ _ q, PG_imp (pg_name hN hi hx hf) fun v σ H Q ⟨d, env, io, F, st, R, n, q⟩ => q _ _ _ _ Stp.refl (R.set n)⟩
def gNl : DGs := fun ds env st Q => ds = [] ∧ Q env st
def gCn (g : DG) (r : DGs) : DGs := fun ds env st Q => ∃ d ds', ds = d :: ds' ∧ g d env st fun e s => r ds' e s Q
theorem wgs_nil : WGs X [] gNl := ⟨fun _ _ _ _ _ h ⟨a, q⟩ => ⟨a, h _ _ q⟩, PGs_imp pgs_nil fun v σ H Q ⟨d, env, io, F, st, R, n, e, q⟩ => by
  subst e
  cases n
  exact ⟨rfl, q _ _ _ _ Stp.refl R⟩⟩
theorem wgs_cons {es : List Expr} {g : DG} {r : DGs} (h1 : WG X e g) (h2 : WGs X es r) (hs : (assignEach (e :: es) X.env).map (·.2) = assign e X.env :: (assignEach es X.env).map (·.2) := by rfl) : WGs X (e :: es) (gCn g r) := by
  refine ⟨fun _ _ _ _ _ h ⟨d, ds', e, q⟩ => ⟨d, ds', e, h1.mo _ _ _ _ _ (fun _ _ q => h2.mo _ _ _ _ _ h q) q⟩, PGs_imp (pgs_cons h1.pe h2.pe hs) fun v σ H Q ⟨ds, env, io, F, st, R, n, q⟩ => ?_⟩
  obtain ⟨d, ds', e, q⟩ := q
  subst e
  cases n with
  | cons n1 n2 =>
    refine ⟨_, _, rfl, d, env, io, F, st, R, n1, h1.mo _ _ _ _ _ (fun e1 s1 q1 => ?_) q⟩
    intro σ' io' F' H' t R'
    exact ⟨ds', e1, io', F', s1, R', t.denL n2, h2.mo _ _ _ _ _ (fun e2 s2 q2 => kN_later t q2) q1⟩
def gTp (n : Nat) (g : DGs) : DG := fun d env st Q => ∃ ds, d = .tup ds ∧ ds.length = n ∧ g ds env st Q
theorem wg_tup {es : List Expr} {k n : Nat} {g : DGs} (hc : X.calm = true) (h : WGs X es g) (hn : (assignEach es X.env).length = n := by rfl) (hst : (assignEach es X.env).findIdx? (·.1) = none := by rfl) : WG X (.Tuple es k pos) (gTp n g) := by
  refine ⟨fun _ _ _ _ _ i ⟨ds, e, z, q⟩ => ⟨ds, e, z, h.mo _ _ _ _ _ i q⟩, PG_imp (pg_tup hc h.pe hn hst) fun v σ H Q ⟨d, env, io, F, st, R, n1, q⟩ => ?_⟩
  obtain ⟨ds, e, z, q⟩ := q
  subst e
  cases n1 with
  | tup s r _ => exact ⟨_, _, rfl, SqT_mono R.sub s.t, by rw [r.length]; exact z, ds, env, io, F, st, R, r, q⟩
def wAsg (we : DE) (g : DG) : DS := fun D env st => we env st fun d s => g d env s D.nx
theorem ws_asg {tg : Expr} {g : DG} (he : WE X e we) (hg : WG X tg g) (hs : swapsWithSole [tg] e pos.line X.env = pure false := by rfl) (hw : swappedStores [tg] e X.env = pure none := by rfl)
    (h1 : (assignEach [tg] X.env).map (·.2) = [assign tg X.env] := by rfl) : WS X (.Assign [tg] e pos) (wAsg we g) := by
  refine ⟨fun _ _ _ _ l q => he.mo _ _ _ _ (fun _ _ q => hg.mo _ _ _ _ _ l.nx q) q, PS_imp (ps_asg he.pe hg.pe hs hw h1) fun D σ H ⟨env, io, F, st, R, q⟩ => ?_⟩
  exact tE_use he.mo R q fun d s1 v io1 F1 H1 q1 t1 R1 n1 => ⟨d, env, io1, F1, s1, R1, n1, hg.mo _ _ _ _ _ (fun e s q => kN_later t1 q) q1⟩
theorem ws_set {i : Nat} {x : Str} (hN : X.N.Nodup) (hi : X.N[i]? = some x) (hx : Loc X.env.scope x) (he : WE X e we) (hs : swapsWith e (some (.Name x pos')) pos.line X.env = pure false := by rfl)
    (hf : X.fn x = true ∨ X.env.scope.names.lookup x = some .local := by first | exact .inl rfl | exact .inr rfl | assumption) : WS X (.Assign [.Name x pos'] e pos) (wAsg we (gNm i)) := by
  refine ⟨fun _ _ _ _ l q => he.mo _ _ _ _ (fun _ _ q => l.nx _ _ q) q, PS_imp (ps_set hN hi hx he.pe hs hf) fun D σ H ⟨env, io, F, st, R, q⟩ => ?_⟩
  exact tE_use he.mo R q fun d s1 v io1 F1 H1 q1 t1 R1 n1 => q1 _ _ _ _ t1 (R1.set n1)
end
end DL
namespace DL
open PySem PySem.Spec PyProof.Rows L2
variable [Bs]
abbrev GK := List D → (Sto → Prop) → Sto → Prop
abbrev DI := En → Sto → GK → Prop
def MoI (w : DI) : Prop := ∀ (e : En) (s : Sto) (Q Q' : GK), (∀ d g s, Q d g s → Q' d g s) → w e s Q → w e s Q'
structure WalkD (K : PySem.W.Frag) (J : It) (H : Hp) (io : List Addr) (F : Hp) (ds : List D) (G : Sto → Prop) : Prop where
  go : ∀ {H2 io2 F2 st2} (i : Nat), Stp H io F H2 io2 F2 → RelH K H2 io2 F2 st2 → G st2 → i < ds.length → J.go i H2
  stop : ∀ {H2 io2 F2 st2}, Stp H io F H2 io2 F2 → RelH K H2 io2 F2 st2 → G st2 → J.stop ds.length H2
  yld : ∀ {H2 io2 F2 st2} (i : Nat) (x : V) (H3 : Hp), Stp H io F H2 io2 F2 → RelH K H2 io2 F2 st2 → G st2 → i < ds.length → J.yld i H2 x H3 →
    ∃ F3 d, Stp H2 io2 F2 H3 io2 F3 ∧ RelH K H3 io2 F3 st2 ∧ ds[i]? = some d ∧ Den K io2 F3 x d
def kI (K : PySem.W.Frag) (H : Hp) (io : List Addr) (F : Hp) (R : It → Hp → Prop) : GK := fun ds G st' => ∀ io' F' H' J, Stp H io F H' io' F' → RelH K H' io' F' st' → WalkD K J H' io' F' ds G → R J H'
def tI (K : PySem.W.Frag) (w : DI) : TI := fun σ H R => ∃ env io F st, Rel K σ H env io F st ∧ w env st (kI K H io F R)
structure WI (X : Cx) (tg iter : Expr) (w : DI) : Prop where
  mo : MoI w
  pe : PI X tg iter (tI X.K w)
theorem PI_imp {X : Cx} {tg iter : Expr} {t t' : TI} (h : PI X tg iter t) (i : ∀ σ H R, t' σ H R → t σ H R) : PI X tg iter t' := ⟨fun p s σ H R I q => h.run p s σ H R I (i σ H R q)⟩
def wForL (G : Sto → Prop) (g : DG) (b : DS) (A : DEnds) : List D → En → Sto → Prop
  | [], env, st => G st ∧ A.nx env st
  | d :: r, env, st => G st ∧ g d env st fun e s => b { nx := wForL G g b A r, rt := A.rt, bk := A.nx, ct := wForL G g b A r } e s
def wFor (wi : DI) (g : DG) (b : DS) : DS := fun D env st => wi env st fun ds G s => wForL G g b D ds env s
theorem moForL {G : Sto → Prop} {g : DG} {b : DS} (mg : MoG g) (mb : MoS b) {A B : DEnds} (l : A.le B) : ∀ (ds : List D) (env : En) (st : Sto), wForL G g b A ds env st → wForL G g b B ds env st
  | [], _, _, ⟨h, q⟩ => ⟨h, l.nx _ _ q⟩
  | d :: r, env, st, ⟨h, q⟩ => ⟨h, mg _ _ _ _ _ (fun e s q => mb { nx := wForL G g b A r, rt := A.rt, bk := A.nx, ct := wForL G g b A r } { nx := wForL G g b B r, rt := B.rt, bk := B.nx, ct := wForL G g b B r } _ _ ⟨moForL mg mb l r, l.rt, l.nx, moForL mg mb l r⟩ q) q⟩
section
variable {X : Cx} {pos : Pos} {tg iter : Expr} {body : List Stmt} {wi : DI} {g : DG} {b : DS}
theorem ws_for (hp : PassesOwn (model X.prog X.w) X.A X.env X.xe) (hc : X.calm = true) (hi : WI X tg iter wi) (hg : WG X tg g) (hb : WB X body b)
    (hs : ∀ x, foldedSetIterable iter X.env x = pure x := by intro _; rfl) : WS X (.For tg iter body [] pos) (wFor wi g b) := by
  refine ⟨fun A B e s l q => hi.mo _ _ _ _ (fun ds G s q => moForL hg.mo hb.mo l ds e s q) q, PS_imp (ps_for hp hc hi.pe hg.pe hb.pe hs) fun D σ H ⟨env, io, F, st, R, q⟩ => ?_⟩
  refine ⟨env, io, F, st, R, hi.mo _ _ _ _ (fun ds G s1 q1 => ?_) q⟩
  intro io1 F1 H1 J t1 R1 W
  let Pv : Nat → L2.St → Hp → Prop := fun i σ' H' => ∃ env' io' F' st', Stp H1 io1 F1 H' io' F' ∧ Rel X.K σ' H' env' io' F' st' ∧ wForL G g b (kD X.K H io F D) (ds.drop i) env' st'
  refine ⟨fun i m σ' H' => m = ds.length - i ∧ i ≤ ds.length ∧ Pv i σ' H', ⟨ds.length, by omega, Nat.zero_le _, env, io1, F1, s1, Stp.refl, R.next t1 R1, by rw [List.drop_zero]; exact q1⟩, ?_⟩
  rintro i m σ2 H2 ⟨rfl, hi2, env2, io2, F2, st2, t2, R2, q2⟩
  by_cases hlt : i < ds.length
  · have hd : ds.drop i = ds[i] :: ds.drop (i + 1) := List.drop_eq_getElem_cons hlt
    rw [hd] at q2
    obtain ⟨hG, q2⟩ := q2
    refine .inr ⟨W.go i t2 R2.toRelH hG hlt, Pv (i + 1), fun σ' H' p => ⟨ds.length - (i + 1), by omega, rfl, hlt, p⟩, fun x H3 y => ?_⟩
    obtain ⟨F3, d, t3, R3, e3, n3⟩ := W.yld i x H3 t2 R2.toRelH hG hlt y
    have ed : d = ds[i] := by rw [List.getElem?_eq_getElem hlt] at e3; exact (Option.some.inj e3).symm
    subst ed
    refine ⟨_, env2, io2, F3, st2, R2.next t3 R3, n3, hg.mo _ _ _ _ _ (fun e4 s4 q4 => ?_) q2⟩
    intro σ4 io4 F4 H4 t4 R4
    refine ⟨e4, io4, F4, s4, R4, hb.mo _ _ _ _ ?_ q4⟩
    have tt := (t2.trans t3).trans t4
    refine ⟨fun e5 s5 q5 => ?_, fun d5 s5 q5 => ?_, fun e5 s5 q5 => ?_, fun e5 s5 q5 => ?_⟩
    · exact fun σ5 io5 F5 H5 t5 R5 => ⟨e5, io5, F5, s5, tt.trans t5, R5, q5⟩
    · exact kE_later (t1.trans tt) q5
    · exact kN_later (t1.trans tt) q5
    · exact fun σ5 io5 F5 H5 t5 R5 => ⟨e5, io5, F5, s5, tt.trans t5, R5, q5⟩
  · have e : i = ds.length := by omega
    subst e
    rw [List.drop_length] at q2
    obtain ⟨hG, q2⟩ := q2
    exact .inl ⟨W.stop t2 R2.toRelH hG, q2 _ _ _ _ (t1.trans t2) R2⟩
def wWhile (c : DT) (b : DS) : DS := fun D env st => ∃ I : Nat → En → Sto → Prop, (∃ m, I m env st) ∧ ∀ m env st, I m env st → c env st fun k s => if k = true then b { nx := fun e s => ∃ m', m' < m ∧ I m' e s, rt := D.rt, bk := D.nx, ct := fun e s => ∃ m', m' < m ∧ I m' e s } env s else D.nx env s
theorem ws_while {c : Expr} {wc : DT} (hp : PassesOwn (model X.prog X.w) X.A X.env X.xe) (hc : WT X c wc) (hb : WB X body b) : WS X (.While c body [] pos) (wWhile wc b) := by
  refine ⟨fun A B e s l ⟨I, i0, q⟩ => ⟨I, i0, fun m e s hI => hc.mo _ _ _ _ (fun k s q => ?_) (q m e s hI)⟩, PS_imp (ps_while hp hc.pe hb.pe) fun D σ H ⟨env, io, F, st, R, I, ⟨m0, i0⟩, q⟩ => ?_⟩
  · cases k with
    | true => exact hb.mo { nx := fun e s => ∃ m', m' < m ∧ I m' e s, rt := A.rt, bk := A.nx, ct := fun e s => ∃ m', m' < m ∧ I m' e s } _ _ _ ⟨fun _ _ h => h, fun _ _ h => l.rt _ _ h, fun _ _ h => l.nx _ _ h, fun _ _ h => h⟩ q
    | false => exact l.nx _ _ q
  · refine ⟨fun m σ' H' => ∃ env' io' F' st', Stp H io F H' io' F' ∧ Rel X.K σ' H' env' io' F' st' ∧ I m env' st', ⟨m0, env, io, F, st, Stp.refl, R, i0⟩, ?_⟩
    rintro m σ1 H1 ⟨env1, io1, F1, st1, t1, R1, i1⟩
    refine tT_use hc.mo R1 (q m env1 st1 i1) fun k s2 io2 F2 H2 q2 t2 R2 => ?_
    cases k with
    | true =>
      rw [if_pos rfl] at q2 ⊢
      refine ⟨fun σ' H' => ∃ m', m' < m ∧ ∃ env' io' F' st', Stp H io F H' io' F' ∧ Rel X.K σ' H' env' io' F' st' ∧ I m' env' st', fun σ' H' h => h, env1, io2, F2, s2, R2, hb.mo _ _ _ _ ?_ q2⟩
      refine ⟨fun e5 s5 ⟨m', hm, q5⟩ => ?_, fun d5 s5 q5 => ?_, fun e5 s5 q5 => ?_, fun e5 s5 ⟨m', hm, q5⟩ => ?_⟩
      · exact fun σ5 io5 F5 H5 t5 R5 => ⟨m', hm, e5, io5, F5, s5, (t1.trans t2).trans t5, R5, q5⟩
      · exact kE_later (t1.trans t2) q5
      · exact kN_later (t1.trans t2) q5
      · exact fun σ5 io5 F5 H5 t5 R5 => ⟨m', hm, e5, io5, F5, s5, (t1.trans t2).trans t5, R5, q5⟩
    | false =>
      rw [if_neg Bool.false_ne_true] at q2 ⊢
      exact q2 _ _ _ _ (t1.trans t2) R2
end
def wipeE (env : En) : List Nat → En
  | [] => env
  | v :: vs => (wipeE env vs).set v none
theorem wipe_rel {K : PySem.W.Frag} {σ : L2.St} {H : Hp} {env : En} {io : List Addr} {F : Hp} {st : Sto} (R : Rel K σ H env io F st) : ∀ vs : List Nat, Rel K (wipe σ vs) H (wipeE env vs) io F st
  | [] => R
  | v :: vs => by
    have ih := wipe_rel R vs
    refine { ih.toRelH with sl := ?_, bs := ih.bs, slot := fun j d e => ?_ }
    · show ((wipe σ vs).set v none).length = ((wipeE env vs).set v none).length
      rw [List.length_set, List.length_set]; exact ih.sl
    · replace e : ((wipeE env vs).set v none)[j]? = some (some d) := e
      show ∃ x, ((wipe σ vs).set v none)[j]? = some (some x) ∧ _
      by_cases hj : v = j
      · subst hj
        by_cases hl : v < (wipeE env vs).length
        · rw [List.getElem?_set_self hl] at e; cases e
        · rw [List.getElem?_eq_none (by rw [List.length_set]; omega)] at e; cases e
      · rw [List.getElem?_set_ne hj] at e ⊢
        exact ih.slot j d e
/-- targets in a comprehension: plain slots -/
inductive Tg where
  | nm (i : Nat) | tp (is : List Nat)
def Tg.dg : Tg → DG
  | .nm i => gNm i
  | .tp is => gTp is.length (is.foldr (fun i r => gCn (gNm i) r) gNl)
def Tg.tg (K : PySem.W.Frag) : Tg → TG
  | .nm i => gName i
  | .tp is => gTup K is.length (is.foldr (fun i r => gCons (gName i) r) gNil)
def Tg.ix : Tg → List Nat
  | .nm i => [i]
  | .tp is => is
theorem wipe_set {σ : L2.St} {x : Option V} {i : Nat} : ∀ {vs : List Nat}, i ∈ vs → wipe (σ.set i x) vs = wipe σ vs
  | v :: vs, h => by
    unfold wipe
    by_cases e : i ∈ vs
    · rw [wipe_set e]
    · have ev : i = v := by rcases List.mem_cons.mp h with z | z; exact z; exact absurd z e
      subst ev
      have : ∀ (vs : List Nat) (σ : L2.St), i ∉ vs → wipe (σ.set i x) vs = (wipe σ vs).set i x := fun vs => by
        induction vs with
        | nil => intro σ _; rfl
        | cons w ws ih =>
          intro σ hn
          unfold wipe
          have h1 : w ≠ i := fun z => hn (by rw [z]; exact List.mem_cons_self)
          rw [ih σ (fun z => hn (List.mem_cons_of_mem _ z)), List.set_comm _ _ h1.symm]
      rw [this vs σ e, List.set_set]
/-- running a target: the slots besides stay -/
theorem Tg.run {K : PySem.W.Frag} {H : Hp} {io : List Addr} {F : Hp} {st : Sto} {vs : List Nat} : ∀ (t : Tg) (hv : ∀ i ∈ t.ix, i ∈ vs) {σ : L2.St} {env : En} {v : V} {d : D} {Q : L2.St → Hp → Prop} {P : En → Sto → Prop}, Rel K σ H env io F st → Den K io F v d → t.dg d env st P →
    (∀ σ' env', P env' st → Rel K σ' H env' io F st → wipe σ' vs = wipe σ vs → Q σ' H) → t.tg K v σ H Q
  | .nm i, hv, σ, env, v, d, Q, P, R, n, q, k => k _ _ q (R.set n) (wipe_set (hv i (by simp [Tg.ix])))
  | .tp is, hv, σ, env, v, d, Q, P, R, n, q, k => by
    obtain ⟨ds, e, z, q⟩ := q
    subst e
    cases n with
    | @tup a xs _ s r _ =>
      refine ⟨a, xs, rfl, SqT_mono R.sub s.t, by rw [r.length]; exact z, ?_⟩
      clear s z
      replace hv : ∀ i ∈ is, i ∈ vs := hv
      suffices ∀ (is : List Nat) (hv : ∀ i ∈ is, i ∈ vs) (xs : List V) (ds : List D) (σ' : L2.St) (env' : En), Rel K σ' H env' io F st → wipe σ' vs = wipe σ vs → DenL K io F xs ds →
          is.foldr (fun i r => gCn (gNm i) r) gNl ds env' st P → is.foldr (fun i r => gCons (gName i) r) gNil xs σ' H Q from this is hv xs ds σ env R rfl r q
      intro is
      induction is with
      | nil =>
        intro hv xs ds σ' env' R' w' r' q'
        obtain ⟨e, q'⟩ := q'
        subst e
        cases r'
        exact ⟨rfl, k _ _ q' R' w'⟩
      | cons i is ih =>
        intro hv xs ds σ' env' R' w' r' q'
        obtain ⟨d1, ds', e, q'⟩ := q'
        subst e
        cases r' with
        | @cons v1 vs1 _ _ n1 n2 =>
          exact ⟨v1, vs1, rfl, ih (fun j hj => hv j (List.mem_cons_of_mem _ hj)) vs1 ds' _ _ (R'.set n1) ((wipe_set (hv i List.mem_cons_self)).trans w') n2 q'⟩
theorem moFold {Q Q' : En → Sto → Prop} (h : ∀ e s, Q e s → Q' e s) {s : Sto} : ∀ (is : List Nat) (ds : List D) (e : En), is.foldr (fun i r => gCn (gNm i) r) gNl ds e s Q → is.foldr (fun i r => gCn (gNm i) r) gNl ds e s Q'
  | [], _, _, ⟨a, q⟩ => ⟨a, h _ _ q⟩
  | i :: is, _, _, ⟨d1, ds', e2, q⟩ => ⟨d1, ds', e2, moFold h is _ _ q⟩
theorem Tg.mo : ∀ t : Tg, MoG t.dg
  | .nm i => fun _ _ _ _ _ h q => h _ _ q
  | .tp is => fun d e s Q Q' h ⟨ds, e1, z, q⟩ => ⟨ds, e1, z, moFold h is ds e q⟩
def wCompL (G : Sto → Prop) (t : Tg) (c : DT) (w : DE) (env : En) : List D → Sto → List D → LK → Prop
  | [], st, acc, Q => G st ∧ Q acc st
  | d :: r, st, acc, Q => G st ∧ t.dg d env st fun e s => c e s fun k s1 => if k = true then w e s1 fun x s2 => wCompL G t c w env r s2 (acc ++ [x]) Q else wCompL G t c w env r s1 acc Q
def wComp (m : Bool) (wi : DI) (t : Tg) (c : DT) (w : DE) (vs : List Nat) : DE := fun env st Q => wi env st fun ds G s => ds.length ≤ sizeLine ∧ wCompL G t c w (wipeE env vs) ds s [] fun acc s' => newL m acc s' Q
theorem moCompL {G : Sto → Prop} {t : Tg} {c : DT} {w : DE} (mc : MoT c) (mw : MoE w) {Q Q' : LK} (h : ∀ d s, Q d s → Q' d s) {env : En} : ∀ (ds : List D) (st : Sto) (acc : List D), wCompL G t c w env ds st acc Q → wCompL G t c w env ds st acc Q'
  | [], _, _, ⟨g, q⟩ => ⟨g, h _ _ q⟩
  | d :: r, st, acc, ⟨g, q⟩ => ⟨g, t.mo _ _ _ _ _ (fun e s q => mc _ _ _ _ (fun k s1 q => by
    cases k with
    | true => exact mw _ _ _ _ (fun x s2 q => moCompL mc mw h r s2 _ q) q
    | false => exact moCompL mc mw h r s1 acc q) q) q⟩
def wYes : DT := fun _ st Q => Q true st
/-- a clause's tests -/
structure WTs (X : Cx) (ifs : List Expr) (w : DT) : Prop where
  mo : MoT w
  pe : PTs X ifs (tT X.K w)
theorem PTs_imp {X : Cx} {e : List Expr} {t t' : TT} (h : PTs X e t) (i : ∀ σ H Q, t' σ H Q → t σ H Q) : PTs X e t' := ⟨fun p s σ H Q I q => h.run p s σ H Q I (i σ H Q q)⟩
theorem wts_nil {X : Cx} : WTs X [] wYes := ⟨fun _ _ _ _ h q => h _ _ q, PTs_imp pts_nil fun σ H Q ⟨env, io, F, st, R, q⟩ => q io F H Stp.refl R.toRelH⟩
theorem wts_one {X : Cx} {c : Expr} {w : DT} (h : WT X c w) : WTs X [c] w := ⟨h.mo, pts_one h.pe⟩
/-- the reading of a comprehension -/
theorem tLc_of {K : PySem.W.Frag} {wi : DI} {t : Tg} {c : DT} {w : DE} {vs : List Nat} {m : Bool} {Q : VK} {σ : L2.St} {H : Hp} (mi : MoI wi) (mc : MoT c) (mw : MoE w) (hv : ∀ i ∈ t.ix, i ∈ vs) (h : tE K (wComp m wi t c w vs) σ H Q) :
    tLc (tI K wi) (t.tg K) (tT K c) (tE K w) vs σ H Q := by
  obtain ⟨env, io, F, st, R, q⟩ := h
  refine ⟨env, io, F, st, R, mi _ _ _ _ (fun ds G s1 ⟨hz, q1⟩ => ?_) q⟩
  intro io1 F1 H1 J t1 R1 W Dl hD
  have R1' : Rel K σ H1 env io1 F1 s1 := R.next t1 R1
  have hio := R1.notIo hD
  have hF := R1.notF hD
  have hHD : H Dl = none := t1.none_of hD
  let Pv : Nat → Hp → Prop := fun i H' => ∃ io' F' st' acc vs', Stp H1 io1 F1 H' io' F' ∧ RelH K H' io' F' st' ∧ H' Dl = some (.lst vs') ∧ F' Dl = none ∧ Dl ∉ io' ∧ DenL K io' F' vs' acc ∧ acc.length ≤ i ∧
    wCompL G t c w (wipeE env vs) (ds.drop i) st' acc (fun acc s' => newL m acc s' (kE K H io F Q))
  refine ⟨fun i k H' => k = ds.length - i ∧ i ≤ ds.length ∧ Pv i H', ⟨ds.length, by omega, Nat.zero_le _, io1, F1, s1, [], [], Stp.refl.own hD, R1.aside hD, upd_same, hF, hio, .nil, Nat.le_refl _, by rw [List.drop_zero]; exact q1⟩, ?_⟩
  rintro i k H2 ⟨rfl, hi2, io2, F2, st2, acc, vs2, t2, R2, e2, f2, o2, n2, l2, q2⟩
  by_cases hlt : i < ds.length
  · have hd : ds.drop i = ds[i] :: ds.drop (i + 1) := List.drop_eq_getElem_cons hlt
    rw [hd] at q2
    obtain ⟨hG, q2⟩ := q2
    refine .inr ⟨W.go i t2 R2 hG hlt, Pv (i + 1), fun H' p => ⟨ds.length - (i + 1), by omega, rfl, hlt, p⟩, fun x H3 y => ?_⟩
    obtain ⟨F3, d, t3, R3, e3, n3⟩ := W.yld i x H3 t2 R2 hG hlt y
    have ed : d = ds[i] := by rw [List.getElem?_eq_getElem hlt] at e3; exact (Option.some.inj e3).symm
    subst ed
    have Rs : Rel K (wipe σ vs) H3 (wipeE env vs) io2 F3 st2 := wipe_rel (R1'.next (t2.trans t3) R3) vs
    refine t.run hv Rs n3 q2 fun σ4 env4 q4 R4 w4 => ⟨?_, ?_⟩
    · rw [w4]
      have : ∀ (vs ws : List Nat), (∀ i ∈ vs, i ∈ ws) → wipe (wipe σ ws) vs = wipe σ ws := fun vs ws => by
        induction vs with
        | nil => intro _; rfl
        | cons v vs ih =>
          intro hh
          show (wipe (wipe σ ws) vs).set v none = _
          rw [ih fun i hi => hh i (List.mem_cons_of_mem _ hi)]
          have hv' := hh v List.mem_cons_self
          clear ih hh
          induction ws with
          | nil => cases hv'
          | cons u us ih2 =>
            show ((wipe σ us).set u none).set v none = (wipe σ us).set u none
            by_cases e : v = u
            · subst e; rw [List.set_set]
            · rcases List.mem_cons.mp hv' with z | z
              · exact absurd z e
              · rw [List.set_comm _ _ (Ne.symm e), ih2 z]
      exact this vs vs fun _ h => h
    refine tT_use mc R4 q4 fun b s5 io5 F5 H5 q5 t5 R5 => ?_
    have b5 := (t3.trans t5).beside e2 (fun _ z => nomatch z) f2 o2
    cases b with
    | true =>
      rw [if_pos rfl] at q5 ⊢
      refine tE_use mw R5 q5 fun d6 s6 v6 io6 F6 H6 q6 t6 R6 n6 => ?_
      have b6 := ((t3.trans t5).trans t6).beside e2 (fun _ z => nomatch z) f2 o2
      have lz : acc.length < sizeLine := by omega
      refine ⟨vs2, b6.1, by rw [n2.length]; exact lz, io6, F6, s6, acc ++ [d6], vs2 ++ [v6], (((t2.trans t3).trans t5).trans t6).own hD, R6.toRelH.side b6.1 (fun _ z => nomatch z) b6.2.1 b6.2.2, upd_same, b6.2.1, b6.2.2,
        ((((t3.trans t5).trans t6).denL n2).append (.cons n6 .nil)), by rw [List.length_append, List.length_singleton]; omega, q6⟩
    | false =>
      rw [if_neg Bool.false_ne_true] at q5 ⊢
      exact ⟨io5, F5, s5, acc, vs2, ((t2.trans t3).trans t5), R5.toRelH, b5.1, b5.2.1, b5.2.2, (t3.trans t5).denL n2, by omega, q5⟩
  · have e : i = ds.length := by omega
    subst e
    rw [List.drop_length] at q2
    obtain ⟨hG, q2⟩ := q2
    refine .inl ⟨W.stop t2 R2 hG, ?_⟩
    have lz : acc.length ≤ sizeLine := by omega
    cases m with
    | true =>
      have s : Stp H2 io2 F2 H2 (io2 ++ [Dl]) F2 → True := fun _ => trivial
      have ix : ∀ (n : Nat) a, io2[n]? = some a → (io2 ++ [Dl])[n]? = some a := fun n a h => by
        rw [List.getElem?_append_left (List.getElem?_eq_some_iff.mp h).1]; exact h
      exact kE_at (show kE K H io F Q (.ref st2.length) (st2 ++ [.lst acc]) from q2) ((t1.trans t2).cell hHD) (R2.adopt ⟨_, e2, fun _ z => nomatch z⟩ o2 ⟨f2, lz, vs2, e2, n2.mono ix fun _ _ h => h⟩) R2.newRef
    | false =>
      have fr : ∀ a u, F2 a = some u → upd F2 Dl (.lst vs2) a = some u := fun a u e => by
        rw [upd_ne (fun z => by subst z; rw [f2] at e; cases e)]; exact e
      exact kE_at (show kE K H io F Q (.lst acc) st2 from q2) ((t1.trans t2).frz hHD f2) (R2.frz e2 (fun _ z => nomatch z) f2 o2) (.lst upd_same (n2.mono (fun _ _ h => h) fr) lz)
end DL
namespace DL
open PySem PySem.Spec PyProof.Rows L2
variable [Bs]
theorem meets_enum_new1 {v : Value} {o : Obj} {H : Heap → Prop} (B : Begins v o H) :
    Meets (Builtin.«enumerate.__new__» ⟨[.type "enumerate", v], []⟩) (fun _ R s => H s.heap ∧
      R (.ok (.ret (.ref (s.heap.push o).objs.size))) { s with heap := (s.heap.push o).push { cls := .type "enumerate", data := .fields #[.none, .bool false, .ref s.heap.objs.size, rawInt 0, .none, .none] } }) :=
  .of_wp fun prog w A R s h => by
    obtain ⟨hp, g, d, tk, os⟩ := s; obtain ⟨h1, h⟩ := h
    have hsub := sub_enumerate
    have q1 : ∀ {A' : Around} {E : Value → Shared → Prop} {Q : Value → Shared → Prop}, Q (.ref hp.objs.size) ⟨hp.push o, g, d, tk, os⟩ → wpAny (model prog w) A' (pyIter v) Q E ⟨hp, g, d, tk, os⟩ :=
      fun q => B.iter prog w _ _ ⟨hp, g, d, tk, os⟩ _ h1 q
    wp_walk using q1
    refine wpAny_stack_any fun st => wpAny_pure ?_
    split
    · rename_i c _ _ _ _ _
      cases (c == Value.type "enumerate")
      · wp_walk using q1
        exact ⟨_, rfl, h⟩
      · wp_walk using q1
        exact ⟨_, rfl, h⟩
    · wp_walk using q1
      exact ⟨_, rfl, h⟩
theorem call_enum_begins {prog : Program} {w : World} {A : Around} {E : Value → Shared → Prop} {s : Shared} {v : Value} {o : Obj} {H : Heap → Prop} {Q : Value → Shared → Prop} (B : Begins v o H) (h1 : H s.heap)
    (h : ∀ h', IsEnum h' (s.heap.objs.size + 1) s.heap.objs.size 0 .none → h'.get? s.heap.objs.size = some o → h'.objs.size = s.heap.objs.size + 2 →
      (∀ b o, s.heap.get? b = some o → h'.get? b = some o) → Q (.ref (s.heap.objs.size + 1)) { s with heap := h' }) :
    wpAny (model prog w) A (call (.type "enumerate") [v]) Q E s := by
  refine callType_new F.called_enumerate (by decide) (F.typeCall_enumerate_1 _) (F.newCall_enumerate_1 _) (fun obj => F.args_object_init_2 obj _) F.entry_enumerate_new (meets_enum_new1 B) ⟨h1, ?_⟩
  have hz : (s.heap.push o).objs.size = s.heap.objs.size + 1 := Heap.size_push ..
  show _ ∧ _
  rw [hz]
  have he : IsEnum ((s.heap.push o).push { cls := .type "enumerate", data := .fields #[.none, .bool false, .ref s.heap.objs.size, rawInt 0, .none, .none] }) (s.heap.objs.size + 1) s.heap.objs.size 0 .none := by
    have := Heap.get?_push_size (s.heap.push o) (o := { cls := .type "enumerate", data := .fields #[.none, .bool false, .ref s.heap.objs.size, rawInt 0, .none, .none] }) rfl
    rw [hz] at this; exact this
  refine ⟨⟨_, he, rfl⟩, h _ he (Heap.get?_push_of_some _ (Heap.get?_push_size _ B.free)) (by rw [Heap.size_push, hz]) fun b o x => Heap.get?_push_of_some _ (Heap.get?_push_of_some _ x)⟩
theorem pi_enumX {X : Cx} {e : Expr} {ta : TA} {p pos tpos : Pos} {elts : List Expr} {kk : Nat} (hg : Gl X "enumerate") (hm : X.mg "enumerate" = none) (ha : PA X [e] ta) (hs : starEach [e] X.env = [(false, eval e X.env)] := by rfl) :
    PI X (.Tuple elts kk tpos) (.Call (.Name "enumerate" p) [e] [] pos) (fun σ H R => ta σ H fun vs H1 => ∃ a xs, vs = [.ref a] ∧ ((SqL X.K H1 a xs ∧ R (IteX (SqL X.K) a) H1) ∨ (SqT X.K H1 a xs ∧ R (IteX (SqT X.K) a) H1))) := by
  refine ⟨fun pins s σ H R I h => Call_ (ld_blt I hg hm boot_enumerate (PyProof.Rows.callWith_type1 (thn (ha.run pos pins s σ H _ I h) fun us s1 ⟨vs, H1, I1, r1, q1⟩ => ?_) hs rfl))⟩
  obtain ⟨a, xs, rfl, q1⟩ := q1
  obtain ⟨u, rfl, ru⟩ := vals1 r1
  cases ru
  have fr : ∀ k, FpOk X pins H1 (s1.heap.objs.size + k) := fun k => I1.fpOk (Nat.le_add_right _ _) (I1.hok.fresh (Nat.le_add_right _ _))
  have f2 : ∀ b ∈ [s1.heap.objs.size + 1, s1.heap.objs.size], FpOk X pins H1 b := List.forall_mem_cons.mpr ⟨fr 1, List.forall_mem_cons.mpr ⟨fr 0, fun _ h => nomatch h⟩⟩
  rcases q1 with ⟨hq, q⟩ | ⟨hq, q⟩
  · obtain ⟨its, rv, p', hz⟩ := I1.list hq
    have hlt := p'.lt
    exact call_enumerate_list p'.isList fun h' he hit hsz hk => wpAny_pyIter_enum he ⟨s1.heap.objs.size + 1, [s1.heap.objs.size + 1, s1.heap.objs.size], _, _, H1, rfl, I1.kept (t' := s1.toks) hk, turn_enumX (srcL X.K) a (s1.heap.objs.size + 1) s1.heap.objs.size, ⟨⟨.none, he⟩, hit, Nat.succ_ne_self _, Nat.ne_of_lt hlt, Nat.ne_of_gt (Nat.lt_succ_of_lt hlt)⟩, f2, q⟩
  · obtain ⟨its, rv, p', hz⟩ := I1.tuple hq
    have hlt := p'.lt
    exact call_enum_begins (begins_tuple a its.toArray) (show s1.heap.IsTuple a its.toArray from p') fun h' he hit hsz hk => wpAny_pyIter_enum he ⟨s1.heap.objs.size + 1, [s1.heap.objs.size + 1, s1.heap.objs.size], _, _, H1, rfl, I1.kept (t' := s1.toks) hk, turn_enumX (srcT X.K) a (s1.heap.objs.size + 1) s1.heap.objs.size, ⟨⟨.none, he⟩, ⟨_, hit, rfl, rfl⟩, Nat.succ_ne_self _, Nat.ne_of_lt hlt, Nat.ne_of_gt (Nat.lt_succ_of_lt hlt)⟩, f2, q⟩
theorem pi_seq {X : Cx} {tg l : Expr} {tl : TE} (hl : PE X l tl) : PI X tg l (fun σ H R => tl σ H fun x H1 => (∃ a xs, x = .ref a ∧ ((SqL X.K H1 a xs ∧ R (Itl X.K a) H1) ∨ (SqT X.K H1 a xs ∧ R (Itt X.K a) H1))) ∨ ∃ z, x = .str z ∧ R (Its z) H1) := by
  refine ⟨fun pins s σ H R I h => ?_⟩
  have h1 : ∀ {t : TE}, (∀ σ H Q, t σ H Q → tl σ H Q) → PE X l t := fun i => PE_imp hl i
  refine thn (hl.run pins s σ H _ I h) fun v s1 ⟨x, H1, I1, r1, q1⟩ => ?_
  rcases q1 with ⟨a, xs, e, q⟩ | ⟨z, e, q⟩
  · subst e
    cases r1
    rcases q with ⟨hq, q⟩ | ⟨hq, q⟩
    · obtain ⟨its, rv, p, hz⟩ := I1.list hq
      refine wpAny_pyIter_list p.isList ?_
      refine ⟨s1.heap.objs.size, [s1.heap.objs.size], _, _, H1, rfl, I1.kept (t' := s1.toks) fun b o e => Heap.get?_push_of_some _ e, turn_list a _, ⟨_, Heap.get?_push_size _ rfl, rfl, rfl⟩, fun b hb => ?_, q⟩
      have e : b = s1.heap.objs.size := by simpa using hb
      subst e
      exact I1.fpOk (Nat.le_refl _) (I1.hok.fresh (Nat.le_refl _))
    · obtain ⟨its, rv, p, hz⟩ := I1.tuple hq
      refine wpAny_pyIter_tuple (show s1.heap.IsTuple a its.toArray from p) ?_
      refine ⟨s1.heap.objs.size, [s1.heap.objs.size], _, _, H1, rfl, I1.kept (t' := s1.toks) fun b o e => Heap.get?_push_of_some _ e, turn_tuple a _, ⟨_, Heap.get?_push_size _ rfl, rfl, rfl⟩, fun b hb => ?_, q⟩
      have e : b = s1.heap.objs.size := by simpa using hb
      subst e
      exact I1.fpOk (Nat.le_refl _) (I1.hok.fresh (Nat.le_refl _))
  · subst e
    obtain ⟨t, rfl⟩ := r1
    cases ha : z.cps.all (· < 128)
    · exact wpAny_pyIter_wide ha (pi_one (tk := s1.toks) I1 _ (turn_str _ z t "str_iterator" (.inr rfl)) ⟨_, Heap.get?_push_size _ rfl, rfl, rfl⟩ q)
    · exact wpAny_pyIter_ascii ha (pi_one (tk := s1.toks) I1 _ (turn_str _ z t "str_ascii_iterator" (.inl rfl)) ⟨_, Heap.get?_push_size _ rfl, rfl, rfl⟩ q)
end DL
namespace DL
open PySem PySem.Spec PyProof.Rows L2
variable [Bs]
/-- a cell's list as a list -/
def rd (st : Sto) : D → D
  | .ref n => match st[n]? with
    | some (.lst ds) => .lst ds
    | _ => .ref n
  | d => d
section
variable {K : PySem.W.Frag} {io : List Addr} {F H : Hp} {st : Sto} {v : V} {d : D} {ds : List D}
/-- what stands behind a value read as a list -/
theorem rd_lst (R : RelH K H io F st) (n : Den K io F v d) (e : rd st d = .lst ds) : ∃ a xs, v = .ref a ∧ H a = some (.lst xs) ∧ DenL K io F xs ds ∧ ds.length ≤ sizeLine := by
  cases d with
  | lst es =>
    cases e
    cases n with
    | lst h r z => exact ⟨_, _, rfl, R.sub _ _ h, r, z⟩
  | ref k =>
    cases n with
    | ref h =>
      unfold rd at e
      cases q : st[k]? with
      | none => simp [q] at e
      | some c =>
        cases c with
        | lst es =>
          simp [q] at e
          subst e
          obtain ⟨h1, h2, vs, h3, h4⟩ := R.cel _ _ _ q h
          exact ⟨_, _, rfl, h3, h4, h2⟩
        | dead => simp [q] at e
        | ins C fs => simp [q] at e
        | dct b kvs => simp [q] at e
  | non => cases e
  | bl b => cases e
  | int i => cases e
  | str s => cases e
  | tup es => cases e
  | scr es => cases e
  | dct es => cases e
  | fn _ _ _ => cases e
  | exc => cases e
theorem rd_not (e : ∀ ds, rd st d ≠ .lst ds) (e2 : ∀ n, rd st d ≠ .ref n) : rd st d = d := by
  cases d with
  | ref n =>
    unfold rd at e e2 ⊢
    cases q : st[n]? with
    | none => simp [q] at e2
    | some c => cases c <;> simp [q] at e e2
  | _ => rfl
end
/-- what may be walked: with what must stay -/
def seqI (d : D) (s : Sto) (R : GK) : Prop :=
  match d with
  | .tup ds => R ds (fun _ => True) s
  | .lst ds => R ds (fun _ => True) s
  | .scr ds => R ds (fun _ => True) s
  | .str z => R (z.cps.toList.map fun c => .str ⟨#[c]⟩) (fun _ => True) s
  | .ref n => ∃ ds, s[n]? = some (.lst ds) ∧ R ds (fun s' => s'[n]? = some (.lst ds)) s
  | _ => False
theorem seqI_mo {d : D} {s : Sto} {R R' : GK} (h : ∀ ds G s, R ds G s → R' ds G s) (q : seqI d s R) : seqI d s R' := by
  cases d with
  | ref n => obtain ⟨ds, e, q⟩ := q; exact ⟨ds, e, h _ _ _ q⟩
  | tup _ => exact h _ _ _ q
  | lst _ => exact h _ _ _ q
  | scr _ => exact h _ _ _ q
  | str _ => exact h _ _ _ q
  | non => exact q
  | bl _ => exact q
  | int _ => exact q
  | dct _ => exact q
  | fn _ _ _ => exact q
  | exc => exact q
def iSeq (we : DE) : DI := fun env st R => we env st fun d s => seqI d s R
section
variable {K : PySem.W.Frag} {io : List Addr} {F H : Hp} {a : Addr} {xs : List V} {ds : List D}
theorem walkD_list {G : Sto → Prop} (r : DenL K io F xs ds) (h : ∀ {H2 io2 F2 st2}, Stp H io F H2 io2 F2 → RelH K H2 io2 F2 st2 → G st2 → ∃ ys, SqL K H2 a ys ∧ DenL K io2 F2 ys ds) : WalkD K (Itl K a) H io F ds G where
  go := fun i t R g hi => by
    obtain ⟨ys, s, r2⟩ := h t R g
    obtain ⟨v, e, _⟩ := r2.get (List.getElem?_eq_getElem hi)
    exact ⟨ys, v, s, e⟩
  stop := fun t R g => by
    obtain ⟨ys, s, r2⟩ := h t R g
    exact ⟨ys, s, Nat.le_of_eq r2.length⟩
  yld := fun {H2 io2 F2 st2} i x H3 t R g hi y => by
    obtain ⟨ys, s, r2⟩ := h t R g
    obtain ⟨v, e, n⟩ := r2.get (List.getElem?_eq_getElem hi)
    obtain ⟨e1, e2⟩ := y
    subst e1
    have := e2 ys s
    rw [e] at this
    cases this
    exact ⟨F2, _, Stp.refl, R, List.getElem?_eq_getElem hi, n⟩
theorem walkD_tup (s0 : SqT K F a xs) (r : DenL K io F xs ds) : WalkD K (Itt K a) H io F ds (fun _ => True) where
  go := fun i t R _ hi => by
    obtain ⟨v, e, _⟩ := (t.denL r).get (List.getElem?_eq_getElem hi)
    exact ⟨xs, v, SqT_mono R.sub (SqT_mono t.fr s0), e⟩
  stop := fun t R _ => ⟨xs, SqT_mono R.sub (SqT_mono t.fr s0), Nat.le_of_eq r.length⟩
  yld := fun {H2 io2 F2 st2} i x H3 t R _ hi y => by
    obtain ⟨v, e, n⟩ := (t.denL r).get (List.getElem?_eq_getElem hi)
    obtain ⟨e1, e2⟩ := y
    subst e1
    have := e2 xs (SqT_mono R.sub (SqT_mono t.fr s0))
    rw [e] at this
    cases this
    exact ⟨F2, _, Stp.refl, R, List.getElem?_eq_getElem hi, n⟩
theorem walkD_str {z : Str} : WalkD K (Its z) H io F (z.cps.toList.map fun c => .str ⟨#[c]⟩) (fun _ => True) where
  go := fun i t R _ hi => by
    have : i < z.cps.size := by simpa using hi
    exact this
  stop := fun t R _ => by
    have e : (z.cps.toList.map fun c => D.str ⟨#[c]⟩).length = z.cps.size := by simp
    rw [e]
    exact (walk_str (z := z)).stops _ trivial
  yld := fun {H2 io2 F2 st2} i x H3 t R _ hi y => by
    have hi' : i < z.cps.size := by simpa using hi
    obtain ⟨e1, c, e2, e3⟩ := (walk_str (z := z)).yields i H2 x H3 hi' trivial y
    subst e1
    subst e3
    refine ⟨F2, .str ⟨#[c]⟩, Stp.refl, R, ?_, .str _⟩
    simp [e2]
end
section
variable {X : Cx} {pos p : Pos} {tg e e2 : Expr} {we we2 : DE}
theorem wi_seq (he : WE X e we) : WI X tg e (iSeq we) := by
  refine ⟨fun _ _ _ _ h q => he.mo _ _ _ _ (fun _ _ q => seqI_mo h q) q, PI_imp (pi_seq he.pe) fun σ H R ⟨env, io, F, st, Rl, q⟩ => ?_⟩
  refine tE_use he.mo Rl q fun d s1 v io1 F1 H1 q1 t1 R1 n1 => ?_
  cases n1 with
  | tup s r z => exact .inl ⟨_, _, rfl, .inr ⟨SqT_mono R1.sub s.t, q1 _ _ _ _ t1 R1.toRelH (walkD_tup s.t r)⟩⟩
  | lst s r z => exact .inl ⟨_, _, rfl, .inl ⟨SqL.of (R1.sub _ _ s), q1 _ _ _ _ t1 R1.toRelH (walkD_list r fun t R _ => ⟨_, SqL.of (R.sub _ _ (t.fr _ _ s)), t.denL r⟩)⟩⟩
  | scr s r z => exact .inl ⟨_, _, rfl, .inl ⟨SqL_mono R1.sub s, q1 _ _ _ _ t1 R1.toRelH (walkD_list r fun t R _ => ⟨_, SqL_mono R.sub (SqL_mono t.fr s), t.denL r⟩)⟩⟩
  | @ref a n h =>
    obtain ⟨ds, e, q1⟩ := q1
    obtain ⟨h1, h2, vs, h3, h4⟩ := R1.cel _ _ _ e h
    refine .inl ⟨_, vs, rfl, .inl ⟨SqL.of h3, q1 _ _ _ _ t1 R1.toRelH (walkD_list h4 fun t R g => ?_)⟩⟩
    obtain ⟨_, _, ws, h5, h6⟩ := R.cel _ _ _ g (t.ix _ _ h)
    exact ⟨ws, SqL.of h5, h6⟩
  | str z => exact .inr ⟨_, rfl, q1 _ _ _ _ t1 R1.toRelH walkD_str⟩
  | non => exact q1.elim
  | bl _ => exact q1.elim
  | int _ => exact q1.elim
  | dct _ => exact q1.elim
  | fn _ _ => exact q1.elim
  | exc => exact q1.elim
def rangeD (lo : Int) (n : Nat) : List D := (List.range n).map fun (i : Nat) => .int (lo + i)
theorem walkD_range {K : PySem.W.Frag} {io : List Addr} {F H : Hp} {lo : Int} {n : Nat} : WalkD K (Itr lo n) H io F (rangeD lo n) (fun _ => True) where
  go := fun i t R _ hi => by show i < n; simpa [rangeD] using hi
  stop := fun t R _ => by show n ≤ (rangeD lo n).length; simp [rangeD]
  yld := fun {H2 io2 F2 st2} i x H3 t R _ hi y => by
    obtain ⟨e1, e2⟩ := y
    subst e1
    subst e2
    have hi' : i < n := by simpa [rangeD] using hi
    exact ⟨F2, .int (lo + i), Stp.refl, R, by simp [rangeD, hi'], .int _⟩
def iRange1 (wa : DA) : DI := fun env st R => wa env st fun ds s => ∃ j, ds = [.int j] ∧ -(2 ^ 62) ≤ j ∧ j < 2 ^ 62 ∧ R (rangeD 0 j.toNat) (fun _ => True) s
def iRange2 (wa : DA) : DI := fun env st R => wa env st fun ds s => ∃ i j, ds = [.int i, .int j] ∧ (-(2 ^ 62) ≤ i ∧ i < 2 ^ 62 ∧ -(2 ^ 62) ≤ j ∧ j < 2 ^ 62) ∧ R (rangeD i (j - i).toNat) (fun _ => True) s
theorem wi_range1 {wa : DA} (hg : Gl X "range") (hm : X.mg "range" = none) (ha : WA X [e] wa) (hs : starEach [e] X.env = [(false, eval e X.env)] := by rfl) : WI X tg (.Call (.Name "range" p) [e] [] pos) (iRange1 wa) := by
  refine ⟨fun _ _ _ _ h q => ha.mo _ _ _ _ (fun _ _ ⟨j, e, h1, h2, q⟩ => ⟨j, e, h1, h2, h _ _ _ q⟩) q, PI_imp (pi_range1 hg hm ha.pe hs) fun σ H R ⟨env, io, F, st, Rl, q⟩ => ?_⟩
  refine tA_use ha.mo Rl q fun ds s1 vs io1 F1 H1 ⟨j, ed, h1, h2, q1⟩ t1 R1 n1 => ?_
  subst ed
  cases n1 with
  | cons n1 n2 =>
    cases n1
    cases n2
    exact ⟨j, rfl, h1, h2, q1 _ _ _ _ t1 R1.toRelH walkD_range⟩
theorem wi_range2 {wa : DA} (hg : Gl X "range") (hm : X.mg "range" = none) (ha : WA X [e, e2] wa) (hs : starEach [e, e2] X.env = [(false, eval e X.env), (false, eval e2 X.env)] := by rfl) (hs2 : starEach [e2] X.env = [(false, eval e2 X.env)] := by rfl) :
    WI X tg (.Call (.Name "range" p) [e, e2] [] pos) (iRange2 wa) := by
  refine ⟨fun _ _ _ _ h q => ha.mo _ _ _ _ (fun _ _ ⟨i, j, e, h1, q⟩ => ⟨i, j, e, h1, h _ _ _ q⟩) q, PI_imp (pi_range2 hg hm ha.pe hs hs2) fun σ H R ⟨env, io, F, st, Rl, q⟩ => ?_⟩
  refine tA_use ha.mo Rl q fun ds s1 vs io1 F1 H1 ⟨i, j, ed, h1, q1⟩ t1 R1 n1 => ?_
  subst ed
  cases n1 with
  | cons n1 n2 =>
    cases n1
    cases n2 with
    | cons n2 n3 =>
      cases n2
      cases n3
      exact ⟨i, j, rfl, h1, q1 _ _ _ _ t1 R1.toRelH walkD_range⟩
def enumD (ds : List D) : List D := ds.zipIdx.map fun p => .tup [.int (p.2 : Nat), p.1]
def zipD (ds es : List D) : List D := List.zipWith (fun x y => .tup [x, y]) ds es
theorem lay_pair {K : PySem.W.Frag} {io : List Addr} {F H : Hp} {st : Sto} {T : Addr} {o : Obj} {x y : V} {d e : D} (R : RelH K H io F st) (hT : H T = none) (ho : o.dict = none) (n1 : Den K io F x d) (n2 : Den K io F y e) :
    ∃ F3, Stp H io F (upd H T (.frz o (.tup [x, y]))) io F3 ∧ RelH K (upd H T (.frz o (.tup [x, y]))) io F3 st ∧ Den K io F3 (.ref T) (.tup [d, e]) :=
  ⟨upd F T (.frz o (.tup [x, y])), Stp.laid hT R.sub, R.laid hT, .tup (.inl ⟨o, upd_same, ho⟩) ((Stp.laid hT R.sub).denL (.cons n1 (.cons n2 .nil))) (by show 2 ≤ sizeLine; decide)⟩
theorem enumD_len (ds : List D) : (enumD ds).length = ds.length := by simp [enumD]
theorem enumD_at (ds : List D) (i : Nat) (hi : i < ds.length) : (enumD ds)[i]? = some (.tup [.int (i : Nat), ds[i]]) := by simp [enumD, hi]
section
variable {K : PySem.W.Frag} {io : List Addr} {F H : Hp} {a : Addr} {xs : List V} {ds : List D}
theorem walkD_enumL {G : Sto → Prop} (r : DenL K io F xs ds) (h : ∀ {H2 io2 F2 st2}, Stp H io F H2 io2 F2 → RelH K H2 io2 F2 st2 → G st2 → ∃ ys, SqL K H2 a ys ∧ DenL K io2 F2 ys ds) : WalkD K (IteX (SqL K) a) H io F (enumD ds) G where
  go := fun i t R g hi => by
    rw [enumD_len] at hi
    obtain ⟨ys, s, r2⟩ := h t R g
    obtain ⟨v, e, _⟩ := r2.get (List.getElem?_eq_getElem hi)
    exact ⟨ys, v, s, e⟩
  stop := fun t R g => by
    rw [enumD_len]
    obtain ⟨ys, s, r2⟩ := h t R g
    exact ⟨ys, s, r2.length⟩
  yld := fun {H2 io2 F2 st2} i x H3 t R g hi y => by
    rw [enumD_len] at hi
    obtain ⟨ys, s, r2⟩ := h t R g
    obtain ⟨v, e, n⟩ := r2.get (List.getElem?_eq_getElem hi)
    obtain ⟨T, u, o, e1, hT, ho, e2, hu⟩ := y
    subst e1
    subst e2
    have := hu ys s
    rw [e] at this
    cases this
    obtain ⟨F3, s3, R3, n3⟩ := lay_pair R hT ho (.int (i : Nat)) n
    exact ⟨F3, _, s3, R3, enumD_at ds i hi, n3⟩
theorem walkD_enumT (s0 : SqT K F a xs) (r : DenL K io F xs ds) : WalkD K (IteX (SqT K) a) H io F (enumD ds) (fun _ => True) where
  go := fun i t R _ hi => by
    rw [enumD_len] at hi
    obtain ⟨v, e, _⟩ := (t.denL r).get (List.getElem?_eq_getElem hi)
    exact ⟨xs, v, SqT_mono R.sub (SqT_mono t.fr s0), e⟩
  stop := fun t R _ => by rw [enumD_len]; exact ⟨xs, SqT_mono R.sub (SqT_mono t.fr s0), r.length⟩
  yld := fun {H2 io2 F2 st2} i x H3 t R _ hi y => by
    rw [enumD_len] at hi
    obtain ⟨v, e, n⟩ := (t.denL r).get (List.getElem?_eq_getElem hi)
    obtain ⟨T, u, o, e1, hT, ho, e2, hu⟩ := y
    subst e1
    subst e2
    have := hu xs (SqT_mono R.sub (SqT_mono t.fr s0))
    rw [e] at this
    cases this
    obtain ⟨F3, s3, R3, n3⟩ := lay_pair R hT ho (.int (i : Nat)) n
    exact ⟨F3, _, s3, R3, enumD_at ds i hi, n3⟩
end
/-- a sequence, no text -/
def seqJ (d : D) (s : Sto) (R : GK) : Prop :=
  match d with
  | .str _ => False
  | d => seqI d s R
theorem seqJ_mo {d : D} {s : Sto} {R R' : GK} (h : ∀ ds G s, R ds G s → R' ds G s) (q : seqJ d s R) : seqJ d s R' := by
  cases d with
  | str _ => exact q
  | ref n => exact seqI_mo (d := .ref n) h q
  | tup _ => exact h _ _ _ q
  | lst _ => exact h _ _ _ q
  | scr _ => exact h _ _ _ q
  | non => exact q
  | bl _ => exact q
  | int _ => exact q
  | dct _ => exact q
  | fn _ _ _ => exact q
  | exc => exact q
def iEnum (we : DE) : DI := fun env st R => we env st fun d s => seqJ d s fun ds G s => R (enumD ds) G s
theorem wi_enum {elts : List Expr} {kk : Nat} {tpos : Pos} (hg : Gl X "enumerate") (hm : X.mg "enumerate" = none) (he : WE X e we) (ha : starEach [e] X.env = (false, eval e X.env) :: starEach [] X.env := by rfl) (hs : starEach [e] X.env = [(false, eval e X.env)] := by rfl) :
    WI X (.Tuple elts kk tpos) (.Call (.Name "enumerate" p) [e] [] pos) (iEnum we) := by
  refine ⟨fun _ _ _ _ h q => he.mo _ _ _ _ (fun _ _ q => seqJ_mo (fun _ _ _ q => h _ _ _ q) q) q, PI_imp (pi_enumX hg hm (pa_cons he.pe pa_nil ha) hs) fun σ H R ⟨env, io, F, st, Rl, q⟩ => ?_⟩
  refine tE_use he.mo Rl q fun d s1 v io1 F1 H1 q1 t1 R1 n1 => ?_
  cases n1 with
  | tup s r z => exact ⟨_, _, rfl, .inr ⟨SqT_mono R1.sub s.t, q1 _ _ _ _ t1 R1.toRelH (walkD_enumT s.t r)⟩⟩
  | lst s r z => exact ⟨_, _, rfl, .inl ⟨SqL.of (R1.sub _ _ s), q1 _ _ _ _ t1 R1.toRelH (walkD_enumL r fun t R _ => ⟨_, SqL.of (R.sub _ _ (t.fr _ _ s)), t.denL r⟩)⟩⟩
  | scr s r z => exact ⟨_, _, rfl, .inl ⟨SqL_mono R1.sub s, q1 _ _ _ _ t1 R1.toRelH (walkD_enumL r fun t R _ => ⟨_, SqL_mono R.sub (SqL_mono t.fr s), t.denL r⟩)⟩⟩
  | @ref a n h =>
    obtain ⟨ds, e, q1⟩ := q1
    obtain ⟨h1, h2, vs, h3, h4⟩ := R1.cel _ _ _ e h
    refine ⟨_, vs, rfl, .inl ⟨SqL.of h3, q1 _ _ _ _ t1 R1.toRelH (walkD_enumL h4 fun t R g => ?_)⟩⟩
    obtain ⟨_, _, ws, h5, h6⟩ := R.cel _ _ _ g (t.ix _ _ h)
    exact ⟨ws, SqL.of h5, h6⟩
  | str z => exact q1.elim
  | non => exact q1.elim
  | bl _ => exact q1.elim
  | int _ => exact q1.elim
  | dct _ => exact q1.elim
  | fn => exact q1.elim
  | exc => exact q1.elim
end
end DL
namespace DL
open PySem PySem.Spec PyProof.Rows L2
variable [Bs]
section
variable {st : Sto} {d : D}
theorem rd_is {e : D} (h : rd st d = e) (h1 : ∀ ds, e ≠ .lst ds) (h2 : ∀ n, e ≠ .ref n) : d = e := by
  subst h
  exact (rd_not (fun ds q => h1 ds q) (fun n q => h2 n q)).symm
theorem rd_int {i : Int} (h : rd st d = .int i) : d = .int i := rd_is h (fun _ q => nomatch q) (fun _ q => nomatch q)
theorem rd_bl {i : Bool} (h : rd st d = .bl i) : d = .bl i := rd_is h (fun _ q => nomatch q) (fun _ q => nomatch q)
theorem rd_str {i : Str} (h : rd st d = .str i) : d = .str i := rd_is h (fun _ q => nomatch q) (fun _ q => nomatch q)
theorem rd_tup {i : List D} (h : rd st d = .tup i) : d = .tup i := rd_is h (fun _ q => nomatch q) (fun _ q => nomatch q)
theorem rd_scr {i : List D} (h : rd st d = .scr i) : d = .scr i := rd_is h (fun _ q => nomatch q) (fun _ q => nomatch q)
theorem rd_non (h : rd st d = .non) : d = .non := rd_is h (fun _ q => nomatch q) (fun _ q => nomatch q)
end
def dI (C : Int → Int → Prop) (g : Int → Int → D) : R2D := fun a b st Q => ∃ i j, a = .int i ∧ b = .int j ∧ C i j ∧ Q (g i j) st
theorem moI {C : Int → Int → Prop} {g : Int → Int → D} : MoR (dI C g) := fun _ _ _ _ _ h ⟨i, j, e1, e2, c, q⟩ => ⟨i, j, e1, e2, c, h _ _ q⟩
section
variable {K : PySem.W.Frag} {H : Hp} {io : List Addr} {F : Hp} {st : Sto} {Q : VK} {x y : V} {a b : D}
theorem kE_now {d : D} {v : V} (R : RelH K H io F st) (n : Den K io F v d) (q : kE K H io F Q d st) : Q v H := q v io F H Stp.refl R n
theorem z_I {C : Int → Int → Prop} {g : Int → Int → V} {g' : Int → Int → D} (hg : ∀ i j io F, Den K io F (g i j) (g' i j)) : Rz K (rI C g) (dI C g') where
  mo := moI
  on := fun R n1 n2 ⟨i, j, e1, e2, c, q⟩ => by
    subst e1 e2
    cases n1
    cases n2
    exact ⟨i, j, rfl, rfl, c, kE_now R (hg _ _ _ _) q⟩
theorem z_I0 {g : Int → Int → V} {g' : Int → Int → D} (hg : ∀ i j io F, Den K io F (g i j) (g' i j)) : Rz K (rI0 g) (dI (fun _ _ => True) g') where
  mo := moI
  on := fun R n1 n2 ⟨i, j, e1, e2, c, q⟩ => by
    subst e1 e2
    cases n1
    cases n2
    exact ⟨i, j, rfl, rfl, kE_now R (hg _ _ _ _) q⟩
end
section
variable {X : Cx}
abbrev T2 : Int → Int → Prop := fun _ _ => True
def dSub : R2D := dI T2 fun i j => .int (i - j)
def dMod : R2D := dI (fun _ j => 0 < j) fun i j => .int (i % j)
def CDv : Int → Int → Prop := fun _ j => 0 < j ∧ j < 2 ^ 62
def dFdiv : R2D := dI CDv fun i j => .int (i / j)
def dPow : R2D := dI CPow fun i j => .int (i ^ j.toNat)
theorem z_sub : Rz X.K (rI0 fun i j => .int (i - j)) dSub := z_I0 fun _ _ _ _ => .int _
theorem z_mod : Rz X.K (rI (fun _ j => 0 < j) fun i j => .int (i % j)) dMod := z_I fun _ _ _ _ => .int _
theorem z_pow : Rz X.K (rI CPow fun i j => .int (i ^ j.toNat)) dPow := z_I fun _ _ _ _ => .int _
theorem cdv {i j : Int} (h : CDv i j) : CDivW i j := by
  refine ⟨h.1, ?_⟩
  have h2 : j.natAbs < 2 ^ 62 := by have := h.2; have := h.1; omega
  have : j.natAbs.log2 < 62 := by
    rw [Nat.log2_lt (by have := h.1; omega)]
    exact h2
  omega
theorem z_fdiv : Rz X.K (rI CDivW fun i j => .int (i / j)) dFdiv where
  mo := moI
  on := fun R n1 n2 ⟨i, j, e1, e2, c, q⟩ => by
    subst e1 e2
    cases n1
    cases n2
    exact ⟨i, j, rfl, rfl, cdv c, kE_now R (.int _) q⟩
end
def dAdd : R2D := fun a b st Q => match rd st a, rd st b with
  | .int i, .int j => Q (.int (i + j)) st
  | .tup x, .tup y => x.length + y.length ≤ sizeLine ∧ Q (.tup (x ++ y)) st
  | .lst x, .lst y => x.length + y.length ≤ sizeLine ∧ Q (.lst (x ++ y)) st
  | .str x, .str y => x.length + y.length ≤ sizeLine ∧ Q (.str (x ++ y)) st
  | _, _ => False
def rAddD (K : PySem.W.Frag) : R2 := fun x y H Q => rI0 (fun i j => .int (i + j)) x y H Q ∨ rCatX K x y H Q ∨ rCat x y H Q ∨ (∃ i j, x = .str i ∧ y = .str j ∧ i.length + j.length ≤ sizeLine ∧ Q (.str (i ++ j)) H)
theorem op_addD {X : Cx} : OpR X (binaryOp .Add) (rAddD X.K) := op_add.or (op_catX.or (op_cat.or op_add_str))
theorem z_add {X : Cx} : Rz X.K (rAddD X.K) dAdd where
  mo := fun a b s Q Q' h q => by
    unfold dAdd at q ⊢
    split at q
    · exact h _ _ q
    · exact ⟨q.1, h _ _ q.2⟩
    · exact ⟨q.1, h _ _ q.2⟩
    · exact ⟨q.1, h _ _ q.2⟩
    · exact q
  on := fun {H io F st x y a b Q} R n1 n2 q => by
    unfold dAdd at q
    split at q
    · rename_i i j e1 e2
      cases rd_int e1
      cases rd_int e2
      cases n1
      cases n2
      exact .inl ⟨i, j, rfl, rfl, kE_now R (.int _) q⟩
    · rename_i i j e1 e2
      cases rd_tup e1
      cases rd_tup e2
      cases n1 with
      | tup s1 r1 z1 =>
        cases n2 with
        | tup s2 r2 z2 =>
          refine .inr (.inl ⟨_, _, _, _, rfl, rfl, SqT_mono R.sub s1.t, SqT_mono R.sub s2.t, by rw [r1.length, r2.length]; exact q.1, fun e => ?_, fun h1 e => ?_, fun _ _ => ?_⟩)
          · subst e
            cases r1
            exact kE_now R (.tup s2 r2 z2) q.2
          · subst e
            cases r2
            rw [List.append_nil] at q
            exact kE_now R (.tup s1 r1 z1) q.2
          · exact lay_tup R (r1.append r2) (by rw [List.length_append]; exact q.1) q.2
    · rename_i i j e1 e2
      obtain ⟨p1, xs, rfl, h1, r1, z1⟩ := rd_lst R n1 e1
      obtain ⟨p2, ys, rfl, h2, r2, z2⟩ := rd_lst R n2 e2
      exact .inr (.inr (.inl ⟨_, _, _, _, rfl, rfl, h1, h2, by rw [r1.length, r2.length]; exact q.1, lay_lst R (r1.append r2) (by rw [List.length_append]; exact q.1) q.2⟩))
    · rename_i i j e1 e2
      cases rd_str e1
      cases rd_str e2
      cases n1
      cases n2
      exact .inr (.inr (.inr ⟨i, j, rfl, rfl, q.1, kE_now R (.str _) q.2⟩))
    · exact q.elim
def kPy : Key → PyData
  | .inl i => .int i
  | .inr x => .str x
mutual
def D.py : D → PyData
  | .non => .none
  | .bl b => .bool b
  | .int i => .int i
  | .str s => .str s
  | .tup ds => .tuple (D.pyL ds)
  | .lst ds => .list (D.pyL ds)
  | .scr ds => .list (D.pyL ds)
  | .dct kvs => .dict (kvs.map fun p => (kPy p.1, kPy p.2))
  | .ref _ => .none
  | .fn _ _ _ => .none
  | .exc _ _ _ => .none
def D.pyL : List D → List PyData
  | [] => []
  | d :: r => d.py :: D.pyL r
end
mutual
/-- may be compared: no dict, no cell within, texts of right signs -/
def D.ok : D → Bool
  | .non => true
  | .bl _ => true
  | .int _ => true
  | .str s => PyData.canLay0 (.str s)
  | .tup ds => D.okL ds
  | .lst ds => D.okL ds
  | .scr _ => false
  | .dct _ => false
  | .ref _ => false
  | .fn _ _ _ => false
  | .exc _ _ _ => false
def D.okL : List D → Bool
  | [] => true
  | d :: r => d.ok && D.okL r
end
mutual
def D.dep : D → Nat
  | .tup ds => D.depL ds + 1
  | .lst ds => D.depL ds + 1
  | .scr ds => D.depL ds + 1
  | .non => 0
  | .bl _ => 0
  | .int _ => 0
  | .str _ => 0
  | .dct kvs => (PyData.dict (kvs.map fun p => (kPy p.1, kPy p.2))).depth
  | .ref _ => 0
  | .fn _ _ _ => 0
  | .exc _ _ _ => 0
def D.depL : List D → Nat
  | [] => 0
  | d :: r => max d.dep (D.depL r)
end
mutual
/-- Python's == -/
def D.eqv : D → D → Bool
  | .non, .non => true
  | .bl a, .bl b => a == b
  | .bl a, .int j => (if a then 1 else 0) == j
  | .int i, .bl b => i == (if b then 1 else 0)
  | .int i, .int j => i == j
  | .str x, .str y => x == y
  | .tup xs, .tup ys => D.eqvL xs ys
  | .lst xs, .lst ys => D.eqvL xs ys
  | _, _ => false
def D.eqvL : List D → List D → Bool
  | [], [] => true
  | x :: xs, y :: ys => D.eqv x y && D.eqvL xs ys
  | _, _ => false
end
mutual
theorem py_ok : ∀ d : D, d.ok = true → d.py.canLay0 = true
  | .non, _ => rfl
  | .bl _, _ => rfl
  | .int _, _ => rfl
  | .str s, h => h
  | .tup ds, h => by simp only [D.py, PyData.canLay0]; exact pyL_ok ds (by simpa only [D.ok] using h)
  | .lst ds, h => by simp only [D.py, PyData.canLay0]; exact pyL_ok ds (by simpa only [D.ok] using h)
  | .scr _, h => by simp [D.ok] at h
  | .dct _, h => by simp [D.ok] at h
  | .ref _, h => by simp [D.ok] at h
theorem pyL_ok : ∀ ds : List D, D.okL ds = true → PyData.canLayAll0 (D.pyL ds) = true
  | [], _ => rfl
  | d :: r, h => by
    simp only [D.okL, Bool.and_eq_true] at h
    simp only [D.pyL, PyData.canLayAll0, Bool.and_eq_true]
    exact ⟨py_ok d h.1, pyL_ok r h.2⟩
end
mutual
theorem py_dep : ∀ d : D, d.py.depth = d.dep
  | .non => rfl
  | .bl _ => rfl
  | .int _ => rfl
  | .str _ => rfl
  | .dct _ => rfl
  | .ref _ => rfl
  | .fn _ _ _ => rfl
  | .exc _ _ _ => rfl
  | .tup ds => by simp only [D.py, PyData.depth, D.dep]; rw [pyL_dep ds]
  | .lst ds => by simp only [D.py, PyData.depth, D.dep]; rw [pyL_dep ds]
  | .scr ds => by simp only [D.py, PyData.depth, D.dep]; rw [pyL_dep ds]
theorem pyL_dep : ∀ ds : List D, PyData.depthAll (D.pyL ds) = D.depL ds
  | [] => rfl
  | d :: r => by simp only [D.pyL, PyData.depthAll, D.depL]; rw [py_dep d, pyL_dep r]
end
mutual
theorem py_eqv : ∀ d e : D, d.ok = true → e.ok = true → PyData.eqv d.py e.py = D.eqv d e
  | .tup xs, .tup ys, h1, h2 => by
    simp only [D.py, PyData.eqv, D.eqv]
    exact pyL_eqv xs ys (by simpa only [D.ok] using h1) (by simpa only [D.ok] using h2)
  | .lst xs, .lst ys, h1, h2 => by
    simp only [D.py, PyData.eqv, D.eqv]
    exact pyL_eqv xs ys (by simpa only [D.ok] using h1) (by simpa only [D.ok] using h2)
  | .scr _, _, h, _ => by simp [D.ok] at h
  | _, .scr _, _, h => by simp [D.ok] at h
  | .dct _, _, h, _ => by simp [D.ok] at h
  | .ref _, _, h, _ => by simp [D.ok] at h
  | .fn _ _ _, _, h, _ => by simp [D.ok] at h
  | .exc _ _ _, _, h, _ => by simp [D.ok] at h
  | _, .dct _, _, h => by simp [D.ok] at h
  | _, .ref _, _, h => by simp [D.ok] at h
  | _, .fn _ _ _, _, h => by simp [D.ok] at h
  | _, .exc _ _ _, _, h => by simp [D.ok] at h
  | .non, .non, _, _ => rfl
  | .non, .bl _, _, _ => rfl
  | .non, .int _, _, _ => rfl
  | .non, .str _, _, _ => rfl
  | .non, .tup _, _, _ => by simp only [D.py, PyData.eqv, D.eqv]
  | .non, .lst _, _, _ => by simp only [D.py, PyData.eqv, D.eqv]
  | .bl _, .non, _, _ => rfl
  | .bl _, .bl _, _, _ => rfl
  | .bl _, .int _, _, _ => rfl
  | .bl _, .str _, _, _ => rfl
  | .bl _, .tup _, _, _ => by simp only [D.py, PyData.eqv, D.eqv]
  | .bl _, .lst _, _, _ => by simp only [D.py, PyData.eqv, D.eqv]
  | .int _, .non, _, _ => rfl
  | .int _, .bl _, _, _ => rfl
  | .int _, .int _, _, _ => rfl
  | .int _, .str _, _, _ => rfl
  | .int _, .tup _, _, _ => by simp only [D.py, PyData.eqv, D.eqv]
  | .int _, .lst _, _, _ => by simp only [D.py, PyData.eqv, D.eqv]
  | .str _, .non, _, _ => rfl
  | .str _, .bl _, _, _ => rfl
  | .str _, .int _, _, _ => rfl
  | .str _, .str _, _, _ => by simp only [D.py, PyData.eqv, D.eqv]
  | .str _, .tup _, _, _ => by simp only [D.py, PyData.eqv, D.eqv]
  | .str _, .lst _, _, _ => by simp only [D.py, PyData.eqv, D.eqv]
  | .tup _, .non, _, _ => by simp only [D.py, PyData.eqv, D.eqv]
  | .tup _, .bl _, _, _ => by simp only [D.py, PyData.eqv, D.eqv]
  | .tup _, .int _, _, _ => by simp only [D.py, PyData.eqv, D.eqv]
  | .tup _, .str _, _, _ => by simp only [D.py, PyData.eqv, D.eqv]
  | .tup _, .lst _, _, _ => by simp only [D.py, PyData.eqv, D.eqv]
  | .lst _, .non, _, _ => by simp only [D.py, PyData.eqv, D.eqv]
  | .lst _, .bl _, _, _ => by simp only [D.py, PyData.eqv, D.eqv]
  | .lst _, .int _, _, _ => by simp only [D.py, PyData.eqv, D.eqv]
  | .lst _, .str _, _, _ => by simp only [D.py, PyData.eqv, D.eqv]
  | .lst _, .tup _, _, _ => by simp only [D.py, PyData.eqv, D.eqv]
theorem pyL_eqv : ∀ ds es : List D, D.okL ds = true → D.okL es = true → PyData.eqvAll (D.pyL ds) (D.pyL es) = D.eqvL ds es
  | [], [], _, _ => by simp only [D.pyL, PyData.eqvAll, D.eqvL]
  | [], _ :: _, _, _ => by simp only [D.pyL, PyData.eqvAll, D.eqvL]
  | _ :: _, [], _, _ => by simp only [D.pyL, PyData.eqvAll, D.eqvL]
  | d :: r, e :: t, h1, h2 => by
    simp only [D.okL, Bool.and_eq_true] at h1 h2
    simp only [D.pyL, PyData.eqvAll, D.eqvL]
    rw [py_eqv d e h1.1 h2.1, pyL_eqv r t h1.2 h2.2]
end
end DL
namespace DL
open PySem PySem.Spec PyProof.Rows L2
variable [Bs]
section
variable {K : PySem.W.Frag} {io : List Addr} {F H : Hp} {st : Sto}
mutual
theorem den_dp (hs : ∀ a o, F a = some o → H a = some o) : ∀ {v : V} {d : D}, Den K io F v d → d.ok = true → Dp K H v d.py
  | _, _, .non, _ => by simp only [D.py]; exact .non
  | _, _, .bl b, _ => by simp only [D.py]; exact .bl b
  | _, _, .int i, _ => by simp only [D.py]; exact .int i
  | _, _, .str x, _ => by simp only [D.py]; exact .str x
  | _, _, .tup s r _, h => by simp only [D.py]; exact .tup (SqT_mono hs s.t) (den_dpL hs r (by simpa only [D.ok] using h))
  | _, _, .lst s r _, h => by simp only [D.py]; exact .lst (SqL.of (hs _ _ s)) (den_dpL hs r (by simpa only [D.ok] using h))
  | _, _, .scr s r _, h => by simp [D.ok] at h
  | _, _, .dct _, h => by simp [D.ok] at h
  | _, _, .ref _, h => by simp [D.ok] at h
  | _, _, .fn _ _, h => by simp [D.ok] at h
theorem den_dpL (hs : ∀ a o, F a = some o → H a = some o) : ∀ {vs : List V} {ds : List D}, DenL K io F vs ds → D.okL ds = true → DpAll K H vs (D.pyL ds)
  | _, _, .nil, _ => by simp only [D.pyL]; exact .nil
  | _, _, .cons a b, h => by
    simp only [D.okL, Bool.and_eq_true] at h
    simp only [D.pyL]
    exact .cons (den_dp hs a h.1) (den_dpL hs b h.2)
end
theorem rd_dp (R : RelH K H io F st) {v : V} {d : D} (n : Den K io F v d) (h : (rd st d).ok = true) : Dp K H v (rd st d).py := by
  cases e : rd st d with
  | lst ds =>
    obtain ⟨a, xs, rfl, h1, h2, h3⟩ := rd_lst R n e
    rw [e] at h
    simp only [D.py]
    exact .lst (SqL.of h1) (den_dpL R.sub h2 (by simpa only [D.ok] using h))
  | ref k => rw [e] at h; simp [D.ok] at h
  | non => cases rd_non e; exact den_dp R.sub n (by rw [e] at h; exact h)
  | bl b => cases rd_bl e; exact den_dp R.sub n (by rw [e] at h; exact h)
  | int i => cases rd_int e; exact den_dp R.sub n (by rw [e] at h; exact h)
  | str s => cases rd_str e; exact den_dp R.sub n (by rw [e] at h; exact h)
  | tup ds => cases rd_tup e; exact den_dp R.sub n (by rw [e] at h; exact h)
  | scr ds => rw [e] at h; simp [D.ok] at h
  | dct ds => rw [e] at h; simp [D.ok] at h
  | fn => rw [e] at h; simp [D.ok] at h
  | exc => rw [e] at h; simp [D.ok] at h
end
def dEqO (f : Bool → Bool) : R2D := fun a b st Q => (rd st a).ok = true ∧ (rd st b).ok = true ∧ min (rd st a).dep (rd st b).dep ≤ 60 ∧ Q (.bl (f ((rd st a).eqv (rd st b)))) st
/-- == : of two texts, or of two data -/
def dEqB (f : Bool → Bool) : R2D := fun a b st Q => (∃ x y, a = .str x ∧ b = .str y ∧ Q (.bl (f (x == y))) st) ∨ dEqO f a b st Q
abbrev dEq : R2D := dEqB fun b => b
abbrev dNe : R2D := dEqB fun b => !b
def rEqB (K : PySem.W.Frag) (f : Bool → Bool) : R2 := fun x y H Q => ∃ d e, Dp K H x d ∧ Dp K H y e ∧ d.canLay0 = true ∧ e.canLay0 = true ∧ min d.depth e.depth ≤ 60 ∧ Q (.bl (f (PyData.eqv d e))) H
theorem op_eqB {X : Cx} (hu : X.A.units + 64 < cLine) : OpR X (compareOp .Eq) (rEqB X.K fun b => b) := by
  intro pins s σ H x y v u Q I rx ry h
  obtain ⟨d, e, hd, he, sd, se, z, q⟩ := h
  obtain ⟨as, r1⟩ := Dp.reads I d x v hd rx
  obtain ⟨bs, r2⟩ := Dp.reads I e y u he ry
  exact SeqAt.compareEq_reads r1 r2 sd se (by omega) ⟨.bl _, H, I, rfl, q⟩
theorem op_neB {X : Cx} (hu : X.A.units + 64 < cLine) : OpR X (compareOp .NotEq) (rEqB X.K fun b => !b) := by
  intro pins s σ H x y v u Q I rx ry h
  obtain ⟨d, e, hd, he, sd, se, z, q⟩ := h
  obtain ⟨as, r1⟩ := Dp.reads I d x v hd rx
  obtain ⟨bs, r2⟩ := Dp.reads I e y u he ry
  exact SeqAt.compareNe_reads r1 r2 sd se (by omega) ⟨.bl _, H, I, rfl, q⟩
theorem z_eqO {K : PySem.W.Frag} {f : Bool → Bool} : Rz K (rEqB K f) (dEqO f) where
  mo := fun a b s Q Q' h ⟨h1, h2, h3, q⟩ => ⟨h1, h2, h3, h _ _ q⟩
  on := fun {H io F st x y a b Q} R n1 n2 ⟨h1, h2, h3, q⟩ => by
    refine ⟨_, _, rd_dp R n1 h1, rd_dp R n2 h2, py_ok _ h1, py_ok _ h2, by rw [py_dep, py_dep]; exact h3, ?_⟩
    rw [py_eqv _ _ h1 h2]
    exact kE_now R (.bl _) q
def rEqS (f : Bool → Bool) : R2 := fun x y H Q => scal x y = true ∧ Q (.bl (f (decide (x = y)))) H
theorem op_eqS {X : Cx} : OpR X (compareOp .Eq) (rEqS fun b => b) := op_eq
theorem op_neS {X : Cx} : OpR X (compareOp .NotEq) (rEqS fun b => !b) := op_ne
theorem op_eqC {X : Cx} (hu : X.A.units + 64 < cLine) : OpR X (compareOp .Eq) (fun x y H Q => rEqS (fun b => b) x y H Q ∨ rEqB X.K (fun b => b) x y H Q) := op_eqS.or (op_eqB hu)
theorem op_neC {X : Cx} (hu : X.A.units + 64 < cLine) : OpR X (compareOp .NotEq) (fun x y H Q => rEqS (fun b => !b) x y H Q ∨ rEqB X.K (fun b => !b) x y H Q) := op_neS.or (op_neB hu)
theorem z_eqB {K : PySem.W.Frag} {f : Bool → Bool} : Rz K (fun x y H Q => rEqS f x y H Q ∨ rEqB K f x y H Q) (dEqB f) where
  mo := fun a b s Q Q' h q => by
    rcases q with ⟨x, y, e1, e2, q⟩ | q
    · exact .inl ⟨x, y, e1, e2, h _ _ q⟩
    · exact .inr (z_eqO (K := K).mo _ _ _ _ _ h q)
  on := fun {H io F st x y a b Q} R n1 n2 q => by
    rcases q with ⟨x, y, rfl, rfl, q⟩ | q
    · cases n1
      cases n2
      refine .inl ⟨rfl, ?_⟩
      rw [dec_str]
      exact kE_now R (.bl _) q
    · exact .inr (z_eqO.on R n1 n2 q)
def dInB (f : Bool → Bool) : R2D := fun a b st Q => ∃ ds, (rd st b = .lst ds ∨ rd st b = .tup ds) ∧ (rd st a).ok = true ∧ D.okL ds = true ∧ min (D.depL ds) (rd st a).dep ≤ 60 ∧ Q (.bl (f (ds.any fun z => z.eqv (rd st a)))) st
abbrev dIn : R2D := dInB fun b => b
abbrev dNotIn : R2D := dInB fun b => !b
def rInB (K : PySem.W.Frag) (f : Bool → Bool) : R2 := fun x y H Q => ∃ d ds, Dp K H x d ∧ (Dp K H y (.list ds) ∨ Dp K H y (.tuple ds)) ∧ d.canLay0 = true ∧ PyData.canLayAll0 ds = true ∧ min (PyData.depthAll ds) d.depth ≤ 60 ∧ Q (.bl (f (ds.any fun z => PyData.eqv z d))) H
theorem op_inB {X : Cx} (hu : X.A.units + 64 < cLine) : OpR X (compareOp .In) (rInB X.K fun b => b) := by
  intro pins s σ H x y v u Q I rx ry h
  obtain ⟨d, ds, hd, he, sd, se, z, q⟩ := h
  obtain ⟨as, r1⟩ := Dp.reads I d x v hd rx
  rcases he with he | he
  · obtain ⟨bs, r2⟩ := Dp.reads I _ y u he ry
    exact SeqAt.in_list_reads r2 r1 se sd (by omega) ⟨.bl _, H, I, rfl, q⟩
  · obtain ⟨bs, r2⟩ := Dp.reads I _ y u he ry
    exact SeqAt.in_tuple_reads r2 r1 se sd (by omega) ⟨.bl _, H, I, rfl, q⟩
theorem op_notInB {X : Cx} (hu : X.A.units + 64 < cLine) : OpR X (compareOp .NotIn) (rInB X.K fun b => !b) := by
  intro pins s σ H x y v u Q I rx ry h
  obtain ⟨d, ds, hd, he, sd, se, z, q⟩ := h
  obtain ⟨as, r1⟩ := Dp.reads I d x v hd rx
  rcases he with he | he
  · obtain ⟨bs, r2⟩ := Dp.reads I _ y u he ry
    exact SeqAt.notIn_list_reads r2 r1 se sd (by omega) ⟨.bl _, H, I, rfl, q⟩
  · obtain ⟨bs, r2⟩ := Dp.reads I _ y u he ry
    exact SeqAt.notIn_tuple_reads r2 r1 se sd (by omega) ⟨.bl _, H, I, rfl, q⟩
theorem any_py {d : D} (h : d.ok = true) : ∀ ds : List D, D.okL ds = true → (D.pyL ds).any (fun z => PyData.eqv z d.py) = ds.any fun z => z.eqv d
  | [], _ => rfl
  | e :: r, h2 => by
    simp only [D.okL, Bool.and_eq_true] at h2
    simp only [D.pyL, List.any_cons]
    rw [py_eqv e d h2.1 h, any_py h r h2.2]
theorem z_inB {K : PySem.W.Frag} {f : Bool → Bool} : Rz K (rInB K f) (dInB f) where
  mo := fun a b s Q Q' h ⟨ds, h1, h2, h3, h4, q⟩ => ⟨ds, h1, h2, h3, h4, h _ _ q⟩
  on := fun {H io F st x y a b Q} R n1 n2 ⟨ds, h1, h2, h3, h4, q⟩ => by
    refine ⟨_, D.pyL ds, rd_dp R n1 h2, ?_, py_ok _ h2, pyL_ok ds h3, by rw [pyL_dep, py_dep]; exact h4, ?_⟩
    · rcases h1 with e | e
      · have := rd_dp R n2 (by rw [e]; simpa only [D.ok] using h3)
        rw [e] at this
        exact .inl (by simpa only [D.py] using this)
      · have := rd_dp R n2 (by rw [e]; simpa only [D.ok] using h3)
        rw [e] at this
        exact .inr (by simpa only [D.py] using this)
    · rw [any_py h2 ds h3]
      exact kE_now R (.bl _) q
end DL
namespace DL
open PySem PySem.Spec PyProof.Rows L2
variable [Bs]
def D.ty : D → String
  | .non => "NoneType"
  | .bl _ => "bool"
  | .int _ => "int"
  | .str _ => "str"
  | .tup _ => "tuple"
  | .lst _ => "list"
  | .scr _ => "list"
  | .dct _ => "dict"
  | .ref _ => ""
  | .fn _ _ _ => ""
  | .exc _ _ _ => ""
def D.noRef : D → Prop
  | .ref _ => False
  | .fn _ _ _ => False
  | .exc _ _ _ => False
  | _ => True
def D.isa (T : String) : D → Bool
  | .bl _ => T == "bool" || T == "int"
  | d => d.ty == T
theorem den_ty {K : PySem.W.Frag} {H : Hp} {io : List Addr} {F : Hp} {st : Sto} {v : V} {d : D} (R : RelH K H io F st) (n : Den K io F v d) (h : d.noRef) : TyX K H v (.type d.ty) := by
  cases n with
  | non => exact .base .non
  | bl b => exact .base (.bl b)
  | int i => exact .base (.int i)
  | str s => exact .base (.str s)
  | tup s r z =>
    rcases s.t with (s | ⟨o, s⟩) | ⟨o, its, k, s, c, _⟩
    · exact .base (.tup (R.sub _ _ s))
    · exact .fTuple (R.sub _ _ s)
    · exact .kTuple s c
  | lst s r z => exact .base (.lst (R.sub _ _ s))
  | scr s r z =>
    rcases s with (s | ⟨o, s⟩) | ⟨o, its, k, s, c, _⟩
    · exact .base (.lst (R.sub _ _ s))
    · exact .base (.frz (R.sub _ _ s))
    · exact .kList s c
  | dct s => exact .base (.dK (R.sub _ _ s))
  | ref _ => exact h.elim
  | fn _ _ => exact h.elim
  | exc => exact h.elim
def wIsi (T : String) (we : DE) : DE := fun env st Q => we env st fun d s => d.noRef ∧ Q (.bl (d.isa T)) s
def TOk (T : String) : Prop := ∀ d : D, d.noRef → kitB d.ty T = some (d.isa T)
theorem tok_int : TOk "int" := fun d h => by cases d <;> first | exact h.elim | (dsimp only [D.ty, D.isa]; decide +kernel)
theorem tok_bool : TOk "bool" := fun d h => by cases d <;> first | exact h.elim | (dsimp only [D.ty, D.isa]; decide +kernel)
theorem tok_tuple : TOk "tuple" := fun d h => by cases d <;> first | exact h.elim | (dsimp only [D.ty, D.isa]; decide +kernel)
section
variable {X : Cx} {pos p p2 : Pos} {e : Expr} {we : DE} {x : Str}
theorem we_isi {T : String} (hT : TOk T) (hg : Gl X "isinstance") (hm : X.mg "isinstance" = none) (hg2 : Gl X x) (hm2 : X.mg x = none) (hv2 : bootBuiltins x = some (.type T)) (he : WE X e we) (hv : bootBuiltins "isinstance" = some (.builtin "isinstance") := by decide +kernel)
    (hn2 : x ≠ "__name__" := by decide) (hd2 : (x == ("__debug__" : Str)) = false := by decide)
    (s1 : starEach [e, .Name x p2] X.env = (false, eval e X.env) :: starEach [.Name x p2] X.env := by rfl) (s2 : starEach [.Name x p2] X.env = (false, eval (.Name x p2) X.env) :: starEach [] X.env := by rfl)
    (hpl : (backTo pos (starEach [.Name x p2] X.env)).any (·.1) = false := by rfl) : WE X (.Call (.Name "isinstance" p) [e, .Name x p2] [] pos) (wIsi T we) := by
  refine ⟨fun _ _ _ _ h q => he.mo _ _ _ _ (fun _ _ ⟨z, q⟩ => ⟨z, h _ _ q⟩) q, PE_imp (pe_callB (x := "isinstance") call_isi hg hm hv (pa_cons he.pe (pa_cons (pe_bltn (v := .ty T) hg2 hm2 hv2 rfl hn2 hd2) pa_nil s2) s1) (by decide) (by decide) s1 hpl) fun σ H Q ⟨env, io, F, st, R, q⟩ => ?_⟩
  refine tE_use he.mo R q fun d s1 v io1 F1 H1 ⟨z, q1⟩ t1 R1 n1 => ?_
  exact ⟨v, .ty T, _, _, _, rfl, .ty T, den_ty R1.toRelH n1 z, kit_ty (hT d z), kE_at q1 t1 R1.toRelH (.bl _)⟩
end
theorem CallR.or {X : Cx} {f : Value} {r r' : List V → Hp → VK → Prop} (h : CallR X f r) (h' : CallR X f r') : CallR X f (fun xs H Q => r xs H Q ∨ r' xs H Q) := by
  intro pins s σ H vs us Q I rv q
  rcases q with q | q
  · exact h pins s σ H vs us Q I rv q
  · exact h' pins s σ H vs us Q I rv q
def lenD (d : D) : Option Nat := match d with
  | .tup ds => some ds.length
  | .lst ds => some ds.length
  | .scr ds => some ds.length
  | .str z => if z.length ≤ sizeLine then some z.length else none
  | _ => none
def bLen : RLD := fun ds st Q => ∃ d n, ds = [d] ∧ lenD (rd st d) = some n ∧ Q (.int (n : Nat)) st
section
variable {K : PySem.W.Frag} {H : Hp} {io : List Addr} {F : Hp} {st : Sto} {Q : VK} {v : V} {d : D}
theorem DenL.one {vs : List V} (n : DenL K io F vs [d]) : ∃ v, vs = [v] ∧ Den K io F v d := by
  cases n with
  | cons a b => cases b; exact ⟨_, rfl, a⟩
theorem DenL.two {vs : List V} {e : D} (n : DenL K io F vs [d, e]) : ∃ v w, vs = [v, w] ∧ Den K io F v d ∧ Den K io F w e := by
  cases n with
  | cons a b =>
    cases b with
    | cons b c => cases c; exact ⟨_, _, rfl, a, b⟩
end
theorem z_len {X : Cx} : RzL X.K (fun xs H Q => (∃ p ys, xs = [.ref p] ∧ (SqL X.K H p ys ∨ SqT X.K H p ys) ∧ Q (.int ys.length) H) ∨ ∃ z, xs = [.str z] ∧ z.length ≤ sizeLine ∧ Q (.int z.length) H) bLen where
  mo := fun ds s Q Q' h ⟨d, n, e1, e2, q⟩ => ⟨d, n, e1, e2, h _ _ q⟩
  on := fun {H io F st vs ds Q} R nl ⟨d, n, e1, e2, q⟩ => by
    subst e1
    obtain ⟨v, rfl, n1⟩ := nl.one
    cases e : rd st d with
    | lst es =>
      obtain ⟨a, xs, rfl, h1, h2, h3⟩ := rd_lst R n1 e
      rw [e] at e2
      cases e2
      refine .inl ⟨a, xs, rfl, .inl (SqL.of h1), ?_⟩
      rw [h2.length]
      exact kE_now R (.int _) q
    | tup es =>
      rw [e] at e2
      cases e2
      cases rd_tup e
      cases n1 with
      | tup s r z =>
        refine .inl ⟨_, _, rfl, .inr (SqT_mono R.sub s.t), ?_⟩
        rw [r.length]
        exact kE_now R (.int _) q
    | scr es =>
      rw [e] at e2
      cases e2
      cases rd_scr e
      cases n1 with
      | scr s r z =>
        refine .inl ⟨_, _, rfl, .inl (SqL_mono R.sub s), ?_⟩
        rw [r.length]
        exact kE_now R (.int _) q
    | str z =>
      rw [e] at e2
      cases rd_str e
      cases n1
      unfold lenD at e2
      by_cases hz : z.length ≤ sizeLine
      · simp only [hz, if_true] at e2
        cases e2
        exact .inr ⟨z, rfl, hz, kE_now R (.int _) q⟩
      · simp only [hz, if_false] at e2
        cases e2
    | non => rw [e] at e2; cases e2
    | bl _ => rw [e] at e2; cases e2
    | int _ => rw [e] at e2; cases e2
    | dct _ => rw [e] at e2; cases e2
    | fn => rw [e] at e2; cases e2
    | exc => rw [e] at e2; cases e2
    | ref _ => rw [e] at e2; cases e2
def bAbs : RLD := fun ds st Q => ∃ i, ds = [.int i] ∧ Q (.int (if i < 0 then -i else i)) st
theorem z_abs {K : PySem.W.Frag} : RzL K (fun xs H Q => ∃ i, xs = [.int i] ∧ Q (.int (if i < 0 then -i else i)) H) bAbs where
  mo := fun ds s Q Q' h ⟨i, e, q⟩ => ⟨i, e, h _ _ q⟩
  on := fun R nl ⟨i, e, q⟩ => by
    subst e
    obtain ⟨v, rfl, n⟩ := nl.one
    cases n
    exact ⟨i, rfl, kE_now R (.int _) q⟩
def bMax2 : RLD := fun ds st Q => ∃ i j, ds = [.int i, .int j] ∧ Q (.int (if j > i then j else i)) st
def bMin2 : RLD := fun ds st Q => ∃ i j, ds = [.int i, .int j] ∧ Q (.int (if j < i then j else i)) st
theorem z_min2 {K : PySem.W.Frag} : RzL K (fun xs H Q => ∃ i j, xs = [.int i, .int j] ∧ Q (.int (if j < i then j else i)) H) bMin2 where
  mo := fun ds s Q Q' h ⟨i, j, e, q⟩ => ⟨i, j, e, h _ _ q⟩
  on := fun R nl ⟨i, j, e, q⟩ => by
    subst e
    obtain ⟨v, w, rfl, n, m⟩ := nl.two
    cases n
    cases m
    exact ⟨i, j, rfl, kE_now R (.int _) q⟩
def bInt : RLD := fun ds st Q => ∃ d, ds = [d] ∧ match d with
  | .int i => Q (.int i) st
  | .bl b => Q (.int (if b then 1 else 0)) st
  | _ => False
theorem z_int {K : PySem.W.Frag} : RzL K (fun xs H Q => (∃ i, xs = [.int i] ∧ Q (.int i) H) ∨ ∃ k, xs = [.bl k] ∧ Q (.int (if k then 1 else 0)) H) bInt where
  mo := fun ds s Q Q' h ⟨d, e, q⟩ => ⟨d, e, by cases d <;> first | exact h _ _ q | exact q⟩
  on := fun R nl ⟨d, e, q⟩ => by
    subst e
    obtain ⟨v, rfl, n⟩ := nl.one
    cases n <;> first
      | exact False.elim q
      | exact .inl ⟨_, rfl, kE_now R (.int _) q⟩
      | exact .inr ⟨_, rfl, kE_now R (.int _) q⟩
def D.ints : List D → Option (List Int)
  | [] => some []
  | .int i :: r => (D.ints r).map (i :: ·)
  | _ => none
theorem ints_eq : ∀ {ds : List D} {ns : List Int}, D.ints ds = some ns → ds = ns.map .int
  | [], ns, h => by cases h; rfl
  | .int i :: r, ns, h => by
    simp only [D.ints] at h
    cases e : D.ints r with
    | none => rw [e] at h; cases h
    | some ms =>
      rw [e] at h
      cases h
      rw [List.map_cons, ints_eq e]
theorem den_ints {K : PySem.W.Frag} {io : List Addr} {F : Hp} : ∀ {ns : List Int} {vs : List V}, DenL K io F vs (ns.map .int) → vs = ns.map V.int
  | [], _, .nil => rfl
  | n :: r, _, .cons a b => by cases a; rw [List.map_cons, den_ints b]
def bTuple : RLD := fun ds st Q => ∃ d es, ds = [d] ∧ (rd st d = .lst es ∨ rd st d = .tup es) ∧ Q (.tup es) st
theorem z_tuple {X : Cx} : RzL X.K (fun xs H Q => ∃ p ys, xs = [.ref p] ∧ ((SqL X.K H p ys ∧ XtK H Q ys) ∨ (SqT X.K H p ys ∧ Q (.ref p) H))) bTuple where
  mo := fun ds s Q Q' h ⟨d, es, e1, e2, q⟩ => ⟨d, es, e1, e2, h _ _ q⟩
  on := fun {H io F st vs ds Q} R n ⟨d, es, e1, e2, q⟩ => by
    subst e1
    obtain ⟨v, rfl, n1⟩ := n.one
    rcases e2 with e | e
    · obtain ⟨a, xs, rfl, h1, h2, h3⟩ := rd_lst R n1 e
      exact ⟨a, xs, rfl, .inl ⟨SqL.of h1, lay_tup R h2 h3 q⟩⟩
    · cases rd_tup e
      cases n1 with
      | tup s r z => exact ⟨_, _, rfl, .inr ⟨SqT_mono R.sub s.t, kE_now R (.tup s r z) q⟩⟩
end DL
namespace DL
open PySem PySem.Spec PyProof.Rows L2
variable [Bs]
theorem atI_den {K : PySem.W.Frag} {io : List Addr} {F : Hp} {xs : List V} {ds : List D} {i : Int} {d : D} (r : DenL K io F xs ds) (h : atI ds i = some d) : ∃ v, atI xs i = some v ∧ Den K io F v d := by
  unfold atI at h ⊢
  rw [r.length]
  cases e : ixN ds.length i with
  | none => rw [e] at h; cases h
  | some j => rw [e] at h; exact r.get h
def dIx : R2D := fun a b st Q => ∃ i, b = .int i ∧ match rd st a with
  | .lst ds => ∃ d, atI ds i = some d ∧ Q d st
  | .tup ds => ∃ d, atI ds i = some d ∧ Q d st
  | .scr ds => ∃ d, atI ds i = some d ∧ Q d st
  | .str z => z.length ≤ sizeLine ∧ ∃ c, atI z.cps.toList i = some c ∧ Q (.str ⟨#[c]⟩) st
  | _ => False
theorem z_ix {X : Cx} : Rz X.K (rIx X.K) dIx where
  mo := fun a b s Q Q' h ⟨i, e, q⟩ => ⟨i, e, by
    split at q
    · exact ⟨q.choose, q.choose_spec.1, h _ _ q.choose_spec.2⟩
    · exact ⟨q.choose, q.choose_spec.1, h _ _ q.choose_spec.2⟩
    · exact ⟨q.choose, q.choose_spec.1, h _ _ q.choose_spec.2⟩
    · exact ⟨q.1, q.2.choose, q.2.choose_spec.1, h _ _ q.2.choose_spec.2⟩
    · exact q⟩
  on := fun {H io F st x y a b Q} R n1 n2 ⟨i, e, q⟩ => by
    subst e
    cases n2
    split at q
    · rename_i ds e
      obtain ⟨p, xs, rfl, h1, h2, h3⟩ := rd_lst R n1 e
      obtain ⟨d, h, q⟩ := q
      obtain ⟨v, h4, h5⟩ := atI_den h2 h
      exact .inl ⟨p, xs, i, v, rfl, rfl, SqL.of h1, h4, kE_now R h5 q⟩
    · rename_i ds e
      cases rd_tup e
      obtain ⟨d, h, q⟩ := q
      cases n1 with
      | tup s r z =>
        obtain ⟨v, h4, h5⟩ := atI_den r h
        exact .inr (.inl ⟨_, _, i, v, rfl, rfl, SqT_mono R.sub s.t, h4, kE_now R h5 q⟩)
    · rename_i ds e
      cases rd_scr e
      obtain ⟨d, h, q⟩ := q
      cases n1 with
      | scr s r z =>
        obtain ⟨v, h4, h5⟩ := atI_den r h
        exact .inl ⟨_, _, i, v, rfl, rfl, SqL_mono R.sub s, h4, kE_now R h5 q⟩
    · rename_i z e
      cases rd_str e
      obtain ⟨hz, c, h, q⟩ := q
      cases n1
      exact .inr (.inr ⟨z, i, c, rfl, rfl, hz, h, kE_now R (.str _) q⟩)
    · exact q.elim
section
variable {X : Cx} {pos p2 : Pos} {a b : Expr} {wa wb : DE}
theorem we_ix (ha : WE X a wa) (hb : WE X b wb) (hs : PlainIx b := by exact fun _ _ => rfl) : WE X (.Subscript a b pos) (wOp dIx wa wb) :=
  ⟨moOp (z_ix (X := X)).mo ha.mo hb.mo, PE_imp (pe_ix ix_seq ha.pe hb.pe hs) fun σ H Q h => tOp_of z_ix ha hb h⟩
def cutL {α : Type} (xs : List α) (lo hi : Option Int) : List α := (xs.drop (HT.sIx xs.length 0 lo)).take (HT.sIx xs.length xs.length hi - HT.sIx xs.length 0 lo)
theorem cutL_length {α : Type} (xs : List α) (lo hi : Option Int) : (cutL xs lo hi).length ≤ xs.length := by
  unfold cutL
  rw [List.length_take, List.length_drop]
  omega
theorem cut_den {K : PySem.W.Frag} {io : List Addr} {F : Hp} {xs : List V} {ds : List D} (r : DenL K io F xs ds) (lo hi : Option Int) : DenL K io F (cutV xs lo hi) (cutL ds lo hi) := by
  unfold cutV cutL
  rw [r.length]
  exact (r.drop _).take _
abbrev DO := En → Sto → (Option Int → Sto → Prop) → Prop
def MoO (w : DO) : Prop := ∀ (e : En) (s : Sto) (Q Q' : Option Int → Sto → Prop), (∀ d s, Q d s → Q' d s) → w e s Q → w e s Q'
def kO (K : PySem.W.Frag) (H : Hp) (io : List Addr) (F : Hp) (Q : Option Int → Hp → Prop) : Option Int → Sto → Prop := fun b st' => ∀ io' F' H', Stp H io F H' io' F' → RelH K H' io' F' st' → Q b H'
def tO (K : PySem.W.Frag) (w : DO) : TO := fun σ H Q => ∃ env io F st, Rel K σ H env io F st ∧ w env st (kO K H io F Q)
structure WO (X : Cx) (e : Option Expr) (w : DO) : Prop where
  mo : MoO w
  pe : PO X e (tO X.K w)
theorem PO_imp {e : Option Expr} {t t' : TO} (h : PO X e t) (i : ∀ σ H Q, t' σ H Q → t σ H Q) : PO X e t' := ⟨fun p s σ H Q I q => h.run p s σ H Q I (i σ H Q q)⟩
def oNo : DO := fun _ st Q => Q none st
def oPart (we : DE) : DO := fun env st Q => we env st fun d s => ∃ i, d = .int i ∧ Q (some i) s
theorem wo_none : WO X none oNo := ⟨fun _ _ _ _ h q => h _ _ q, PO_imp po_none fun σ H Q ⟨env, io, F, st, R, q⟩ => q _ _ _ Stp.refl R.toRelH⟩
theorem wo_some (ha : WE X a wa) : WO X (some a) (oPart wa) := by
  refine ⟨fun _ _ _ _ h q => ha.mo _ _ _ _ (fun _ _ ⟨i, e, q⟩ => ⟨i, e, h _ _ q⟩) q, PO_imp (po_some ha.pe) fun σ H Q ⟨env, io, F, st, R, q⟩ => ?_⟩
  refine tE_use ha.mo R q fun d s1 v io1 F1 H1 ⟨i, e, q1⟩ t1 R1 n1 => ?_
  subst e
  cases n1
  exact ⟨i, rfl, q1 _ _ _ t1 R1.toRelH⟩
def dSl (m : Bool) (a : D) (lo hi : Option Int) (st : Sto) (Q : DK) : Prop := match rd st a with
  | .lst ds => newL m (cutL ds lo hi) st Q
  | .scr ds => newL m (cutL ds lo hi) st Q
  | .tup ds => Q (.tup (cutL ds lo hi)) st
  | .str z => z.length ≤ sizeLine ∧ Q (.str (cutS z lo hi)) st
  | _ => False
def wSl (m : Bool) (wa : DE) (wl wh : DO) : DE := fun env st Q => wa env st fun a s1 => wl env s1 fun lo s2 => wh env s2 fun hi s3 => dSl m a lo hi s3 Q
theorem mo_dSl {m : Bool} {a : D} {lo hi : Option Int} {st : Sto} {Q Q' : DK} (h : ∀ d s, Q d s → Q' d s) (q : dSl m a lo hi st Q) : dSl m a lo hi st Q' := by
  unfold dSl at q ⊢
  split at q
  · exact newL_mo h q
  · exact newL_mo h q
  · exact h _ _ q
  · exact ⟨q.1, h _ _ q.2⟩
  · exact q
theorem cut_whole {α : Type} (xs : List α) (lo hi : Option Int) (h : HT.sIx xs.length 0 lo = 0 ∧ HT.sIx xs.length xs.length hi = xs.length) : cutL xs lo hi = xs := by
  unfold cutL
  rw [h.1, h.2, List.drop_zero, Nat.sub_zero, List.take_length]
theorem we_sl {m : Bool} {lo hi : Option Expr} {wl wh : DO} (ha : WE X a wa) (hl : WO X lo wl) (hh : WO X hi wh) : WE X (.Subscript a (.Slice lo hi none p2) pos) (wSl m wa wl wh) := by
  refine ⟨fun _ _ _ _ h q => ha.mo _ _ _ _ (fun _ _ q => hl.mo _ _ _ _ (fun _ _ q => hh.mo _ _ _ _ (fun _ _ q => mo_dSl h q) q) q) q, PE_imp (pe_slice (sl_list.or (sl_tupX.or sl_str)) ha.pe hl.pe hh.pe) fun σ H Q ⟨env, io, F, st, R, q⟩ => ?_⟩
  refine tE_use ha.mo R q fun d s1 v io1 F1 H1 q1 t1 R1 n1 => ?_
  refine ⟨env, io1, F1, s1, R1, hl.mo _ _ _ _ (fun l s2 q2 => ?_) q1⟩
  intro io2 F2 H2 t2 R2
  refine ⟨env, io2, F2, s2, R1.next t2 R2, hh.mo _ _ _ _ (fun u s3 q3 => ?_) q2⟩
  intro io3 F3 H3 t3 R3
  replace q3 := mo_dSl (fun d s => kE_later ((t1.trans t2).trans t3)) q3
  replace n1 := (t2.trans t3).den n1
  unfold dSl at q3
  split at q3
  · rename_i ds e
    obtain ⟨p, xs, rfl, h1, h2, h3⟩ := rd_lst R3 n1 e
    exact .inl ⟨p, xs, rfl, SqL.of h1, lay_new R3 (cut_den h2 _ _) (Nat.le_trans (cutL_length _ _ _) h3) q3⟩
  · rename_i ds e
    cases rd_scr e
    cases n1 with
    | scr s r z => exact .inl ⟨_, _, rfl, SqL_mono R3.sub s, lay_new R3 (cut_den r _ _) (Nat.le_trans (cutL_length _ _ _) z) q3⟩
  · rename_i ds e
    cases rd_tup e
    cases n1 with
    | tup s r z =>
      refine .inr (.inl ⟨_, _, rfl, SqT_mono R3.sub s.t, fun hw => ?_, fun _ => ?_⟩)
      · rw [r.length] at hw
        rw [cut_whole ds l u hw] at q3
        exact kE_now R3 (.tup s r z) q3
      · exact lay_tup R3 (cut_den r _ _) (Nat.le_trans (cutL_length _ _ _) z) q3
  · rename_i z e
    cases rd_str e
    cases n1
    exact .inr (.inr ⟨z, rfl, q3.1, kE_now R3 (.str _) q3.2⟩)
  · exact q3.elim
end
theorem nodup_at {io : List Addr} (h : io.Nodup) {i j : Nat} {a : Addr} (h1 : io[i]? = some a) (h2 : io[j]? = some a) : i = j := by
  obtain ⟨x1, e1⟩ := List.getElem?_eq_some_iff.mp h1
  obtain ⟨x2, e2⟩ := List.getElem?_eq_some_iff.mp h2
  exact (List.getElem_inj h).mp (e1.trans e2.symm)
section
variable {K : PySem.W.Frag} {io : List Addr} {F H : Hp} {st : Sto} {n : Nat} {a : Addr}
theorem RelH.write (R : RelH K H io F st) {c : Cel} {o : HO} (h : io[n]? = some a) (hf : F a = none) (hc : CelOk K (upd H a o) io F a c) : RelH K (upd H a o) io F (st.set n c) ∧ Stp H io F (upd H a o) io F := by
  have hmem := List.mem_of_getElem? h
  obtain ⟨o1, ho⟩ := R.there a hmem
  refine ⟨⟨fun b u e => ?_, by rw [List.length_set]; exact R.len, R.nd, fun b hb => ?_, fun m d b h1 h2 => ?_, fun q hq => ?_⟩, ⟨⟨[], by simp, fun _ h => by cases h⟩, fun _ _ h => h, fun b u e hn hb => ?_, fun b u e => ?_, fun _ _ h => .inl h⟩⟩
  · rw [upd_ne (fun z => by subst z; rw [hf] at e; cases e)]; exact R.sub _ _ e
  · by_cases z : b = a
    · subst z; exact ⟨_, upd_same⟩
    · rw [upd_ne z]; exact R.there b hb
  · by_cases z : m = n
    · subst z
      have hm : m < st.length := by rw [← R.len]; exact (List.getElem?_eq_some_iff.mp h).1
      rw [List.getElem?_set_self hm] at h1
      cases h1
      rw [h] at h2
      cases h2
      exact hc
    · rw [List.getElem?_set_ne (Ne.symm z)] at h1
      have ne : b ≠ a := fun q => by subst q; exact z (nodup_at R.nd h2 h)
      have := R.cel m d b h1 h2
      cases d with
      | lst ds => obtain ⟨q1, q2, vs, q3, q4⟩ := this; exact ⟨q1, q2, vs, by rw [upd_ne ne]; exact q3, q4⟩
      | dead => trivial
      | ins C fs => obtain ⟨q1, cc, dx, fv, qc, q3, q4⟩ := this; exact ⟨q1, cc, dx, fv, qc, by rw [upd_ne ne]; exact q3, q4⟩
      | dct b kvs => obtain ⟨q1, q2, u, q3, q4⟩ := this; exact ⟨q1, q2, u, by rw [upd_ne ne]; exact q3, q4⟩
  · obtain ⟨t1, t2, ps, t3, t4, t5⟩ := R.tab q hq
    exact ⟨t1, t2, ps, by rw [upd_ne (fun z => by rw [z] at t2; exact t2 hmem)]; exact t3, t4, t5⟩
  · rw [upd_ne (fun z => by subst z; exact hb hmem)]; exact e
  · by_cases z : b = a
    · subst z; exact ⟨_, upd_same⟩
    · rw [upd_ne z]; exact ⟨u, e⟩
theorem RelH.writeL (R : RelH K H io F st) {ds ds' : List D} {vs' : List V} (h : io[n]? = some a) (hn : st[n]? = some (.lst ds)) (r : DenL K io F vs' ds') (z : ds'.length ≤ sizeLine) : RelH K (upd H a (.lst vs')) io F (st.set n (.lst ds')) ∧ Stp H io F (upd H a (.lst vs')) io F :=
  R.write h (R.cel n _ a hn h).1 ⟨(R.cel n _ a hn h).1, z, vs', upd_same, r⟩
/-- a cell's list -/
theorem RelH.at (R : RelH K H io F st) {ds : List D} (h : io[n]? = some a) (hn : st[n]? = some (.lst ds)) : ∃ vs, H a = some (.lst vs) ∧ DenL K io F vs ds ∧ ds.length ≤ sizeLine := by
  obtain ⟨h1, h2, vs, h3, h4⟩ := R.cel n _ a hn h
  exact ⟨vs, h3, h4, h2⟩
end
abbrev RMD := D → List D → Sto → DK → Prop
structure RzM (K : PySem.W.Frag) (r : V → List V → Hp → VK → Prop) (f : RMD) : Prop where
  mo : ∀ d ds s Q Q', (∀ d s, Q d s → Q' d s) → f d ds s Q → f d ds s Q'
  on : ∀ {H io F st v vs d ds Q}, RelH K H io F st → Den K io F v d → DenL K io F vs ds → f d ds st (kE K H io F Q) → r v vs H Q
def wM (f : RMD) (wo : DE) (wa : DA) : DE := fun env st Q => wo env st fun d s1 => (∃ ds, rd s1 d = .lst ds) ∧ wa env s1 fun ds s2 => f d ds s2 Q
section
variable {X : Cx} {apos cpos : Pos} {o e : Expr} {es : List Expr} {wo : DE} {wa : DA} {name : Str} {id : String} {r : V → List V → Hp → VK → Prop} {f : RMD}
theorem moM (mo : MoE wo) (ma : MoA wa) (z : RzM X.K r f) : MoE (wM f wo wa) := fun _ _ _ _ h q => mo _ _ _ _ (fun _ _ ⟨t, q⟩ => ⟨t, ma _ _ _ _ (fun _ _ q => z.mo _ _ _ _ _ h q) q⟩) q
theorem tM_of {σ : L2.St} {H : Hp} {Q : VK} (ho : WE X o wo) (ma : MoA wa) (z : RzM X.K r f) (h : tE X.K (wM f wo wa) σ H Q) : tBM X.K "list" r (tE X.K wo) (tA X.K wa) σ H Q := by
  obtain ⟨env, io, F, st, R, q⟩ := h
  refine tE_use ho.mo R q fun d s1 v io1 F1 H1 ⟨⟨ds, e⟩, q1⟩ t1 R1 n1 => ?_
  obtain ⟨p, xs, rfl, h1, h2, h3⟩ := rd_lst R1.toRelH n1 e
  refine ⟨.inl ⟨rfl, _, SqL.of h1⟩, ?_⟩
  refine tA_use ma R1 q1 fun ds s2 vs io2 F2 H2 q2 t2 R2 n2 => ?_
  exact z.on R2.toRelH (t2.den n1) n2 (z.mo _ _ _ _ _ (fun _ _ => kE_later (t1.trans t2)) q2)
theorem we_m (slot : Slot "list" name id) (hty : typeOf (.builtin id) = pure (.type "method_descriptor")) (hm : MtR X id r) (z : RzM X.K r f) (ho : WE X o wo) (ha : WA X (e :: es) wa)
    (pe : ∀ {to : TE} {t : TA}, PE X o to → PA X (e :: es) t → PE X (.Call (.Attribute o name apos) (e :: es) [] cpos) (tBM X.K "list" r to t)) : WE X (.Call (.Attribute o name apos) (e :: es) [] cpos) (wM f wo wa) :=
  ⟨moM ho.mo ha.mo z, PE_imp (pe ho.pe ha.pe) fun σ H Q h => tM_of ho ha.mo z h⟩
end
def mAppend : RMD := fun d xs st Q => ∃ n ds x, d = .ref n ∧ xs = [x] ∧ st[n]? = some (.lst ds) ∧ ds.length < sizeLine ∧ Q .non (st.set n (.lst (ds ++ [x])))
theorem z_append {K : PySem.W.Frag} : RzM K rAppend mAppend where
  mo := fun _ _ _ _ _ h ⟨n, ds, x, e1, e2, e3, z, q⟩ => ⟨n, ds, x, e1, e2, e3, z, h _ _ q⟩
  on := fun {H io F st v vs d ds Q} R n1 n2 ⟨n, ds', x, e1, e2, e3, z, q⟩ => by
    subst e1 e2
    cases n1 with
    | ref h =>
      obtain ⟨y, rfl, ny⟩ := n2.one
      obtain ⟨xs, h1, h2, h3⟩ := R.at h e3
      obtain ⟨R', s⟩ := R.writeL (ds' := ds' ++ [x]) h e3 (h2.append (.cons ny .nil)) (by rw [List.length_append]; exact z)
      exact ⟨_, xs, y, rfl, rfl, h1, by rw [h2.length]; exact z, q _ _ _ _ s R' .non⟩
def mPopAt : RMD := fun d xs st Q => ∃ n ds i k x, d = .ref n ∧ xs = [.int i] ∧ st[n]? = some (.lst ds) ∧ -(2 ^ 63) ≤ i ∧ i < 2 ^ 63 ∧ ixN ds.length i = some k ∧ ds[k]? = some x ∧ Q x (st.set n (.lst (ds.eraseIdx k)))
theorem erase_le {α : Type} (xs : List α) (k : Nat) : (xs.eraseIdx k).length ≤ xs.length := by
  rw [List.length_eraseIdx]
  split <;> omega
theorem z_popAt {K : PySem.W.Frag} : RzM K rPopAt mPopAt where
  mo := fun _ _ _ _ _ h ⟨n, ds, i, k, x, e1, e2, e3, z1, z2, z3, z4, q⟩ => ⟨n, ds, i, k, x, e1, e2, e3, z1, z2, z3, z4, h _ _ q⟩
  on := fun {H io F st v vs d ds Q} R n1 n2 ⟨n, ds', i, k, x, e1, e2, e3, z1, z2, z3, z4, q⟩ => by
    subst e1 e2
    cases n1 with
    | ref h =>
      obtain ⟨y, rfl, ny⟩ := n2.one
      cases ny
      obtain ⟨xs, h1, h2, h3⟩ := R.at h e3
      obtain ⟨y, h4, h5⟩ := h2.get z4
      obtain ⟨R', s⟩ := R.writeL (ds' := ds'.eraseIdx k) h e3 (h2.erase k) (Nat.le_trans (erase_le _ _) h3)
      exact ⟨_, xs, i, k, y, rfl, rfl, h1, z1, z2, by rw [h2.length]; exact (ixN_seq z3).1, h4, q _ _ _ _ s R' (s.den h5)⟩
def gSet (wo wi : DE) : DG := fun d env st Q => wo env st fun o s1 => wi env s1 fun i s2 => ∃ n ds k j, o = .ref n ∧ i = .int k ∧ s2[n]? = some (.lst ds) ∧ ixN ds.length k = some j ∧ Q env (s2.set n (.lst (ds.set j d)))
section
variable {X : Cx} {pos : Pos} {o i : Expr} {wo wi : DE}
theorem wg_sub (ho : WE X o wo) (hi : WE X i wi)
    (ha : ∀ v, assign (.Subscript o i pos) X.env v = (do
      let ov ← holding [v] (eval o X.env)
      let iv ← holding [v, ov] (eval i X.env)
      standAt pos
      holding [v, ov, iv] (setItem ov iv v)
      release [v, ov, iv] []) := by intro _; rfl) : WG X (.Subscript o i pos) (gSet wo wi) := by
  refine ⟨fun _ _ _ _ _ h q => ho.mo _ _ _ _ (fun _ _ q => hi.mo _ _ _ _ (fun _ _ ⟨n, ds, k, j, e1, e2, e3, e4, q⟩ => ⟨n, ds, k, j, e1, e2, e3, e4, h _ _ q⟩) q) q, PG_imp (pg_sub ho.pe hi.pe set_list ha) fun v σ H Q ⟨d, env, io, F, st, R, n1, q⟩ => ?_⟩
  refine tE_use ho.mo R q fun o s1 vo io1 F1 H1 q1 t1 R1 no => ?_
  refine tE_use hi.mo R1 q1 fun ix s2 vi io2 F2 H2 q2 t2 R2 ni => ?_
  obtain ⟨n, ds, k, j, e1, e2, e3, e4, q2⟩ := q2
  subst e1 e2
  cases ni
  cases no with
  | ref h =>
    have h' := t2.ix _ _ h
    obtain ⟨xs, h1, h2, h3⟩ := R2.at h' e3
    obtain ⟨R', s⟩ := R2.writeL (ds' := ds.set j d) h' e3 (h2.setAt j ((t1.trans t2).den n1)) (by rw [List.length_set]; exact h3)
    exact ⟨_, xs, k, j, rfl, rfl, h1, by rw [h2.length]; exact e4, q2 _ _ _ _ ((t1.trans t2).trans s) (R2.next s R')⟩
end
end DL
namespace DL
open PySem PySem.Spec PyProof.Rows L2
variable [Bs]
section
variable {X : Cx} {pos spos : Pos} {elt tg iter : Expr} {ifs : List Expr} {scope : Scope} {own : List (Str × Nat)} {wi : DI} {t : Tg} {c : DT} {w : DE} {m : Bool}
theorem moComp (mi : MoI wi) (mc : MoT c) (mw : MoE w) {vs : List Nat} : MoE (wComp m wi t c w vs) := fun _ _ _ _ h q => mi _ _ _ _ (fun _ _ _ ⟨z, q⟩ => ⟨z, moCompL mc mw (fun _ _ q => newL_mo h q) _ _ _ q⟩) q
theorem we_lc (hc : X.calm = true) (hN : X.N.Nodup) (hi : WI X tg iter wi) (ok : BlkOk X.N X.env.scope scope own) (hv : ∀ i ∈ t.ix, i ∈ own.map (·.2))
    (hg : ∀ (s : Shared) (H : Hp) (C : Addr) (cl : List (Str × Addr)) (fp : List Addr), PG (X.blk s H scope (compEnvC scope cl C X.env) fp) tg (t.tg X.K))
    (ht : ∀ (s : Shared) (H : Hp) (C : Addr) (cl : List (Str × Addr)) (fp : List Addr), WTs (X.blk s H scope (compEnvC scope cl C X.env) fp) ifs c)
    (he : ∀ (s : Shared) (H : Hp) (C : Addr) (cl : List (Str × Addr)) (fp : List Addr), WE (X.blk s H scope (compEnvC scope cl C X.env) fp) elt w) (hs : ∀ x, foldedSetIterable iter X.env x = pure x := by intro _; rfl) :
    WE X (.ListComp elt [⟨tg, iter, ifs, 0⟩] scope pos) (wComp m wi t c w (own.map (·.2))) :=
  ⟨moComp hi.mo (ht X.s_0 X.H_0 0 [] []).mo (he X.s_0 X.H_0 0 [] []).mo, PE_imp (pe_lc hc hN hi.pe ok hg (fun s H C cl fp => (ht s H C cl fp).pe) (fun s H C cl fp => (he s H C cl fp).pe) hs) fun σ H Q h =>
    tLc_of hi.mo (ht X.s_0 X.H_0 0 [] []).mo (he X.s_0 X.H_0 0 [] []).mo hv h⟩
theorem ws_setLc {i : Nat} {y : Str} {py : Pos} (hc : X.calm = true) (hN : X.N.Nodup) (hy : X.N[i]? = some y) (hyl : X.env.scope.names.lookup y = some .local)
    (hsw : swapsWith (.ListComp elt [⟨tg, iter, ifs, 0⟩] scope pos) (some (.Name y py)) spos.line X.env = pure true) (hi : WI X tg iter wi) (ok : BlkOk X.N X.env.scope scope own) (hv : ∀ i ∈ t.ix, i ∈ own.map (·.2))
    (hg : ∀ (s : Shared) (H : Hp) (C : Addr) (cl : List (Str × Addr)) (fp : List Addr), PG (X.blk s H scope (compEnvC scope cl C X.env) fp) tg (t.tg X.K))
    (ht : ∀ (s : Shared) (H : Hp) (C : Addr) (cl : List (Str × Addr)) (fp : List Addr), WTs (X.blk s H scope (compEnvC scope cl C X.env) fp) ifs c)
    (he : ∀ (s : Shared) (H : Hp) (C : Addr) (cl : List (Str × Addr)) (fp : List Addr), WE (X.blk s H scope (compEnvC scope cl C X.env) fp) elt w) (hs : ∀ x, foldedSetIterable iter X.env x = pure x := by intro _; rfl) :
    WS X (.Assign [.Name y py] (.ListComp elt [⟨tg, iter, ifs, 0⟩] scope pos) spos) (wAsg (wComp m wi t c w (own.map (·.2))) (gNm i)) := by
  have mo := moComp (m := m) (t := t) (vs := own.map (·.2)) hi.mo (ht X.s_0 X.H_0 0 [] []).mo (he X.s_0 X.H_0 0 [] []).mo
  refine ⟨fun _ _ _ _ l q => mo _ _ _ _ (fun _ _ q => l.nx _ _ q) q, PS_imp (ps_setLc (te := tE X.K w) (tt := tT X.K c) hc hN hy hyl hsw hi.pe ok hg (fun s H C cl fp => (ht s H C cl fp).pe) (fun s H C cl fp => (he s H C cl fp).pe) hs) fun D σ H ⟨env, io, F, st, R, q⟩ => ?_⟩
  show tLc _ _ _ _ _ σ H _
  refine tLc_of (m := m) (Q := fun x H1 => gName i x σ H1 D.nx) hi.mo (ht X.s_0 X.H_0 0 [] []).mo (he X.s_0 X.H_0 0 [] []).mo hv ?_
  exact tE_use mo R q fun d s1 v io1 F1 H1 q1 t1 R1 n1 => q1 _ _ _ _ t1 (R1.set n1)
end
def startE (N : List Str) (ds : List D) : En := ds.map some ++ List.replicate (N.length - ds.length) none
omit [Bs] in
theorem start_rel {K : PySem.W.Frag} {H : Hp} {io : List Addr} {F : Hp} {st : Sto} {N : List Str} {vs : List V} {ds : List D} (R : RelH K H io F st) (n : DenL K io F vs ds) : @Rel ⟨H, io, F⟩ K (L2.start N vs) H (startE N ds) io F st :=
  letI : Bs := ⟨H, io, F⟩
  { R with
    bs := Stp.refl
    sl := by unfold L2.start startE; simp [n.length]
    slot := fun i d e => by
      unfold startE at e
      unfold L2.start
      by_cases hi : i < ds.length
      · rw [List.getElem?_append_left (by simpa using hi)] at e
        rw [List.getElem?_append_left (by rw [List.length_map, n.length]; exact hi)]
        rw [List.getElem?_map] at e ⊢
        cases q : ds[i]? with
        | none => rw [q] at e; cases e
        | some d' =>
          rw [q] at e
          cases e
          obtain ⟨v, h1, h2⟩ := n.get q
          exact ⟨v, by rw [h1]; rfl, h2⟩
      · rw [List.getElem?_append_right (by simpa using hi)] at e
        have := List.mem_of_getElem? e
        rw [List.mem_replicate] at this
        cases this.2 }
/-- how a body ends -/
def bodyEnds (post : D → Sto → Prop) : DEnds := ⟨fun _ st => post .non st, post, fun _ _ => False, fun _ _ => False⟩
section
variable {P : Program} {w : World} {K : PySem.W.Frag} {mg : Str → Option Value} {base : Heap}
omit [Bs] in
theorem fn_ok {x qual : Str} {st : Stmt} {f : Addr} {fd : FuncData} {N ps : List Str} {k : Nat} {S : Spec} {wb : DS} (F : Fun K x qual st f fd) (sc : FnScope N ps (defScope st)) (hn : S.n = ps.length)
    (body : ∀ [Bs] (cdv : Value) (A : Around) (outer : List Env) (s : Shared) (H : Hp) (E : XK), Room k (A.deeper (envOfC qual (defScope st) s.heap.objs.size f cdv)) → A.guards = some [] → WB (cxOf CX0 P w K mg base N qual (defScope st) f cdv A outer s H E).nox (defBody st) wb)
    (vc : ∀ g sto, (S.args g).length = S.n → S.pre g sto → wb (bodyEnds (S.post g sto)) (startE N (S.args g)) sto) : FnG P w K mg base CX0 (k + 1) f fd ps (spOf K S) := by
  refine fnG_of F sc (fun vs H Q E h => ?_) (fun cdv A outer s H vs Q E _ hr hgd h => ?_)
  · obtain ⟨g, io, Fz, sto, z, R, n, p, q⟩ := h
    rw [n.length, z, hn]
  · obtain ⟨g, io, Fz, sto, z, R, n, p, q⟩ := h
    letI : Bs := ⟨H, io, Fz⟩
    have B := body cdv A outer s H E hr hgd
    refine ⟨_, B.pe.nox, startE N (S.args g), io, Fz, sto, start_rel R n, B.mo (bodyEnds (S.post g sto)) _ _ _ ?_ (vc g sto z p)⟩
    refine ⟨fun e s h => ?_, fun d s h => ?_, fun e s h => h.elim, fun e s h => h.elim⟩
    · exact fun σ' io' F' H' t R' => q .non s h .non io' F' H' t R'.toRelH .non
    · exact q d s h
mutual
def D.blw (n : Nat) : D → Bool
  | .tup ds => D.blwL n ds
  | .lst ds => D.blwL n ds
  | .scr ds => D.blwL n ds
  | .ref k => decide (k < n)
  | .fn _ io0 _ => decide (0 < n ∧ io0.length ≤ n)
  | .exc _ _ ds => decide (0 < n) && D.blwL n ds
  | .non => true
  | .bl _ => true
  | .int _ => true
  | .str _ => true
  | .dct _ => true
def D.blwL (n : Nat) : List D → Bool
  | [] => true
  | d :: r => d.blw n && D.blwL n r
end
def Cel.blw (n : Nat) : Cel → Bool
  | .lst ds => D.blwL n ds
  | .dead => true
  | .ins _ fs => D.blwL n (fs.map (·.2))
  | .dct _ _ => true
mutual
theorem Den.cut {K : PySem.W.Frag} {io io' : List Addr} {F : Hp} (h : ∀ (n : Nat) a, n < io.length → io'[n]? = some a → io[n]? = some a) : ∀ {v : V} {d : D}, Den K io' F v d → d.blw io.length = true → Den K io F v d
  | _, _, .non, _ => .non
  | _, _, .bl b, _ => .bl b
  | _, _, .int i, _ => .int i
  | _, _, .str x, _ => .str x
  | _, _, .dct e, _ => .dct e
  | _, _, .tup s r z, b => .tup s (DenL.cut h r (by simpa only [D.blw] using b)) z
  | _, _, .lst s r z, b => .lst s (DenL.cut h r (by simpa only [D.blw] using b)) z
  | _, _, .scr s r z, b => .scr s (DenL.cut h r (by simpa only [D.blw] using b)) z
  | _, _, .ref e, b => .ref (h _ _ (by simpa only [D.blw, decide_eq_true_eq] using b) e)
  | _, _, .fn e1 e2, b => .fn (fun n a e => h n a (Nat.lt_of_lt_of_le (List.getElem?_eq_some_iff.mp e).1 (of_decide_eq_true (show decide (0 < io.length ∧ _) = true by simpa only [D.blw] using b)).2) (e1 n a e)) e2
  | _, _, .exc n e x a1 a2 r, b => .exc n e x a1 a2 (DenL.cut h r (by simp only [D.blw, Bool.and_eq_true] at b; exact b.2))
theorem DenL.cut {K : PySem.W.Frag} {io io' : List Addr} {F : Hp} (h : ∀ (n : Nat) a, n < io.length → io'[n]? = some a → io[n]? = some a) : ∀ {vs : List V} {ds : List D}, DenL K io' F vs ds → D.blwL io.length ds = true → DenL K io F vs ds
  | _, _, .nil, _ => .nil
  | _, _, .cons a b, q => by
    simp only [D.blwL, Bool.and_eq_true] at q
    exact .cons (Den.cut h a q.1) (DenL.cut h b q.2)
end
mutual
theorem Den.blw {K : PySem.W.Frag} {io : List Addr} {F : Hp} (h0 : 0 < io.length) : ∀ {v : V} {d : D}, Den K io F v d → d.blw io.length = true
  | _, _, .non => rfl
  | _, _, .bl b => rfl
  | _, _, .int i => rfl
  | _, _, .str x => rfl
  | _, _, .dct e => rfl
  | _, _, .tup s r z => by simpa only [D.blw] using DenL.blw h0 r
  | _, _, .lst s r z => by simpa only [D.blw] using DenL.blw h0 r
  | _, _, .scr s r z => by simpa only [D.blw] using DenL.blw h0 r
  | _, _, .ref e => by simpa only [D.blw, decide_eq_true_eq] using (List.getElem?_eq_some_iff.mp e).1
  | _, _, .exc n e x a1 a2 r => by
    simp only [D.blw, Bool.and_eq_true, decide_eq_true_eq]
    exact ⟨h0, DenL.blw h0 r⟩
  | _, _, @Den.fn _ _ _ _ io0 _ e1 _ => by
    simp only [D.blw, decide_eq_true_eq]
    rcases Nat.lt_or_ge io.length io0.length with q | q
    · have h1 : io0[io.length]? = some io0[io.length] := List.getElem?_eq_getElem q
      exact absurd (List.getElem?_eq_some_iff.mp (e1 _ _ h1)).1 (Nat.lt_irrefl _)
    · exact ⟨h0, q⟩
theorem DenL.blw {K : PySem.W.Frag} {io : List Addr} {F : Hp} (h0 : 0 < io.length) : ∀ {vs : List V} {ds : List D}, DenL K io F vs ds → D.blwL io.length ds = true
  | _, _, .nil => rfl
  | _, _, .cons a b => by simp only [D.blwL, Bool.and_eq_true]; exact ⟨Den.blw h0 a, DenL.blw h0 b⟩
end
theorem DenF.cut {K : PySem.W.Frag} {io io' : List Addr} {F : Hp} (h : ∀ (n : Nat) a, n < io.length → io'[n]? = some a → io[n]? = some a) : ∀ {vs : List (Str × V)} {ds : List (Str × D)}, DenF K io' F vs ds → D.blwL io.length (ds.map (·.2)) = true → DenF K io F vs ds
  | _, _, .nil, _ => .nil
  | _, _, .cons a b, q => by
    simp only [List.map_cons, D.blwL, Bool.and_eq_true] at q
    exact .cons ⟨a.1, a.2.cut h q.1⟩ (DenF.cut h b q.2)
theorem DenF.blw {K : PySem.W.Frag} {io : List Addr} {F : Hp} (h0 : 0 < io.length) : ∀ {vs : List (Str × V)} {ds : List (Str × D)}, DenF K io F vs ds → D.blwL io.length (ds.map (·.2)) = true
  | _, _, .nil => rfl
  | _, _, .cons a b => by simp only [List.map_cons, D.blwL, Bool.and_eq_true]; exact ⟨a.2.blw h0, DenF.blw h0 b⟩
/-- the end of a def that forgets its own cells: the cells that were there, and what is handed back, know nothing of them -/
def popEnds (n : Nat) (st0 : Sto) (post : D → Sto → Prop) : D → Sto → Prop := fun d st' => ∃ st1 ex, st' = st1 ++ ex ∧ st1.length = n ∧ d.blw n = true ∧ (∀ (i : Nat) c, st1[i]? = some c → st0[i]? = some c ∨ c.blw n = true) ∧ post d st1
theorem pop_rel {K : PySem.W.Frag} {H H' : Hp} {io io' : List Addr} {F F' : Hp} {st st1 ex : Sto} (R : RelH K H io F st) (t : Stp H io F H' io' F') (R' : RelH K H' io' F' (st1 ++ ex)) (hl : st1.length = st.length)
    (hb : ∀ (i : Nat) c, st1[i]? = some c → st[i]? = some c ∨ c.blw st.length = true) : RelH K H' io F' st1 ∧ Stp H io F H' io F' := by
  obtain ⟨more, em, hm⟩ := t.ext
  have cutH : ∀ (n : Nat) a, n < io.length → io'[n]? = some a → io[n]? = some a := fun n a h e => by
    rw [em, List.getElem?_append_left h] at e; exact e
  have mem' : ∀ a ∈ io, a ∈ io' := fun a h => by rw [em]; exact List.mem_append_left _ h
  refine ⟨⟨R'.sub, by rw [hl]; exact R.len, R.nd, fun a ha => R'.there a (mem' a ha), fun n c a h1 h2 => ?_, fun q hq => let ⟨t1, t2, r⟩ := R'.tab q hq; ⟨t1, fun h => t2 (mem' _ h), r⟩⟩, ⟨⟨[], by simp, fun _ h => by cases h⟩, t.fr, t.keep, t.dom, t.fnw⟩⟩
  have hn : n < st1.length := (List.getElem?_eq_some_iff.mp h1).1
  have q := R'.cel n c a (by rw [List.getElem?_append_left hn]; exact h1) (t.ix _ _ h2)
  have b : c.blw io.length = true := by
    rw [R.len]
    rcases hb n c h1 with e | e
    · have z := R.cel n c a e h2
      have h0 : 0 < io.length := Nat.lt_of_le_of_lt (Nat.zero_le _) (List.getElem?_eq_some_iff.mp h2).1
      rw [← R.len]
      cases c with
      | lst ds => obtain ⟨_, _, vs, _, z⟩ := z; exact z.blw h0
      | dead => rfl
      | ins C fs => obtain ⟨_, _, dx, fv, _, _, z⟩ := z; exact DenF.blw h0 z
      | dct b kvs => rfl
    · exact e
  cases c with
  | lst ds => obtain ⟨q1, q2, vs, q3, q4⟩ := q; exact ⟨q1, q2, vs, q3, q4.cut cutH b⟩
  | dead => trivial
  | ins C fs => obtain ⟨q1, cc, dx, fv, qc, q3, q4⟩ := q; exact ⟨q1, cc, dx, fv, qc, q3, DenF.cut cutH q4 b⟩
  | dct b kvs => exact q
omit [Bs] in
theorem fn_okP {x qual : Str} {st : Stmt} {f : Addr} {fd : FuncData} {N ps : List Str} {k : Nat} {S : Spec} {wb : DS} (F : Fun K x qual st f fd) (sc : FnScope N ps (defScope st)) (hn : S.n = ps.length)
    (body : ∀ [Bs] (cdv : Value) (A : Around) (outer : List Env) (s : Shared) (H : Hp) (E : XK), Room k (A.deeper (envOfC qual (defScope st) s.heap.objs.size f cdv)) → A.guards = some [] → WB (cxOf CX0 P w K mg base N qual (defScope st) f cdv A outer s H E).nox (defBody st) wb)
    (vc : ∀ g sto, (S.args g).length = S.n → S.pre g sto → wb (bodyEnds (popEnds sto.length sto (S.post g sto))) (startE N (S.args g)) sto) : FnG P w K mg base CX0 (k + 1) f fd ps (spOf K S) := by
  refine fnG_of F sc (fun vs H Q E h => ?_) (fun cdv A outer s H vs Q E _ hr hgd h => ?_)
  · obtain ⟨g, io, Fz, sto, z, R, n, p, q⟩ := h
    rw [n.length, z, hn]
  · obtain ⟨g, io, Fz, sto, z, R, n, p, q⟩ := h
    letI : Bs := ⟨H, io, Fz⟩
    have B := body cdv A outer s H E hr hgd
    refine ⟨_, B.pe.nox, startE N (S.args g), io, Fz, sto, start_rel R n, B.mo (bodyEnds (popEnds sto.length sto (S.post g sto))) _ _ _ ?_ (vc g sto z p)⟩
    have fin : ∀ {d : D} {s : Sto} {v : V} {io' : List Addr} {F' H' : Hp}, popEnds sto.length sto (S.post g sto) d s → Stp H io Fz H' io' F' → RelH K H' io' F' s → Den K io' F' v d → Q v H' := fun {d s v io' F' H'} h t R' nd => by
      obtain ⟨st1, ex, rfl, hl, hd, hb, h⟩ := h
      obtain ⟨R2, t2⟩ := pop_rel R t R' hl hb
      refine q d st1 h v io F' H' t2 R2 (nd.cut (fun n a h e => ?_) (by rw [R.len]; exact hd))
      obtain ⟨more, em, hm⟩ := t.ext
      rw [em, List.getElem?_append_left h] at e
      exact e
    refine ⟨fun e s h => ?_, fun d s h => ?_, fun e s h => h.elim, fun e s h => h.elim⟩
    · exact fun σ' io' F' H' t R' => fin h t R'.toRelH .non
    · exact fun v io' F' H' t R' nd => fin h t R' nd
end
end DL
namespace DL
open PySem PySem.Spec PyProof.Rows L2
variable [Bs]
def lexG (r : Int → Int → Bool) (z : Nat → Nat → Bool) : List Int → List Int → Bool
  | x :: xs, y :: ys => if x = y then lexG r z xs ys else r x y
  | xs, ys => z xs.length ys.length
theorem lexAt_shift (e r : Nat → Bool) (z : Bool) : ∀ (k i : Nat), Ob.lexAt e r z (i + 1) k = Ob.lexAt (fun j => e (j + 1)) (fun j => r (j + 1)) z i k
  | 0, i => rfl
  | k + 1, i => by rw [Ob.lexAt_succ, Ob.lexAt_succ, lexAt_shift e r z k (i + 1)]
theorem lexAt_G (r : Int → Int → Bool) (z : Nat → Nat → Bool) (hz : ∀ a b, z (a + 1) (b + 1) = z a b) : ∀ ns ms : List Int,
    Ob.lexAt (fun j => decide (ns.getD j 0 = ms.getD j 0)) (fun j => r (ns.getD j 0) (ms.getD j 0)) (z ns.length ms.length) 0 (min ns.length ms.length) = lexG r z ns ms
  | [], ms => by
    rw [show min ([] : List Int).length ms.length = 0 by simp]
    cases ms <;> rfl
  | x :: xs, [] => rfl
  | x :: xs, y :: ys => by
    rw [show min (x :: xs).length (y :: ys).length = min xs.length ys.length + 1 by simp only [List.length_cons]; omega, Ob.lexAt_succ, lexAt_shift]
    simp only [List.getD_cons_zero, List.getD_cons_succ, List.length_cons, hz]
    rw [lexAt_G r z hz xs ys]
    by_cases h : x = y
    · simp [lexG, h]
    · simp [lexG, h]
theorem lexG_lt : ∀ ns ms : List Int, lexG (fun x y => decide (x < y)) (fun a b => decide (a < b)) ns ms = HT.lexLt ns ms
  | [], [] => rfl
  | [], _ :: _ => by simp [lexG, HT.lexLt]
  | _ :: _, [] => by simp [lexG, HT.lexLt]
  | x :: xs, y :: ys => by simp only [lexG, HT.lexLt]; rw [lexG_lt xs ys]
theorem lexG_gt : ∀ ns ms : List Int, lexG (fun x y => decide (x > y)) (fun a b => decide (a > b)) ns ms = HT.lexLt ms ns
  | [], [] => rfl
  | [], _ :: _ => by simp [lexG, HT.lexLt]
  | _ :: _, [] => by simp [lexG, HT.lexLt]
  | x :: xs, y :: ys => by
    simp only [lexG, HT.lexLt]
    rw [lexG_gt xs ys]
    by_cases h : x = y
    · simp [h]
    · have h' : ¬ y = x := fun e => h e.symm
      simp [h, h']
theorem lexG_le : ∀ ns ms : List Int, lexG (fun x y => decide (x ≤ y)) (fun a b => decide (a ≤ b)) ns ms = !HT.lexLt ms ns
  | [], [] => rfl
  | [], _ :: _ => by simp [lexG, HT.lexLt]
  | _ :: _, [] => by simp [lexG, HT.lexLt]
  | x :: xs, y :: ys => by
    simp only [lexG, HT.lexLt]
    rw [lexG_le xs ys]
    by_cases h : x = y
    · simp [h]
    · have h' : ¬ y = x := fun e => h e.symm
      simp only [h, h', if_false]
      by_cases q : x ≤ y
      · have : ¬ y < x := by omega
        simp [q, this]
      · have : y < x := by omega
        simp [q, this]
theorem lexG_ge : ∀ ns ms : List Int, lexG (fun x y => decide (x ≥ y)) (fun a b => decide (a ≥ b)) ns ms = !HT.lexLt ns ms
  | [], [] => rfl
  | [], _ :: _ => by simp [lexG, HT.lexLt]
  | _ :: _, [] => by simp [lexG, HT.lexLt]
  | x :: xs, y :: ys => by
    simp only [lexG, HT.lexLt]
    rw [lexG_ge xs ys]
    by_cases h : x = y
    · simp [h]
    · simp only [h, if_false]
      by_cases q : x ≥ y
      · have : ¬ x < y := by omega
        simp [q, this]
      · have : x < y := by omega
        simp [q, this]
def rCmpT (K : PySem.W.Frag) (f : List Int → List Int → Bool) : R2 := fun x y H Q => ∃ (a b : Addr) (ns ms : List Int), x = .ref a ∧ y = .ref b ∧ SqT K H a (ns.map V.int) ∧ SqT K H b (ms.map V.int) ∧ Q (.bl (f ns ms)) H
theorem tupsOf {X : Cx} {pins : List (Addr × Obj)} {s : Shared} {σ : L2.St} {H : Hp} {a : Addr} {ns : List Int} (I : Inv X pins σ H s) (ha : SqT X.K H a (ns.map V.int)) :
    ∃ its : Array Value, s.heap.IsTuple a its ∧ its.size = ns.length ∧ ∀ j (h : j < its.size), ∃ t, its[j] = .int (ns.getD j 0) t := by
  obtain ⟨its, r1, p1, _⟩ := I.tuple ha
  have i1 : IntsAre its ns := Vals.ints r1
  exact ⟨its.toArray, p1, by rw [List.size_toArray]; exact i1.length, fun j h1 => PyProof.Rows.IntsAre.int_at i1 _ _ (by simp at h1; simp [h1])⟩
theorem op_cmpT {X : Cx} {op : CmpOp} (r : Int → Int → Bool) (z : Nat → Nat → Bool) (hz : ∀ a b, z (a + 1) (b + 1) = z a b) (hop : ∀ v u, compareOp op v u = richCompare op v u)
    (base : ∀ (A : Around) (s : Shared) (i j : Int) (t u : Tok), Ob.RcOp op A s (.int i t) (.int j u) (r i j))
    (tups : ∀ {A : Around} {s : Shared} {l b : Addr} {items items2 : Array Value} {e r : Nat → Bool}, s.heap.IsTuple l items → s.heap.IsTuple b items2 → A.units < cLine → (∀ j (h1 : j < items.size) (h2 : j < items2.size), SeqAt.EqAt A.in1 s items[j] items2[j] (e j)) →
      (∀ j (h1 : j < items.size) (h2 : j < items2.size), e j = false → Ob.RcOp op A.in1 s items[j] items2[j] (r j)) → Ob.RcOp op A s (.ref l) (.ref b) (Ob.lexAt e r (z items.size items2.size) 0 (min items.size items2.size)))
    (hu : X.A.units < cLine) : OpR X (compareOp op) (rCmpT X.K (lexG r z)) := by
  intro pins s σ H x y v u Q I rx ry h
  obtain ⟨a, b, ns, ms, rfl, rfl, ha, hb, q⟩ := h
  cases rx
  cases ry
  obtain ⟨its, p1, z1, g1⟩ := tupsOf I ha
  obtain ⟨its2, p2, z2, g2⟩ := tupsOf I hb
  have R := tups (e := fun j => decide (ns.getD j 0 = ms.getD j 0)) (r := fun j => r (ns.getD j 0) (ms.getD j 0)) p1 p2 hu (fun j h1 h2 => by
    obtain ⟨t, et⟩ := g1 j h1
    obtain ⟨t', et'⟩ := g2 j h2
    rw [et, et', ← Bool.beq_eq_decide_eq]
    exact SeqAt.EqAt.int_int _ _ _ _) (fun j h1 h2 _ => by
    obtain ⟨t, et⟩ := g1 j h1
    obtain ⟨t', et'⟩ := g2 j h2
    rw [et, et']
    exact base _ _ _ _ _ _)
  rw [z1, z2, lexAt_G r z hz] at R
  rw [hop]
  exact R X.prog X.w X.xe _ ⟨.bl _, H, I, rfl, q⟩
theorem op_ltD {X : Cx} (hu : X.A.units < cLine) : OpR X (compareOp .Lt) (fun x y H Q => rI0 (fun i j => .bl (decide (i < j))) x y H Q ∨ rCmpT X.K (lexG (fun x y => decide (x < y)) (fun a b => decide (a < b))) x y H Q) :=
  op_lt.or (op_cmpT _ (fun a b => decide (a < b)) (fun a b => by simp) (fun _ _ => rfl) (fun _ _ _ _ _ _ => Ob.RcOp.lt_int _ _ _ _) Ob.RcOp.tuples_lt hu)
theorem op_gtD {X : Cx} (hu : X.A.units < cLine) : OpR X (compareOp .Gt) (fun x y H Q => rI0 (fun i j => .bl (decide (j < i))) x y H Q ∨ rCmpT X.K (lexG (fun x y => decide (x > y)) (fun a b => decide (a > b))) x y H Q) :=
  op_gt.or (op_cmpT _ (fun a b => decide (a > b)) (fun a b => by simp) (fun _ _ => rfl) (fun _ _ _ _ _ _ => Ob.RcOp.gt_int _ _ _ _) Ob.RcOp.tuples_gt hu)
theorem op_leD {X : Cx} (hu : X.A.units < cLine) : OpR X (compareOp .LtE) (fun x y H Q => rI0 (fun i j => .bl (decide (i ≤ j))) x y H Q ∨ rCmpT X.K (lexG (fun x y => decide (x ≤ y)) (fun a b => decide (a ≤ b))) x y H Q) :=
  op_le.or (op_cmpT _ (fun a b => decide (a ≤ b)) (fun a b => by simp) (fun _ _ => rfl) (fun _ _ _ _ _ _ => Ob.RcOp.le_int _ _ _ _) Ob.RcOp.tuples_le hu)
theorem op_geD {X : Cx} (hu : X.A.units < cLine) : OpR X (compareOp .GtE) (fun x y H Q => rI0 (fun i j => .bl (decide (j ≤ i))) x y H Q ∨ rCmpT X.K (lexG (fun x y => decide (x ≥ y)) (fun a b => decide (a ≥ b))) x y H Q) :=
  op_ge.or (op_cmpT _ (fun a b => decide (a ≥ b)) (fun a b => by simp) (fun _ _ => rfl) (fun _ _ _ _ _ _ => Ob.RcOp.ge_int _ _ _ _) Ob.RcOp.tuples_ge hu)
def dCmp (p : Int → Int → Bool) (f : List Int → List Int → Bool) : R2D := fun a b st Q => match a, b with
  | .int i, .int j => Q (.bl (p i j)) st
  | .tup x, .tup y => ∃ ns ms, D.ints x = some ns ∧ D.ints y = some ms ∧ Q (.bl (f ns ms)) st
  | _, _ => False
theorem z_cmp {K : PySem.W.Frag} {p : Int → Int → Bool} {f g : List Int → List Int → Bool} (h : ∀ ns ms, g ns ms = f ns ms) : Rz K (fun x y H Q => rI0 (fun i j => .bl (p i j)) x y H Q ∨ rCmpT K g x y H Q) (dCmp p f) where
  mo := fun a b s Q Q' h q => by
    unfold dCmp at q ⊢
    split at q
    · exact h _ _ q
    · obtain ⟨ns, ms, e1, e2, q⟩ := q; exact ⟨ns, ms, e1, e2, h _ _ q⟩
    · exact q
  on := fun {H io F st x y a b Q} R n1 n2 q => by
    unfold dCmp at q
    split at q
    · cases n1
      cases n2
      exact .inl ⟨_, _, rfl, rfl, kE_now R (.bl _) q⟩
    · obtain ⟨ns, ms, e1, e2, q⟩ := q
      cases ints_eq e1
      cases ints_eq e2
      cases n1 with
      | tup s1 r1 _ =>
        cases n2 with
        | tup s2 r2 _ =>
          rw [den_ints r1] at s1
          rw [den_ints r2] at s2
          refine .inr ⟨_, _, ns, ms, rfl, rfl, SqT_mono R.sub s1.t, SqT_mono R.sub s2.t, ?_⟩
          rw [h]
          exact kE_now R (.bl _) q
    · exact q.elim
def dLt : R2D := dCmp (fun i j => decide (i < j)) HT.lexLt
def dGt : R2D := dCmp (fun i j => decide (j < i)) fun ns ms => HT.lexLt ms ns
def dLe : R2D := dCmp (fun i j => decide (i ≤ j)) fun ns ms => !HT.lexLt ms ns
def dGe : R2D := dCmp (fun i j => decide (j ≤ i)) fun ns ms => !HT.lexLt ns ms
theorem z_lt {K : PySem.W.Frag} : Rz K (fun x y H Q => rI0 (fun i j => .bl (decide (i < j))) x y H Q ∨ rCmpT K (lexG (fun x y => decide (x < y)) (fun a b => decide (a < b))) x y H Q) dLt := z_cmp (p := fun i j => decide (i < j)) lexG_lt
theorem z_gt {K : PySem.W.Frag} : Rz K (fun x y H Q => rI0 (fun i j => .bl (decide (j < i))) x y H Q ∨ rCmpT K (lexG (fun x y => decide (x > y)) (fun a b => decide (a > b))) x y H Q) dGt := z_cmp (p := fun i j => decide (j < i)) lexG_gt
theorem z_le {K : PySem.W.Frag} : Rz K (fun x y H Q => rI0 (fun i j => .bl (decide (i ≤ j))) x y H Q ∨ rCmpT K (lexG (fun x y => decide (x ≤ y)) (fun a b => decide (a ≤ b))) x y H Q) dLe := z_cmp (p := fun i j => decide (i ≤ j)) lexG_le
theorem z_ge {K : PySem.W.Frag} : Rz K (fun x y H Q => rI0 (fun i j => .bl (decide (j ≤ i))) x y H Q ∨ rCmpT K (lexG (fun x y => decide (x ≥ y)) (fun a b => decide (a ≥ b))) x y H Q) dGe := z_cmp (p := fun i j => decide (j ≤ i)) lexG_ge
mutual
/-- no list, no cell within; dicts are allowed -/
def D.okd : D → Bool
  | .non => true
  | .bl _ => true
  | .int _ => true
  | .str _ => true
  | .tup ds => D.okdL ds
  | .lst _ => false
  | .scr _ => false
  | .dct _ => true
  | .ref _ => false
  | .fn _ _ _ => false
  | .exc _ _ _ => false
def D.okdL : List D → Bool
  | [] => true
  | d :: r => d.okd && D.okdL r
end
mutual
inductive DpD (K : PySem.W.Frag) (H : Hp) : V → PyData → Prop
  | non : DpD K H .non .none
  | bl (b : Bool) : DpD K H (.bl b) (.bool b)
  | int (i : Int) : DpD K H (.int i) (.int i)
  | str (x : Str) : DpD K H (.str x) (.str x)
  | tup {a : Addr} {xs : List V} {ds : List PyData} : SqT K H a xs → DpDL K H xs ds → DpD K H (.ref a) (.tuple ds)
  | dct {a : Addr} {kvs : List (Key × Key)} : H a = some (.dK (kvs.map fun p => (p.1, kV p.2))) → DpD K H (.ref a) (.dict (kvs.map fun p => (kPy p.1, kPy p.2)))
inductive DpDL (K : PySem.W.Frag) (H : Hp) : List V → List PyData → Prop
  | nil : DpDL K H [] []
  | cons {v : V} {vs : List V} {d : PyData} {ds : List PyData} : DpD K H v d → DpDL K H vs ds → DpDL K H (v :: vs) (d :: ds)
end
theorem key_reads {h : Heap} {k : Key} {v : Value} (r : RelV (kV k) v) : Reads h v (kPy k) [] := by
  cases k with
  | inl i => obtain ⟨t, rfl⟩ := r; exact .int i t
  | inr x => obtain ⟨t, rfl⟩ := r; exact .str x t
theorem pairs_read {h : Heap} : ∀ (kvs : List (Key × Key)) (vs : List (Key × Value)), KV (kvs.map fun p => (p.1, kV p.2)) vs → PyProof.V.PairsRead h kPy vs (kvs.map fun p => (kPy p.1, kPy p.2)) []
  | [], vs, r => by rw [List.map_nil] at r; cases r; exact .nil
  | p :: kvs, vs, r => by
    rw [List.map_cons] at r
    cases r with
    | @cons a b as bs h1 t =>
      obtain ⟨b1, b2⟩ := b
      obtain ⟨e1, e2⟩ := h1
      subst e1
      exact .cons (as := []) (key_reads e2) (pairs_read kvs bs t)
section
variable {X : Cx} {pins : List (Addr × Obj)} {σ : L2.St} {H : Hp} {s : Shared}
mutual
theorem DpD.reads (I : Inv X pins σ H s) : ∀ {v : V} {d : PyData}, DpD X.K H v d → ∀ u : Value, RelV v u → ∃ as, Reads s.heap u d as ∧ sysModules ∉ as
  | _, _, .non, u, r => by cases r; exact ⟨_, .none, by simp⟩
  | _, _, .bl b, u, r => by cases r; exact ⟨_, .bool b, by simp⟩
  | _, _, .int i, u, r => by obtain ⟨t, rfl⟩ := r; exact ⟨_, .int i t, by simp⟩
  | _, _, .str x, u, r => by obtain ⟨t, rfl⟩ := r; exact ⟨_, .str x t, by simp⟩
  | _, _, .tup hs ha, u, r => by
    cases r
    obtain ⟨its, rv, ⟨o, ho, hc, n, hd⟩, _⟩ := I.tuple hs
    obtain ⟨as, hr, hn⟩ := DpDL.reads I ha its rv
    exact ⟨_, Reads.tuple ho hc hd hr, hn⟩
  | _, _, .dct e, u, r => by
    cases r
    obtain ⟨z, hs, vs, rk, hd⟩ := dk_of I.hok e
    refine ⟨_, PyProof.V.reads_dictOf (enc := kPy) (fun k key hk => key_reads (keyIs_rel hk)) hd (pairs_read _ vs rk), ?_⟩
    have hs := beq_eq_false_iff_ne.mp hs
    simp only [List.mem_singleton]
    exact fun z => hs z.symm
theorem DpDL.reads (I : Inv X pins σ H s) : ∀ {vs : List V} {ds : List PyData}, DpDL X.K H vs ds → ∀ us : List Value, Vals vs us → ∃ as, ReadsAll s.heap us ds as ∧ sysModules ∉ as
  | _, _, .nil, us, r => by cases r; exact ⟨_, .nil, by simp⟩
  | _, _, .cons h1 h2, us, r => by
    cases r with
    | cons r1 r2 =>
      obtain ⟨as, q1, n1⟩ := DpD.reads I h1 _ r1
      obtain ⟨bs, q2, n2⟩ := DpDL.reads I h2 _ r2
      exact ⟨_, .cons q1 q2, fun z => (List.mem_append.mp z).elim n1 n2⟩
end
end
section
variable {K : PySem.W.Frag} {io : List Addr} {F H : Hp}
mutual
theorem den_dpd (hs : ∀ a o, F a = some o → H a = some o) : ∀ {v : V} {d : D}, Den K io F v d → d.okd = true → DpD K H v d.py
  | _, _, .non, _ => by simp only [D.py]; exact .non
  | _, _, .bl b, _ => by simp only [D.py]; exact .bl b
  | _, _, .int i, _ => by simp only [D.py]; exact .int i
  | _, _, .str x, _ => by simp only [D.py]; exact .str x
  | _, _, .tup s r _, h => by simp only [D.py]; exact .tup (SqT_mono hs s.t) (den_dpdL hs r (by simpa only [D.okd] using h))
  | _, _, .dct e, _ => by simp only [D.py]; exact .dct (hs _ _ e)
  | _, _, .lst _ _ _, h => by simp [D.okd] at h
  | _, _, .scr _ _ _, h => by simp [D.okd] at h
  | _, _, .ref _, h => by simp [D.okd] at h
  | _, _, .fn _ _, h => by simp [D.okd] at h
theorem den_dpdL (hs : ∀ a o, F a = some o → H a = some o) : ∀ {vs : List V} {ds : List D}, DenL K io F vs ds → D.okdL ds = true → DpDL K H vs (D.pyL ds)
  | _, _, .nil, _ => .nil
  | _, _, .cons a b, h => by
    simp only [D.okdL, Bool.and_eq_true] at h
    exact .cons (den_dpd hs a h.1) (den_dpdL hs b h.2)
end
theorem rd_dpd {st : Sto} (R : RelH K H io F st) {v : V} {d : D} (n : Den K io F v d) (h : (rd st d).okd = true) : DpD K H v (rd st d).py := by
  have e : rd st d = d := by
    refine rd_not (fun ds e => ?_) fun n e => ?_ <;> (rw [e] at h; simp [D.okd] at h)
  rw [e] at h ⊢
  exact den_dpd R.sub n h
end
def rRepr (K : PySem.W.Frag) : List V → Hp → VK → Prop := fun xs H Q => ∃ x d, xs = [x] ∧ ((Dp K H x d ∧ d.canLay0 = true) ∨ DpD K H x d) ∧ d.showable = true ∧ d.depth ≤ 60 ∧ d.shown.length ≤ sizeLine ∧ Q (.str d.shown) H
theorem call_reprD {X : Cx} (hgd : X.A.guards = some []) (hu : X.A.units + 64 < cLine) : CallR X (.builtin "repr") (rRepr X.K) := by
  intro pins s σ H xs us Q I r h
  obtain ⟨x, d, rfl, hd, hs, hz, hl, q⟩ := h
  obtain ⟨u, rfl, ru⟩ := vals1 r
  have rd : ∃ as, Reads s.heap u d as ∧ (d.hasDict = true → sysModules ∉ as) := by
    rcases hd with ⟨hd, hc⟩ | hd
    · obtain ⟨as, rd⟩ := Dp.reads I d x u hd ru
      exact ⟨as, rd, PyData.noDict_hsm (PyData.hasDict_of_canLay d hc)⟩
    · obtain ⟨as, rd, n⟩ := DpD.reads I hd u ru
      exact ⟨as, rd, fun _ => n⟩
  obtain ⟨as, rd, hsm⟩ := rd
  cases x with
  | ref a =>
    cases ru
    exact repr_of_reads' rd hs hsm hgd (by omega) (fun b o e => e) (fun h' u tk hk => ⟨.str d.shown, H, I.kept hk, ⟨u, rfl⟩, q⟩) hl
  | non => cases ru; cases rd; exact PySem.P.repr_of_none ⟨.str _, H, I.tok _, ⟨_, rfl⟩, q⟩
  | bl b => cases ru; cases rd; exact PySem.P.repr_of_bool ⟨.str _, H, I.tok _, ⟨_, rfl⟩, q⟩
  | int i =>
    obtain ⟨t, rfl⟩ := ru
    cases rd
    exact PySem.P.repr_of_int (by simpa [PyData.showable] using hs) ⟨.str _, H, I.tok _, ⟨_, rfl⟩, q⟩
  | str z =>
    obtain ⟨t, rfl⟩ := ru
    cases rd
    exact PySem.P.repr_of_str ⟨.str _, H, I.tok _, ⟨_, rfl⟩, q⟩ hl
  | byt _ => rcases hd with ⟨hd, _⟩ | hd <;> cases hd
  | flt _ => rcases hd with ⟨hd, _⟩ | hd <;> cases hd
  | ty _ => rcases hd with ⟨hd, _⟩ | hd <;> cases hd
mutual
/-- all numbers below 10 ^ 12 -/
def D.sml : D → Bool
  | .non => true
  | .bl _ => true
  | .int i => decide (i.natAbs < 10 ^ 12)
  | .str s => PyData.leavesShort 13 (.str s)
  | .tup ds => D.smlL ds
  | .lst ds => D.smlL ds
  | .scr ds => D.smlL ds
  | .dct kvs => (PyData.dict (kvs.map fun p => (kPy p.1, kPy p.2))).leavesShort 13 && (PyData.dict (kvs.map fun p => (kPy p.1, kPy p.2))).showable
  | .ref _ => false
  | .fn _ _ _ => false
  | .exc _ _ _ => false
def D.smlL : List D → Bool
  | [] => true
  | d :: r => d.sml && D.smlL r
end
mutual
/-- how many things -/
def D.blk : D → Nat
  | .str s => s.cps.size
  | .tup ds => D.blkL ds
  | .lst ds => D.blkL ds
  | .scr ds => D.blkL ds
  | .non => 0
  | .bl _ => 0
  | .int _ => 0
  | .dct kvs => (PyData.dict (kvs.map fun p => (kPy p.1, kPy p.2))).bulk
  | .ref _ => 0
  | .fn _ _ _ => 0
  | .exc _ _ _ => 0
def D.blkL : List D → Nat
  | [] => 0
  | d :: r => d.blk + 1 + D.blkL r
end
mutual
theorem py_blk : ∀ d : D, d.py.bulk = d.blk
  | .non => rfl
  | .bl _ => rfl
  | .int _ => rfl
  | .str _ => rfl
  | .dct _ => rfl
  | .ref _ => rfl
  | .fn _ _ _ => rfl
  | .exc _ _ _ => rfl
  | .tup ds => by simp only [D.py, PyData.bulk, D.blk]; rw [pyL_blk ds]
  | .lst ds => by simp only [D.py, PyData.bulk, D.blk]; rw [pyL_blk ds]
  | .scr ds => by simp only [D.py, PyData.bulk, D.blk]; rw [pyL_blk ds]
theorem pyL_blk : ∀ ds : List D, PyData.bulkAll (D.pyL ds) = D.blkL ds
  | [] => rfl
  | d :: r => by simp only [D.pyL, PyData.bulkAll, D.blkL]; rw [py_blk d, pyL_blk r]
end
mutual
theorem py_short : ∀ d : D, d.sml = true → d.py.leavesShort 13 = true ∧ d.py.showable = true
  | .non, _ => ⟨rfl, rfl⟩
  | .bl _, _ => ⟨rfl, rfl⟩
  | .int i, h => by
    have h' : i.natAbs < 10 ^ 12 := by simpa [D.sml] using h
    refine ⟨?_, ?_⟩
    · simp only [D.py, PyData.leavesShort, decide_eq_true_eq]
      exact PyData.shown_int_le h'
    · simp only [D.py, PyData.showable, decide_eq_true_eq]
      have : i.natAbs.log2 ≤ 40 := by
        by_cases h0 : i.natAbs = 0
        · rw [h0]; decide
        · have : i.natAbs.log2 < 41 := (Nat.log2_lt h0).mpr (by omega)
          omega
      omega
  | .str s, h => ⟨by simpa [D.py, D.sml] using h, rfl⟩
  | .tup ds, h => by simp only [D.py, PyData.leavesShort, PyData.showable]; exact pyL_short ds (by simpa only [D.sml] using h)
  | .lst ds, h => by simp only [D.py, PyData.leavesShort, PyData.showable]; exact pyL_short ds (by simpa only [D.sml] using h)
  | .scr ds, h => by simp only [D.py, PyData.leavesShort, PyData.showable]; exact pyL_short ds (by simpa only [D.sml] using h)
  | .dct kvs, h => by
    simp only [D.sml, Bool.and_eq_true] at h
    exact h
  | .ref _, h => by simp [D.sml] at h
theorem pyL_short : ∀ ds : List D, D.smlL ds = true → PyData.leavesShortAll 13 (D.pyL ds) = true ∧ PyData.showableAll (D.pyL ds) = true
  | [], _ => ⟨rfl, rfl⟩
  | d :: r, h => by
    simp only [D.smlL, Bool.and_eq_true] at h
    have h1 := py_short d h.1
    have h2 := pyL_short r h.2
    simp only [D.pyL, PyData.leavesShortAll, PyData.showableAll, Bool.and_eq_true]
    exact ⟨⟨h1.1, h2.1⟩, h1.2, h2.2⟩
end
/-- may be shown -/
structure D.Fit (d : D) : Prop where
  ok : d.ok = true ∨ d.okd = true
  can : d.py.showable = true
  len : d.py.shown.length ≤ sizeLine
  dep : d.dep ≤ 60
theorem fit_mk' {d : D} (ok : d.ok = true ∨ d.okd = true) (sml : d.sml = true) (blk : d.blk ≤ 1000000) (dep : d.dep ≤ 60) : d.Fit := by
  have hs := py_short _ sml
  refine ⟨ok, hs.2, ?_, dep⟩
  refine PyData.shown_fits_bulk (B := 13) (by decide) (by decide) hs.1 ?_
  rw [py_blk]
  omega
theorem fit_mk {d : D} (ok : d.ok = true) (sml : d.sml = true) (blk : d.blk ≤ 1000000) (dep : d.dep ≤ 60) : d.Fit := fit_mk' (.inl ok) sml blk dep
def D.rep (d : D) : Str := d.py.shown
def bRepr : RLD := fun ds st Q => ∃ d, ds = [d] ∧ (rd st d).Fit ∧ Q (.str (rd st d).rep) st
theorem z_repr {K : PySem.W.Frag} : RzL K (rRepr K) bRepr where
  mo := fun ds s Q Q' h ⟨d, e, f, q⟩ => ⟨d, e, f, h _ _ q⟩
  on := fun {H io F st vs ds Q} R nl ⟨d, e, f, q⟩ => by
    subst e
    obtain ⟨v, rfl, n⟩ := nl.one
    exact ⟨v, _, rfl, f.ok.imp (fun ok => ⟨rd_dp R n ok, py_ok _ ok⟩) (fun ok => rd_dpd R n ok), f.can, by rw [py_dep]; exact f.dep, f.len, kE_now R (.str _) q⟩
def wFrz (i : Nat) : DE := fun env st Q => ∃ n ds, env[i]? = some (some (.ref n)) ∧ st[n]? = some (.lst ds) ∧ Q (.lst ds) (st.set n .dead)
theorem we_frz {X : Cx} {pos : Pos} {i : Nat} {x : Str} (hN : X.N[i]? = some x) (hv : Vis X.env.scope x) (hd : (x == ("__debug__" : Str)) = false := by decide) (hcd : (x == ("__classdict__" : Str)) = false := by decide) : WE X (.Name x pos) (wFrz i) := by
  refine ⟨fun e s Q Q' h ⟨n, ds, h1, h2, q⟩ => ⟨n, ds, h1, h2, h _ _ q⟩, PE_imp (pe_var hN hv hd hcd) fun σ H Q ⟨env, io, F, st, R, n, ds, e1, e2, q⟩ => ?_⟩
  obtain ⟨v, h1, h2⟩ := R.slot i _ e1
  refine ⟨v, h1, ?_⟩
  cases h2 with
  | @ref a _ h =>
    obtain ⟨xs, h3, h4, h5⟩ := R.at h e2
    have hF : F a = none := (R.cel n _ a e2 h).1
    have fr : ∀ b u, F b = some u → upd F a (.lst xs) b = some u := fun b u e => by
      rw [upd_ne (fun z => by subst z; rw [hF] at e; cases e)]; exact e
    have hmem := List.mem_of_getElem? h
    refine q _ io (upd F a (.lst xs)) H ⟨⟨[], by simp, fun _ h => by cases h⟩, fr, fun _ _ h _ _ => h, fun _ o h => ⟨o, h⟩, fun b u e => ?_⟩ ⟨fun b u e => ?_, by rw [List.length_set]; exact R.len, R.nd, R.there, fun m c b hm hb => ?_, fun q hq => let ⟨t1, t2, ps, t3, t4, t5⟩ := R.tab q hq; ⟨by rw [upd_ne (fun z => by rw [z] at t2; exact t2 hmem)]; exact t1, t2, ps, t3, t4, fun pos cv hc => let ⟨c, e1, e2⟩ := t5 pos cv hc; ⟨c, e1, fr _ _ e2⟩⟩⟩ (.lst upd_same (h4.mono (fun _ _ h => h) fr) h5)
    · by_cases z : b = a
      · subst z; exact .inr (.inr hmem)
      · rw [upd_ne z] at e; exact .inl e
    · by_cases z : b = a
      · subst z; rw [upd_same] at e; cases e; exact h3
      · rw [upd_ne z] at e; exact R.sub _ _ e
    · by_cases z : m = n
      · subst z
        have hl : m < st.length := by rw [← R.len]; exact (List.getElem?_eq_some_iff.mp h).1
        rw [List.getElem?_set_self hl] at hm
        cases hm
        trivial
      · rw [List.getElem?_set_ne (Ne.symm z)] at hm
        have ne : b ≠ a := fun e => by subst e; exact z (nodup_at R.nd hb h)
        have := R.cel m c b hm hb
        cases c with
        | lst ds => obtain ⟨q1, q2, vs, q3, q4⟩ := this; exact ⟨by rw [upd_ne ne]; exact q1, q2, vs, q3, q4.mono (fun _ _ h => h) fr⟩
        | dead => trivial
        | ins C fs => obtain ⟨q1, cc, dx, fv, qc, q3, q4⟩ := this; exact ⟨by rw [upd_ne ne]; exact q1, cc, dx, fv, qc, q3, Paired.mapP q4 fun _ _ z => ⟨z.1, z.2.mono (fun _ _ h => h) fr⟩⟩
        | dct b kvs => obtain ⟨q1, q2, u, q3, q4⟩ := this; exact ⟨by rw [upd_ne ne]; exact q1, q2, u, q3, q4⟩
theorem tup_mul_same (l : Addr) (items : Array Value) (n : Nat) (dd : Option Addr) (sl : Array (Option Value)) (x : Int) (u : Tok) (c0 : (decide (x < -(2 ^ 63)) || decide (x ≥ 2 ^ 63)) = false) (c1 : (items.isEmpty || x == 1) = true) :
    Meets (Builtin.«tuple.__mul__» ⟨[.ref l, .int x u], []⟩) (fun _ R s => s.heap.get? l = some { cls := .type "tuple", dict := dd, data := .seq items n, slots := sl } ∧ R (.ok (.ret (Value.ref l))) s) :=
  .of_wp fun prog w A R s h => by
    obtain ⟨hp, g, d, tk, os⟩ := s
    obtain ⟨hl, h⟩ := h
    have f1 := AutoSeq1.idx_int
    have hT : (⟨hp, g, d, tk, os⟩ : Shared).TypeIs (.ref l) "tuple" := ⟨_, hl, rfl⟩
    wp_walk using wpAny_loadPart' hl
    repeat (first
      | (refine wpAny_ite_false (decide_eq_false (by rw [c0]; exact Bool.false_ne_true)) ?_; wp_walk using wpAny_loadPart' hl)
      | (refine wpAny_ite_true (decide_eq_true c1) ?_; wp_walk using wpAny_loadPart' hl))
    exact ⟨_, rfl, h⟩
theorem tup_mul_none (l : Addr) (items : Array Value) (n : Nat) (dd : Option Addr) (sl : Array (Option Value)) (x : Int) (u : Tok) (c0 : (decide (x < -(2 ^ 63)) || decide (x ≥ 2 ^ 63)) = false) (c1 : (items.isEmpty || x == 1) = false) (c2 : (decide (x ≤ 0) || items.isEmpty) = true) :
    Meets (Builtin.«tuple.__mul__» ⟨[.ref l, .int x u], []⟩) (fun _ R s => s.heap.get? l = some { cls := .type "tuple", dict := dd, data := .seq items n, slots := sl } ∧
      R (.ok (.ret (Value.ref s.heap.objs.size))) { s with heap := s.heap.push { cls := Value.type "tuple", data := Data.seq #[] }, toks := s.toks }) :=
  .of_wp fun prog w A R s h => by
    obtain ⟨hp, g, d, tk, os⟩ := s
    obtain ⟨hl, h⟩ := h
    have f1 := AutoSeq1.idx_int
    wp_walk using wpAny_loadPart' hl
    repeat (first
      | (refine wpAny_ite_false (decide_eq_false (by rw [c0]; exact Bool.false_ne_true)) ?_; wp_walk using wpAny_loadPart' hl)
      | (refine wpAny_ite_false (decide_eq_false (by rw [c1]; exact Bool.false_ne_true)) ?_; wp_walk using wpAny_loadPart' hl)
      | (refine wpAny_ite_true (decide_eq_true c2) ?_; wp_walk using wpAny_loadPart' hl))
    exact ⟨_, rfl, h⟩
def rRep1 (K : PySem.W.Frag) : R2 := fun x y H Q => ∃ l k xs, x = .ref l ∧ y = .int k ∧ SqT K H l xs ∧ -(2 ^ 63) ≤ k ∧ k < 2 ^ 63 ∧ (((xs = [] ∨ k = 1) ∧ Q (.ref l) H) ∨ (xs ≠ [] ∧ k ≤ 0 ∧ XtK H Q []) ∨ (xs ≠ [] ∧ 2 ≤ k ∧ k ≤ 1000 ∧ xs.length ≤ 1000 ∧ XtK H Q (List.replicate k.toNat xs).flatten))
theorem op_rep1 {X : Cx} : OpR X (binaryOp .Mult) (rRep1 X.K) := by
  intro pins s σ H x y v u Q I rx ry h
  obtain ⟨l, k, xs, rfl, rfl, hT, k0, k1, h⟩ := h
  cases rx
  obtain ⟨t, rfl⟩ := ry
  obtain ⟨its, r, ⟨⟨cls, dd, data, sl⟩, ho, hc, n, hd⟩, hs⟩ := I.tuple hT
  simp only at hc hd
  subst hc hd
  have c0 : (decide (k < -(2 ^ 63)) || decide (k ≥ 2 ^ 63)) = false := by
    rw [decide_eq_false (by omega), decide_eq_false (by omega)] <;> rfl
  have emp : its.toArray.isEmpty = decide (xs = []) := by
    cases r with
    | nil => rfl
    | cons _ _ => rfl
  have road : ∀ {Q₁ : Value → Shared → Prop}, wpAny (model X.prog X.w) X.A (call (.builtin "tuple.__mul__") [.ref l, .int k t]) Q₁ X.xe s → wpAny (model X.prog X.w) X.A (binaryOp .Mult (.ref l) (.int k t)) Q₁ X.xe s := fun {Q₁} hq =>
    wpAny_binaryOp_repeat_ref (T := "tuple") (U := "int") (by decide) ⟨_, ho, rfl⟩ (fun s' => typeIs_int s' k t) noFill_tuple_mul F.fills_int_mul F.slot_int_rmul repeat_tuple F.slot_int_index.lookup
      (call_meets F.slot_int_rmul (typeIs_int s k t) F.entry_int_rmul (F.args_int_rmul_2 _ _) (int_rmul_tuple k t l its.toArray n dd sl) ⟨ho, rfl, ⟨_, ho, rfl⟩, hq⟩)
  rcases h with ⟨hk, q⟩ | ⟨hne, hk, q⟩ | ⟨hne, hk, hk2, hx, q⟩
  · refine road (call_meets F.slot_tuple_mul ⟨_, ho, rfl⟩ F.entry_tuple_mul (F.args_tuple_mul_2 _ _) (tup_mul_same l its.toArray n dd sl k t c0 ?_) ⟨ho, .ref l, H, I, rfl, q⟩)
    rw [emp]
    rcases hk with e | e
    · rw [decide_eq_true e]; rfl
    · subst e; exact Bool.or_true _
  · have e1 : (its.toArray.isEmpty || k == 1) = false := by
      rw [emp, decide_eq_false hne, Bool.false_or]
      exact beq_eq_false_iff_ne.mpr (by omega)
    refine road (call_meets F.slot_tuple_mul ⟨_, ho, rfl⟩ F.entry_tuple_mul (F.args_tuple_mul_2 _ _) (tup_mul_none l its.toArray n dd sl k t c0 e1 ?_) ⟨ho, ?_⟩)
    · rw [decide_eq_true hk]; rfl
    · exact new_tup (its := []) I (Nat.zero_le _) .nil q
  · have le := r.length
    have e0 : its.toArray.isEmpty = false := by rw [emp]; exact decide_eq_false hne
    have e1 : (its.toArray.isEmpty || k == 1) = false := by rw [e0, Bool.false_or]; exact beq_eq_false_iff_ne.mpr (by omega)
    have e2 : (decide (k ≤ 0) || its.toArray.isEmpty) = false := by rw [e0, Bool.or_false]; exact decide_eq_false (by omega)
    have mm : k.toNat * xs.length ≤ 1000 * 1000 := Nat.mul_le_mul (by omega) hx
    have sz : its.toArray.size = xs.length := by rw [List.size_toArray]; exact le.symm
    have ml : ((its.toArray.size : Nat) : Int) * k ≤ 1000000 := by
      rw [sz, show k = ((k.toNat : Nat) : Int) by omega, ← Int.natCast_mul, Nat.mul_comm]
      omega
    have fl : (List.replicate k.toNat its).flatten.length ≤ sizeLine := by rw [PyProof.Rows.lm_len_rep_flat, ← le, sizeLine_eq]; omega
    refine road (call_meets F.slot_tuple_mul ⟨_, ho, rfl⟩ F.entry_tuple_mul (F.args_tuple_mul_2 _ _) (tuple_mulW l its.toArray n dd sl k t c0 e1 e2 (by omega) (by unfold Builtin.Tuple.tupleTooMany; rw [sizeLine_eq]; exact decide_eq_false (by omega)) (by rw [size_rep, List.size_toArray]; exact fl)) ⟨ho, ?_⟩)
    rw [size_rep]
    exact new_tup I (by rw [PyProof.Rows.lm_len_rep_flat, sizeLine_eq]; omega) (r.rep k.toNat) q
def dMul : R2D := fun a b st Q => match rd st a, b with
  | .int i, .int j => CMul i j ∧ Q (.int (i * j)) st
  | .lst x, .int k => -(2 ^ 63) ≤ k ∧ k < 2 ^ 63 ∧ x.length * k.toNat ≤ sizeLine ∧ Q (.lst (List.replicate k.toNat x).flatten) st
  | .tup x, .int k => -(2 ^ 63) ≤ k ∧ k ≤ 1000 ∧ x.length ≤ 1000 ∧ Q (.tup (List.replicate k.toNat x).flatten) st
  | _, _ => False
/-- a list whose cell is one's own -/
def dMulM : R2D := fun a b st Q => ∃ x k, rd st a = .lst x ∧ b = .int k ∧ -(2 ^ 63) ≤ k ∧ k < 2 ^ 63 ∧ x.length * k.toNat ≤ sizeLine ∧ Q (.ref st.length) (st ++ [.lst (List.replicate k.toNat x).flatten])
def rMulD (K : PySem.W.Frag) : R2 := fun x y H Q => rI CMul (fun i j => .int (i * j)) x y H Q ∨ rRep x y H Q ∨ rRep1 K x y H Q
theorem op_mulD {X : Cx} : OpR X (binaryOp .Mult) (rMulD X.K) := op_mul.or (op_rep.or op_rep1)
theorem flat_len {α : Type} (x : List α) : ∀ n : Nat, (List.replicate n x).flatten.length = x.length * n
  | 0 => by simp
  | n + 1 => by rw [List.replicate_succ, List.flatten_cons, List.length_append, flat_len x n, Nat.mul_succ, Nat.add_comm]
theorem flat_nil {α : Type} : ∀ n : Nat, (List.replicate n ([] : List α)).flatten = []
  | 0 => rfl
  | n + 1 => by rw [List.replicate_succ, List.flatten_cons, flat_nil n]; rfl
theorem z_mul {X : Cx} : Rz X.K (rMulD X.K) dMul where
  mo := fun a b s Q Q' h q => by
    unfold dMul at q ⊢
    split at q
    · exact ⟨q.1, h _ _ q.2⟩
    · exact ⟨q.1, q.2.1, q.2.2.1, h _ _ q.2.2.2⟩
    · exact ⟨q.1, q.2.1, q.2.2.1, h _ _ q.2.2.2⟩
    · exact q
  on := fun {H io F st x y a b Q} R n1 n2 q => by
    unfold dMul at q
    split at q
    · rename_i i j e1
      cases rd_int e1
      cases n1
      cases n2
      exact .inl ⟨_, _, rfl, rfl, q.1, kE_now R (.int _) q.2⟩
    · rename_i xs k e1
      obtain ⟨p, vs, rfl, h1, h2, h3⟩ := rd_lst R n1 e1
      cases n2
      exact .inr (.inl ⟨p, k, vs, rfl, rfl, h1, q.1, q.2.1, by rw [h2.length]; exact q.2.2.1, lay_lst R (h2.flat _) (by rw [flat_len]; exact q.2.2.1) q.2.2.2⟩)
    · rename_i xs k e1
      cases rd_tup e1
      cases n2
      cases n1 with
      | @tup p vs _ s r z =>
        obtain ⟨q1, q2, q3, q⟩ := q
        have hz : (List.replicate k.toNat xs).flatten.length ≤ sizeLine := by
          rw [flat_len, sizeLine_eq]
          have : xs.length * k.toNat ≤ 1000 * 1000 := Nat.mul_le_mul q3 (by omega)
          omega
        by_cases hx : xs = []
        · subst hx
          cases r
          rw [flat_nil] at q
          exact .inr (.inr ⟨p, k, [], rfl, rfl, SqT_mono R.sub s.t, q1, by omega, .inl ⟨.inl rfl, kE_now R (.tup s .nil z) q⟩⟩)
        · have hv : vs ≠ [] := fun e => hx (by subst e; cases r; rfl)
          by_cases h1 : k = 1
          · subst h1
            have e : (List.replicate (1 : Int).toNat xs).flatten = xs := by simp
            rw [e] at q
            exact .inr (.inr ⟨p, 1, vs, rfl, rfl, SqT_mono R.sub s.t, by omega, by omega, .inl ⟨.inr rfl, kE_now R (.tup s r z) q⟩⟩)
          · by_cases h0 : k ≤ 0
            · have e : k.toNat = 0 := by omega
              rw [e] at q
              exact .inr (.inr ⟨p, k, vs, rfl, rfl, SqT_mono R.sub s.t, by omega, by omega, .inr (.inl ⟨hv, h0, lay_tup R .nil (Nat.zero_le _) q⟩)⟩)
            · exact .inr (.inr ⟨p, k, vs, rfl, rfl, SqT_mono R.sub s.t, by omega, by omega, .inr (.inr ⟨hv, by omega, q2, by rw [r.length]; exact q3, lay_tup R (r.flat _) hz q⟩)⟩)
    · exact q.elim
theorem z_mulM {X : Cx} : Rz X.K (rMulD X.K) dMulM where
  mo := fun a b s Q Q' h ⟨x, k, e1, e2, h1, h2, h3, q⟩ => ⟨x, k, e1, e2, h1, h2, h3, h _ _ q⟩
  on := fun {H io F st x y a b Q} R n1 n2 ⟨xs, k, e1, e2, q1, q2, q3, q⟩ => by
    subst e2
    obtain ⟨p, vs, rfl, h1, h2, h3⟩ := rd_lst R n1 e1
    cases n2
    exact .inr (.inl ⟨p, k, vs, rfl, rfl, h1, q1, q2, by rw [h2.length]; exact q3, lay_cell R (h2.flat _) (by rw [flat_len]; exact q3) q⟩)
end DL
namespace DL
open PySem PySem.Spec PyProof.Rows L2
variable [Bs]
theorem bb_len : bootBuiltins "len" = some (.builtin "len") := by decide +kernel
theorem bb_abs : bootBuiltins "abs" = some (.builtin "abs") := by decide +kernel
theorem bb_repr : bootBuiltins "repr" = some (.builtin "repr") := by decide +kernel
theorem bb_min : bootBuiltins "min" = some (.builtin "min") := by decide +kernel
theorem bb_int : bootBuiltins "int" = some (.type "int") := by decide +kernel
theorem bb_bool : bootBuiltins "bool" = some (.type "bool") := by decide +kernel
theorem bb_tuple : bootBuiltins "tuple" = some (.type "tuple") := by decide +kernel
theorem hu1 {k : Nat} {A : Around} (hr : Room k A) : A.units + 65 < cLine := by have := hr.un; omega
/-- a law's def, at the end -/
theorem law_end {K : PySem.W.Frag} {S : Spec} (hn : S.n = 1) (g : List Int → S.G) (ha : ∀ ns, S.args (g ns) = [.scr (ns.map .int)]) (hpre : ∀ ns : List Int, ns.length ≤ 63 → S.pre (g ns) []) (hpost : ∀ x st d st', S.post x st d st' → d = .bl true) (H : Hp) (a : Addr) (ns : List Int) (hl : ns.length ≤ 63) (hT : ∀ p ∈ tabCs K, H p.2 = some (.tbl #[])) (hS : SqL K H a (ns.map V.int)) :
    spOf K S [.ref a] H (fun v _ => v = .bl true) fun _ _ _ => False := by
  have den : ∀ ns : List Int, DenL K [] H (ns.map V.int) (ns.map D.int) := fun ns => by
    induction ns with
    | nil => exact .nil
    | cons n r ih => exact .cons (.int n) ih
  have hz : (ns.map D.int).length ≤ sizeLine := by rw [List.length_map, sizeLine_eq]; omega
  let F : Hp := fun b => match H b with
    | some (.tbl _) => none
    | o => o
  have fS : ∀ b o, F b = some o → H b = some o := fun b o e => by
    have e : (match H b with | some (.tbl _) => none | o => o) = some o := e
    split at e
    · cases e
    · exact e
  have fN : ∀ b o, H b = some o → (∀ ps, o ≠ .tbl ps) → F b = some o := fun b o e n => by
    show (match H b with | some (.tbl _) => none | o => o) = some o
    rw [e]
    cases o <;> first | rfl | exact absurd rfl (n _)
  have sq : SqL K F a (ns.map V.int) := by
    rcases hS with (h | ⟨o, h⟩) | h
    · exact .inl (.inl (fN _ _ h fun _ z => nomatch z))
    · exact .inl (.inr ⟨o, fN _ _ h fun _ z => nomatch z⟩)
    · exact .inr h
  have ht : ∀ p ∈ tabsOf K, F p.1 = none ∧ p.1 ∉ ([] : List Addr) ∧ ∃ ps, H p.1 = some (.tbl ps) ∧ TriplesOk ps.toList ∧ ∀ (pos : Pos) (cv : Value), codeAmong pos ps.toList = some cv → ∃ c, cv = .ref c ∧ F c = some (LamX.CodeO c p.2) := fun p hp => by
    obtain ⟨c, hc⟩ := tabs_cs hp
    have hH := hT _ hc
    refine ⟨?_, by simp, #[], hH, True.intro, fun pos cv h => ?_⟩
    · show (match H p.1 with | some (.tbl _) => none | o => o) = none
      have hH : H p.1 = some (.tbl #[]) := hH
      rw [hH]
    · have : codeAmong pos [] = some cv := h
      simp [codeAmong] at this
  have den : ∀ ns : List Int, DenL K [] F (ns.map V.int) (ns.map D.int) := fun ns => by
    induction ns with
    | nil => exact .nil
    | cons n r ih => exact .cons (.int n) ih
  refine ⟨g ns, [], F, [], by rw [ha, hn]; rfl, ⟨fS, rfl, List.nodup_nil, (fun _ h => nomatch h), (fun n c e h1 h2 => by simp at h1), ht⟩, by rw [ha]; exact .cons (.scr sq (den ns) hz) .nil, hpre ns hl, fun d st' h => ?_⟩
  · have e := hpost _ _ _ _ h
    subst e
    intro v io' F' H' s r n
    cases n
    rfl
end DL
namespace DL
open PySem PySem.Spec PyProof.Rows L2
variable [Bs]
theorem compL_inv {G : Sto → Prop} {t : Tg} {c : DT} {w : DE} {env : En} {Q : LK} {ds : List D} (I : Nat → Sto → List D → Prop)
    (step : ∀ i st acc d, I i st acc → ds[i]? = some d → ∀ R : Sto → List D → Prop, (∀ s a, I (i + 1) s a → R s a) → G st ∧ t.dg d env st fun e s => c e s fun b s1 => if b = true then w e s1 fun x s2 => R s2 (acc ++ [x]) else R s1 acc)
    (fin : ∀ st acc, I ds.length st acc → G st ∧ Q acc st) (st : Sto) (acc : List D) (h : I 0 st acc) : wCompL G t c w env ds st acc Q := by
  have key : ∀ (n i : Nat) (st : Sto) (acc : List D), i + n = ds.length → I i st acc → wCompL G t c w env (ds.drop i) st acc Q := fun n => by
    induction n with
    | zero =>
      intro i st acc e hI
      have e' : i = ds.length := by omega
      subst e'
      rw [List.drop_length]
      exact fin st acc hI
    | succ n ih =>
      intro i st acc e hI
      have hlt : i < ds.length := by omega
      rw [List.drop_eq_getElem_cons hlt]
      exact step i st acc _ hI (List.getElem?_eq_getElem hlt) (fun s a => wCompL G t c w env (ds.drop (i + 1)) s a Q) fun s a h => ih (i + 1) s a (by omega) h
  have := key ds.length 0 st acc (by omega) h
  rwa [List.drop_zero] at this
theorem forL_inv {G : Sto → Prop} {g : DG} {b : DS} {A : DEnds} {ds : List D} (I : Nat → En → Sto → Prop)
    (step : ∀ i env st d, I i env st → ds[i]? = some d → ∀ R : En → Sto → Prop, (∀ e s, I (i + 1) e s → R e s) → G st ∧ g d env st fun e s => b { nx := R, rt := A.rt, bk := A.nx, ct := R } e s)
    (fin : ∀ env st, I ds.length env st → G st ∧ A.nx env st) (env : En) (st : Sto) (h : I 0 env st) : wForL G g b A ds env st := by
  have key : ∀ (n i : Nat) (env : En) (st : Sto), i + n = ds.length → I i env st → wForL G g b A (ds.drop i) env st := fun n => by
    induction n with
    | zero =>
      intro i env st e hI
      have e' : i = ds.length := by omega
      subst e'
      rw [List.drop_length]
      exact fin env st hI
    | succ n ih =>
      intro i env st e hI
      have hlt : i < ds.length := by omega
      rw [List.drop_eq_getElem_cons hlt]
      exact step i env st _ hI (List.getElem?_eq_getElem hlt) (wForL G g b A (ds.drop (i + 1))) fun e s h => ih (i + 1) e s (by omega) h
  have := key ds.length 0 env st (by omega) h
  rwa [List.drop_zero] at this
/-- a comprehension that leaves the store, over encoded items -/
theorem compL_map {α : Type} {G : Sto → Prop} {t : Tg} {c : DT} {w : DE} {env : En} {Q : LK} {st : Sto} (enc : α → D) (f : α → Option D) (hG : G st) :
    ∀ (xs : List α) (acc : List D), (∀ x ∈ xs, ∀ R : Option D → Sto → Prop, R (f x) st → t.dg (enc x) env st fun e s => c e s fun b s1 => if b = true then w e s1 fun y s2 => R (some y) s2 else R none s1) →
    Q (acc ++ xs.filterMap f) st → wCompL G t c w env (xs.map enc) st acc Q
  | [], acc, _, q => ⟨hG, by simpa using q⟩
  | x :: xs, acc, step, q => by
    refine ⟨hG, step x List.mem_cons_self (fun o s => match o with | some y => wCompL G t c w env (xs.map enc) s (acc ++ [y]) Q | none => wCompL G t c w env (xs.map enc) s acc Q) ?_⟩
    cases e : f x with
    | some y =>
      refine compL_map enc f hG xs _ (fun z hz => step z (List.mem_cons_of_mem _ hz)) ?_
      rw [List.filterMap_cons, e] at q
      rwa [List.append_assoc]
    | none =>
      refine compL_map enc f hG xs _ (fun z hz => step z (List.mem_cons_of_mem _ hz)) ?_
      rw [List.filterMap_cons, e] at q
      exact q
theorem rangeD_at {lo : Int} {n i : Nat} {d : D} (h : (rangeD lo n)[i]? = some d) : i < n ∧ d = .int (lo + i) := by
  unfold rangeD at h
  rw [List.getElem?_map] at h
  cases e : (List.range n)[i]? with
  | none => rw [e] at h; cases h
  | some j =>
    rw [e] at h
    cases h
    obtain ⟨h1, h2⟩ := List.getElem?_eq_some_iff.mp e
    rw [List.length_range] at h1
    rw [List.getElem_range] at h2
    subst h2
    exact ⟨h1, rfl⟩
@[simp] theorem rangeD_len (lo : Int) (n : Nat) : (rangeD lo n).length = n := by simp [rangeD]
def rangeI (lo : Int) (n : Nat) : List Int := (List.range n).map fun (i : Nat) => lo + i
theorem rangeD_eq (lo : Int) (n : Nat) : rangeD lo n = (rangeI lo n).map D.int := by simp [rangeD, rangeI]
theorem mem_rangeI {lo x : Int} {n : Nat} : x ∈ rangeI lo n ↔ lo ≤ x ∧ x < lo + n := by
  unfold rangeI
  rw [List.mem_map]
  constructor
  · rintro ⟨i, hi, rfl⟩
    rw [List.mem_range] at hi
    omega
  · rintro ⟨h1, h2⟩
    exact ⟨(x - lo).toNat, List.mem_range.mpr (by omega), by omega⟩
@[simp] theorem rangeI_len (lo : Int) (n : Nat) : (rangeI lo n).length = n := by simp [rangeI]
@[simp] theorem rd_int' (st : Sto) (i : Int) : rd st (.int i) = .int i := rfl
@[simp] theorem rd_bl' (st : Sto) (i : Bool) : rd st (.bl i) = .bl i := rfl
@[simp] theorem rd_str' (st : Sto) (i : Str) : rd st (.str i) = .str i := rfl
@[simp] theorem rd_tup' (st : Sto) (i : List D) : rd st (.tup i) = .tup i := rfl
@[simp] theorem rd_lst' (st : Sto) (i : List D) : rd st (.lst i) = .lst i := rfl
@[simp] theorem rd_scr' (st : Sto) (i : List D) : rd st (.scr i) = .scr i := rfl
@[simp] theorem rd_non' (st : Sto) : rd st .non = .non := rfl
theorem rd_ref' {st : Sto} {n : Nat} {ds : List D} (h : st[n]? = some (.lst ds)) : rd st (.ref n) = .lst ds := by
  unfold rd; simp only [h]
theorem atI_of {α : Type} {xs : List α} {i : Int} {x : α} (h0 : 0 ≤ i) (h : xs[i.toNat]? = some x) : atI xs i = some x := by
  have hl := (List.getElem?_eq_some_iff.mp h).1
  unfold atI ixN
  rw [if_pos h0, if_pos (by omega)]
  exact h
theorem atI_map {α β : Type} {f : α → β} {xs : List α} {i : Int} {x : α} (h : atI xs i = some x) : atI (xs.map f) i = some (f x) := by
  unfold atI at h ⊢
  rw [List.length_map]
  cases e : ixN xs.length i with
  | none => rw [e] at h; cases h
  | some j =>
    rw [e] at h
    show (xs.map f)[j]? = _
    rw [List.getElem?_map, show xs[j]? = some x from h]
    rfl
end DL
namespace DL
open PySem PySem.Spec PyProof.Rows L2
variable [Bs]
section
variable {C : Int → Int → Prop} {g : Int → Int → D} {i j : Int} {st : Sto} {Q : DK} {env : En} {a b : D} {ds es : List D}
theorem v_dI : dI C g (.int i) (.int j) st Q = (C i j ∧ Q (g i j) st) := propext ⟨fun ⟨_, _, e1, e2, c, q⟩ => by cases e1; cases e2; exact ⟨c, q⟩, fun ⟨c, q⟩ => ⟨_, _, rfl, rfl, c, q⟩⟩
theorem v_sub : dSub (.int i) (.int j) st Q = Q (.int (i - j)) st := by unfold dSub; rw [v_dI]; simp
theorem v_mod : dMod (.int i) (.int j) st Q = (0 < j ∧ Q (.int (i % j)) st) := v_dI
theorem v_fdiv : dFdiv (.int i) (.int j) st Q = ((0 < j ∧ j < 2 ^ 62) ∧ Q (.int (i / j)) st) := v_dI
theorem v_pow : dPow (.int i) (.int j) st Q = ((0 ≤ j ∧ j ≤ 1000000 ∧ i.natAbs < 2 ^ 64) ∧ Q (.int (i ^ j.toNat)) st) := v_dI
theorem v_iadd : dI T2 (fun i j => .int (i + j)) (.int i) (.int j) st Q = Q (.int (i + j)) st := by rw [v_dI]; simp
theorem v_add : dAdd (.int i) (.int j) st Q = Q (.int (i + j)) st := rfl
theorem v_addT : dAdd (.tup ds) (.tup es) st Q = (ds.length + es.length ≤ sizeLine ∧ Q (.tup (ds ++ es)) st) := rfl
theorem v_addL : dAdd (.lst ds) (.lst es) st Q = (ds.length + es.length ≤ sizeLine ∧ Q (.lst (ds ++ es)) st) := rfl
theorem v_mul : dMul (.int i) (.int j) st Q = (CMul i j ∧ Q (.int (i * j)) st) := rfl
theorem v_lt : dLt (.int i) (.int j) st Q = Q (.bl (decide (i < j))) st := rfl
theorem v_le : dLe (.int i) (.int j) st Q = Q (.bl (decide (i ≤ j))) st := rfl
theorem v_gt : dGt (.int i) (.int j) st Q = Q (.bl (decide (j < i))) st := rfl
theorem v_ge : dGe (.int i) (.int j) st Q = Q (.bl (decide (j ≤ i))) st := rfl
theorem v_eqO {f : Bool → Bool} (h : ∀ x, a ≠ .str x) : dEqB f a b st Q = dEqO f a b st Q := propext ⟨fun q => by rcases q with ⟨x, _, e, _⟩ | q; exact absurd e (h x); exact q, .inr⟩
theorem v_eqs {f : Bool → Bool} {x y : Str} (q : Q (.bl (f (x == y))) st) : dEqB f (.str x) (.str y) st Q := .inl ⟨x, y, rfl, rfl, q⟩
theorem v_eqi {f : Bool → Bool} : dEqB f (.int i) (.int j) st Q = Q (.bl (f (i == j))) st := by
  rw [v_eqO (a := .int i) (fun _ h => nomatch h)]
  unfold dEqO; simp [D.ok, D.dep, D.eqv]
theorem v_ixT : dIx (.tup ds) (.int i) st Q = ∃ d, atI ds i = some d ∧ Q d st := propext ⟨fun ⟨_, e, q⟩ => by cases e; exact q, fun q => ⟨_, rfl, q⟩⟩
theorem v_ixL : dIx (.lst ds) (.int i) st Q = ∃ d, atI ds i = some d ∧ Q d st := propext ⟨fun ⟨_, e, q⟩ => by cases e; exact q, fun q => ⟨_, rfl, q⟩⟩
theorem v_ixS : dIx (.scr ds) (.int i) st Q = ∃ d, atI ds i = some d ∧ Q d st := propext ⟨fun ⟨_, e, q⟩ => by cases e; exact q, fun q => ⟨_, rfl, q⟩⟩
theorem v_var {k : Nat} {d : D} (h : env[k]? = some (some d)) : wVar k env st Q = Q d st := propext ⟨fun ⟨e, h2, q⟩ => by rw [h] at h2; cases h2; exact q, fun q => ⟨_, h, q⟩⟩
theorem v_var0 {d : D} : wVar 0 (some d :: env) st Q = Q d st := v_var rfl
theorem v_varS {k : Nat} {x : Option D} : wVar (k + 1) (x :: env) st Q = wVar k env st Q := propext ⟨fun ⟨e, h2, q⟩ => ⟨e, by simpa using h2, q⟩, fun ⟨e, h2, q⟩ => ⟨e, by simpa using h2, q⟩⟩
theorem v_len {n : Nat} (h : lenD (rd st a) = some n) : bLen [a] st Q = Q (.int (n : Nat)) st := propext ⟨fun ⟨_, _, e, h2, q⟩ => by cases e; rw [h] at h2; cases h2; exact q, fun q => ⟨_, _, rfl, h, q⟩⟩
theorem v_lenT : bLen [.tup ds] st Q = Q (.int ds.length) st := v_len rfl
theorem v_lenL : bLen [.lst ds] st Q = Q (.int ds.length) st := v_len rfl
theorem v_lenS : bLen [.scr ds] st Q = Q (.int ds.length) st := v_len rfl
theorem v_abs : bAbs [.int i] st Q = Q (.int (if i < 0 then -i else i)) st := propext ⟨fun ⟨_, e, q⟩ => by cases e; exact q, fun q => ⟨_, rfl, q⟩⟩
theorem v_min2 : bMin2 [.int i, .int j] st Q = Q (.int (if j < i then j else i)) st := propext ⟨fun ⟨_, _, e, q⟩ => by cases e; exact q, fun q => ⟨_, _, rfl, q⟩⟩
theorem v_max2 : bMax2 [.int i, .int j] st Q = Q (.int (if j > i then j else i)) st := propext ⟨fun ⟨_, _, e, q⟩ => by cases e; exact q, fun q => ⟨_, _, rfl, q⟩⟩
theorem v_intI : bInt [.int i] st Q = Q (.int i) st := propext ⟨fun ⟨_, e, q⟩ => by cases e; exact q, fun q => ⟨_, rfl, q⟩⟩
theorem v_intB {c : Bool} : bInt [.bl c] st Q = Q (.int (if c then 1 else 0)) st := propext ⟨fun ⟨_, e, q⟩ => by cases e; exact q, fun q => ⟨_, rfl, q⟩⟩
theorem v_tupL (h : rd st a = .lst ds) : bTuple [a] st Q = Q (.tup ds) st := propext ⟨fun ⟨_, _, e, h2, q⟩ => by cases e; rw [h] at h2; rcases h2 with h2 | h2 <;> cases h2; exact q, fun q => ⟨_, _, rfl, .inl h, q⟩⟩
theorem v_tupl : bTuple [.lst ds] st Q = Q (.tup ds) st := v_tupL rfl
theorem v_tupT : bTuple [.tup ds] st Q = Q (.tup ds) st := propext ⟨fun ⟨_, _, e, h2, q⟩ => by cases e; rcases h2 with h2 | h2 <;> cases h2; exact q, fun q => ⟨_, _, rfl, .inr rfl, q⟩⟩
theorem v_bl {x : Bool} {P : Bool → Prop} : (∃ b, D.bl x = .bl b ∧ P b) = P x := propext ⟨fun ⟨_, e, q⟩ => by cases e; exact q, fun q => ⟨_, rfl, q⟩⟩
theorem v_in {x : Int} {P : Int → Prop} : (∃ b, D.int x = .int b ∧ P b) = P x := propext ⟨fun ⟨_, e, q⟩ => by cases e; exact q, fun q => ⟨_, rfl, q⟩⟩
theorem v_some {α : Type} {x : α} {P : α → Prop} : (∃ b, some x = some b ∧ P b) = P x := propext ⟨fun ⟨_, e, q⟩ => by cases e; exact q, fun q => ⟨_, rfl, q⟩⟩
theorem v_gTp {n : Nat} {gs : DGs} {Q : En → Sto → Prop} : gTp n gs (.tup ds) env st Q = (ds.length = n ∧ gs ds env st Q) := propext ⟨fun ⟨_, e, q⟩ => by cases e; exact q, fun q => ⟨_, rfl, q⟩⟩
theorem v_gCn {h : DG} {gs : DGs} {d : D} {Q : En → Sto → Prop} : gCn h gs (d :: ds) env st Q = h d env st fun e s => gs ds e s Q := propext ⟨fun ⟨_, _, e, q⟩ => by cases e; exact q, fun q => ⟨_, _, rfl, q⟩⟩
theorem v_gNl {Q : En → Sto → Prop} : gNl [] env st Q = Q env st := propext ⟨fun ⟨_, q⟩ => q, fun q => ⟨rfl, q⟩⟩
theorem v_newT : newL true ds st Q = Q (.ref st.length) (st ++ [.lst ds]) := rfl
theorem v_newF : newL false ds st Q = Q (.lst ds) st := rfl
theorem v_app {n : Nat} {d : D} (h : st[n]? = some (.lst ds)) : mAppend (.ref n) [d] st Q = (ds.length < sizeLine ∧ Q .non (st.set n (.lst (ds ++ [d])))) := propext ⟨fun ⟨_, _, _, e1, e2, e3, q⟩ => by cases e1; cases e2; rw [h] at e3; cases e3; exact q, fun q => ⟨_, _, _, rfl, rfl, h, q⟩⟩
theorem get_last {α : Type} (st : List α) (c : α) : (st ++ [c])[st.length]? = some c := by simp
theorem set_last {α : Type} (st : List α) (c e : α) : (st ++ [c]).set st.length e = st ++ [e] := by
  rw [List.set_append_right _ _ (Nat.le_refl _), Nat.sub_self]; rfl
theorem v_repr {d : D} : bRepr [d] st Q = ((rd st d).Fit ∧ Q (.str (rd st d).rep) st) := propext ⟨fun ⟨_, e, q⟩ => by cases e; exact q, fun q => ⟨_, rfl, q⟩⟩
theorem at0 {α : Type} {x : α} {xs : List α} : atI (x :: xs) 0 = some x := atI_of (by decide) rfl
theorem at1 {α : Type} {x y : α} {xs : List α} : atI (x :: y :: xs) 1 = some y := atI_of (by decide) rfl
theorem at2 {α : Type} {x y z : α} {xs : List α} : atI (x :: y :: z :: xs) 2 = some z := atI_of (by decide) rfl
theorem at3 {α : Type} {x y z u : α} {xs : List α} : atI (x :: y :: z :: u :: xs) 3 = some u := atI_of (by decide) rfl
theorem at4 {α : Type} {x y z u v : α} {xs : List α} : atI (x :: y :: z :: u :: v :: xs) 4 = some v := atI_of (by decide) rfl
end
theorem v_rg1 {a : DE} {env : En} {st : Sto} {R : GK} : iRange1 (wCons a wNil) env st R = a env st fun d s => ∃ j, d = .int j ∧ (-(2 ^ 62) ≤ j ∧ j < 2 ^ 62) ∧ R (rangeD 0 j.toNat) (fun _ => True) s := by
  unfold iRange1 wCons wNil
  congr 1
  funext d s
  exact propext ⟨fun ⟨j, e, h1, h2, q⟩ => by cases e; exact ⟨_, rfl, ⟨h1, h2⟩, q⟩, fun ⟨j, e, h, q⟩ => by cases e; exact ⟨_, rfl, h.1, h.2, q⟩⟩
theorem v_rg2 {a b : DE} {env : En} {st : Sto} {R : GK} : iRange2 (wCons a (wCons b wNil)) env st R = a env st fun d s => b env s fun e s => ∃ i, d = .int i ∧ ∃ j, e = .int j ∧ (-(2 ^ 62) ≤ i ∧ i < 2 ^ 62 ∧ -(2 ^ 62) ≤ j ∧ j < 2 ^ 62) ∧ R (rangeD i (j - i).toNat) (fun _ => True) s := by
  unfold iRange2 wCons wNil
  congr 1
  funext d s
  congr 1
  funext e s
  exact propext ⟨fun ⟨i, j, e, h, q⟩ => by cases e; exact ⟨_, rfl, _, rfl, h, q⟩, fun ⟨i, e, j, e2, h, q⟩ => by cases e; cases e2; exact ⟨_, _, rfl, h, q⟩⟩
theorem forL_foldN {α σ : Type} {G : Sto → Prop} {g : DG} {b : DS} {A : DEnds} (enc : α → D) (f : σ → α → σ) (Rp : Nat → σ → En → Sto → Prop) (N : Nat) :
    ∀ (xs : List α) (i : Nat) (s0 : σ) (env : En) (st : Sto), i + xs.length = N → (∀ i s x e st, i < N → x ∈ xs → Rp i s e st → ∀ R : En → Sto → Prop, (∀ e' st', Rp (i + 1) (f s x) e' st' → R e' st') → G st ∧ g (enc x) e st fun e s => b { nx := R, rt := A.rt, bk := A.nx, ct := R } e s) →
    (∀ e st, Rp N (xs.foldl f s0) e st → G st ∧ A.nx e st) → Rp i s0 env st → wForL G g b A (xs.map enc) env st
  | [], i, _, env, st, hN, _, fin, h => fin env st (by rw [List.length_nil] at hN; rw [← hN]; exact h)
  | x :: xs, i, s0, env, st, hN, step, fin, h => by
    rw [List.length_cons] at hN
    refine step i s0 x env st (by omega) List.mem_cons_self h (wForL G g b A (xs.map enc)) fun e' st' h' => ?_
    exact forL_foldN enc f Rp N xs (i + 1) (f s0 x) e' st' (by omega) (fun j s y e st hj hy => step j s y e st hj (List.mem_cons_of_mem _ hy)) fin h'
/-- a loop as a fold -/
theorem forL_fold {α σ : Type} {G : Sto → Prop} {g : DG} {b : DS} {A : DEnds} (enc : α → D) (f : σ → α → σ) (Rp : Nat → σ → En → Sto → Prop) (xs : List α) (s0 : σ) (env : En) (st : Sto)
    (step : ∀ i s x e st, i < xs.length → x ∈ xs → Rp i s e st → ∀ R : En → Sto → Prop, (∀ e' st', Rp (i + 1) (f s x) e' st' → R e' st') → G st ∧ g (enc x) e st fun e s => b { nx := R, rt := A.rt, bk := A.nx, ct := R } e s)
    (fin : ∀ e st, Rp xs.length (xs.foldl f s0) e st → G st ∧ A.nx e st) (h : Rp 0 s0 env st) : wForL G g b A (xs.map enc) env st :=
  forL_foldN enc f Rp xs.length xs 0 s0 env st (Nat.zero_add _) step fin h
end DL
namespace DL
open PySem PySem.Spec PyProof.Rows L2
variable [Bs]
theorem zipD_len (ds es : List D) : (zipD ds es).length = min ds.length es.length := by unfold zipD; rw [List.length_zipWith]
section
variable {K : PySem.W.Frag} {io : List Addr} {F H : Hp} {a b : Addr} {xs ys : List V} {ds es : List D}
theorem zipD_at {i : Nat} (hi : i < (zipD ds es).length) : ∃ d e, ds[i]? = some d ∧ es[i]? = some e ∧ (zipD ds es)[i]? = some (.tup [d, e]) := by
  rw [zipD_len] at hi
  have h1 : i < ds.length := by omega
  have h2 : i < es.length := by omega
  refine ⟨ds[i], es[i], List.getElem?_eq_getElem h1, List.getElem?_eq_getElem h2, ?_⟩
  unfold zipD
  rw [List.getElem?_zipWith, List.getElem?_eq_getElem h1, List.getElem?_eq_getElem h2]
theorem walkD_zipT (s1 : SqT K F a xs) (r1 : DenL K io F xs ds) (s2 : SqT K F b ys) (r2 : DenL K io F ys es) : WalkD K (ItzX (SqT K) (SqT K) a b) H io F (zipD ds es) (fun _ => True) where
  go := fun i t R _ hi => by
    obtain ⟨d, e, h1, h2, _⟩ := zipD_at hi
    obtain ⟨v, e1, _⟩ := (t.denL r1).get h1
    obtain ⟨w, e2, _⟩ := (t.denL r2).get h2
    exact ⟨xs, ys, v, w, SqT_mono R.sub (SqT_mono t.fr s1), SqT_mono R.sub (SqT_mono t.fr s2), e1, e2⟩
  stop := fun t R _ => by
    refine ⟨xs, ys, SqT_mono R.sub (SqT_mono t.fr s1), SqT_mono R.sub (SqT_mono t.fr s2), ?_⟩
    rw [zipD_len, r1.length, r2.length]
    exact ⟨by omega, by omega, by omega⟩
  yld := fun {H2 io2 F2 st2} i x H3 t R _ hi y => by
    obtain ⟨d, e, h1, h2, h3⟩ := zipD_at hi
    obtain ⟨v, e1, n1⟩ := (t.denL r1).get h1
    obtain ⟨w, e2, n2⟩ := (t.denL r2).get h2
    obtain ⟨T, u, u', o, q1, hT, ho, q2, hu, hu'⟩ := y
    subst q1
    subst q2
    have p1 := hu xs (SqT_mono R.sub (SqT_mono t.fr s1))
    have p2 := hu' ys (SqT_mono R.sub (SqT_mono t.fr s2))
    rw [e1] at p1
    rw [e2] at p2
    cases p1
    cases p2
    obtain ⟨F3, s3, R3, n3⟩ := lay_pair R hT ho n1 n2
    exact ⟨F3, _, s3, R3, h3, n3⟩
theorem walkD_zipL (s1 : F a = some (.lst xs)) (r1 : DenL K io F xs ds) (s2 : F b = some (.lst ys)) (r2 : DenL K io F ys es) : WalkD K (ItzX (SqL K) (SqL K) a b) H io F (zipD ds es) (fun _ => True) where
  go := fun i t R _ hi => by
    obtain ⟨d, e, h1, h2, _⟩ := zipD_at hi
    obtain ⟨v, e1, _⟩ := (t.denL r1).get h1
    obtain ⟨w, e2, _⟩ := (t.denL r2).get h2
    exact ⟨xs, ys, v, w, SqL.of (R.sub _ _ (t.fr _ _ s1)), SqL.of (R.sub _ _ (t.fr _ _ s2)), e1, e2⟩
  stop := fun t R _ => by
    refine ⟨xs, ys, SqL.of (R.sub _ _ (t.fr _ _ s1)), SqL.of (R.sub _ _ (t.fr _ _ s2)), ?_⟩
    rw [zipD_len, r1.length, r2.length]
    exact ⟨by omega, by omega, by omega⟩
  yld := fun {H2 io2 F2 st2} i x H3 t R _ hi y => by
    obtain ⟨d, e, h1, h2, h3⟩ := zipD_at hi
    obtain ⟨v, e1, n1⟩ := (t.denL r1).get h1
    obtain ⟨w, e2, n2⟩ := (t.denL r2).get h2
    obtain ⟨T, u, u', o, q1, hT, ho, q2, hu, hu'⟩ := y
    subst q1
    subst q2
    have p1 := hu xs (SqL.of (R.sub _ _ (t.fr _ _ s1)))
    have p2 := hu' ys (SqL.of (R.sub _ _ (t.fr _ _ s2)))
    rw [e1] at p1
    rw [e2] at p2
    cases p1
    cases p2
    obtain ⟨F3, s3, R3, n3⟩ := lay_pair R hT ho n1 n2
    exact ⟨F3, _, s3, R3, h3, n3⟩
theorem walkD_zipLT (s1 : F a = some (.lst xs)) (r1 : DenL K io F xs ds) (s2 : SqT K F b ys) (r2 : DenL K io F ys es) : WalkD K (ItzX (SqL K) (SqT K) a b) H io F (zipD ds es) (fun _ => True) where
  go := fun i t R _ hi => by
    obtain ⟨d, e, h1, h2, _⟩ := zipD_at hi
    obtain ⟨v, e1, _⟩ := (t.denL r1).get h1
    obtain ⟨w, e2, _⟩ := (t.denL r2).get h2
    exact ⟨xs, ys, v, w, SqL.of (R.sub _ _ (t.fr _ _ s1)), SqT_mono R.sub (SqT_mono t.fr s2), e1, e2⟩
  stop := fun t R _ => by
    refine ⟨xs, ys, SqL.of (R.sub _ _ (t.fr _ _ s1)), SqT_mono R.sub (SqT_mono t.fr s2), ?_⟩
    rw [zipD_len, r1.length, r2.length]
    exact ⟨by omega, by omega, by omega⟩
  yld := fun {H2 io2 F2 st2} i x H3 t R _ hi y => by
    obtain ⟨d, e, h1, h2, h3⟩ := zipD_at hi
    obtain ⟨v, e1, n1⟩ := (t.denL r1).get h1
    obtain ⟨w, e2, n2⟩ := (t.denL r2).get h2
    obtain ⟨T, u, u', o, q1, hT, ho, q2, hu, hu'⟩ := y
    subst q1
    subst q2
    have p1 := hu xs (SqL.of (R.sub _ _ (t.fr _ _ s1)))
    have p2 := hu' ys (SqT_mono R.sub (SqT_mono t.fr s2))
    rw [e1] at p1
    rw [e2] at p2
    cases p1
    cases p2
    obtain ⟨F3, s3, R3, n3⟩ := lay_pair R hT ho n1 n2
    exact ⟨F3, _, s3, R3, h3, n3⟩
theorem walkD_zipTL (s1 : SqT K F a xs) (r1 : DenL K io F xs ds) (s2 : F b = some (.lst ys)) (r2 : DenL K io F ys es) : WalkD K (ItzX (SqT K) (SqL K) a b) H io F (zipD ds es) (fun _ => True) where
  go := fun i t R _ hi => by
    obtain ⟨d, e, h1, h2, _⟩ := zipD_at hi
    obtain ⟨v, e1, _⟩ := (t.denL r1).get h1
    obtain ⟨w, e2, _⟩ := (t.denL r2).get h2
    exact ⟨xs, ys, v, w, SqT_mono R.sub (SqT_mono t.fr s1), SqL.of (R.sub _ _ (t.fr _ _ s2)), e1, e2⟩
  stop := fun t R _ => by
    refine ⟨xs, ys, SqT_mono R.sub (SqT_mono t.fr s1), SqL.of (R.sub _ _ (t.fr _ _ s2)), ?_⟩
    rw [zipD_len, r1.length, r2.length]
    exact ⟨by omega, by omega, by omega⟩
  yld := fun {H2 io2 F2 st2} i x H3 t R _ hi y => by
    obtain ⟨d, e, h1, h2, h3⟩ := zipD_at hi
    obtain ⟨v, e1, n1⟩ := (t.denL r1).get h1
    obtain ⟨w, e2, n2⟩ := (t.denL r2).get h2
    obtain ⟨T, u, u', o, q1, hT, ho, q2, hu, hu'⟩ := y
    subst q1
    subst q2
    have p1 := hu xs (SqT_mono R.sub (SqT_mono t.fr s1))
    have p2 := hu' ys (SqL.of (R.sub _ _ (t.fr _ _ s2)))
    rw [e1] at p1
    rw [e2] at p2
    cases p1
    cases p2
    obtain ⟨F3, s3, R3, n3⟩ := lay_pair R hT ho n1 n2
    exact ⟨F3, _, s3, R3, h3, n3⟩
end
def zipI (a b : D) (s : Sto) (R : GK) : Prop := match a, b with
  | .tup xs, .tup ys => R (zipD xs ys) (fun _ => True) s
  | .lst xs, .lst ys => R (zipD xs ys) (fun _ => True) s
  | .lst xs, .tup ys => R (zipD xs ys) (fun _ => True) s
  | .tup xs, .lst ys => R (zipD xs ys) (fun _ => True) s
  | _, _ => False
theorem zipI_mo {a b : D} {s : Sto} {R R' : GK} (h : ∀ ds G s, R ds G s → R' ds G s) (q : zipI a b s R) : zipI a b s R' := by
  unfold zipI at q ⊢
  split at q
  · exact h _ _ _ q
  · exact h _ _ _ q
  · exact h _ _ _ q
  · exact h _ _ _ q
  · exact q
def iZip (wa wb : DE) : DI := fun env st R => wa env st fun a s1 => wb env s1 fun b s2 => zipI a b s2 R
theorem wi_zip {X : Cx} {p pos tpos : Pos} {e e2 : Expr} {we we2 : DE} {elts : List Expr} {kk : Nat} (hg : Gl X "zip") (hm : X.mg "zip" = none) (he : WE X e we) (he2 : WE X e2 we2) (ha : starEach [e, e2] X.env = (false, eval e X.env) :: starEach [e2] X.env := by rfl) (hs : starEach [e2] X.env = (false, eval e2 X.env) :: starEach [] X.env := by rfl)
    (hpl : (backTo pos (starEach [e2] X.env)).any (·.1) = false := by rfl) :
    WI X (.Tuple elts kk tpos) (.Call (.Name "zip" p) [e, e2] [] pos) (iZip we we2) := by
  refine ⟨fun _ _ _ _ h q => he.mo _ _ _ _ (fun _ _ q => he2.mo _ _ _ _ (fun _ _ q => zipI_mo (fun _ _ _ q => h _ _ _ q) q) q) q, PI_imp (pi_zipX hg hm (pa_cons he.pe (pa_cons he2.pe pa_nil hs) ha) ha hpl) fun σ H R ⟨env, io, F, st, Rl, q⟩ => ?_⟩
  refine tE_use he.mo Rl q fun d s1 v io1 F1 H1 q1 t1 R1 n1 => ?_
  refine tE_use he2.mo R1 q1 fun d2 s2 v2 io2 F2 H2 q2 t2 R2 n2 => ?_
  have n1' := t2.den n1
  unfold zipI at q2
  split at q2
  · cases n1' with
    | tup s r z =>
      cases n2 with
      | tup s' r' z' => exact ⟨_, _, _, _, rfl, .inr (.inl ⟨SqT_mono R2.sub s.t, SqT_mono R2.sub s'.t, q2 _ _ _ _ (t1.trans t2) R2.toRelH (walkD_zipT s.t r s'.t r')⟩)⟩
  · cases n1' with
    | lst s r z =>
      cases n2 with
      | lst s' r' z' => exact ⟨_, _, _, _, rfl, .inl ⟨SqL.of (R2.sub _ _ s), SqL.of (R2.sub _ _ s'), q2 _ _ _ _ (t1.trans t2) R2.toRelH (walkD_zipL s r s' r')⟩⟩
  · cases n1' with
    | lst s r z =>
      cases n2 with
      | tup s' r' z' => exact ⟨_, _, _, _, rfl, .inr (.inr (.inl ⟨SqL.of (R2.sub _ _ s), SqT_mono R2.sub s'.t, q2 _ _ _ _ (t1.trans t2) R2.toRelH (walkD_zipLT s r s'.t r')⟩))⟩
  · cases n1' with
    | tup s r z =>
      cases n2 with
      | lst s' r' z' => exact ⟨_, _, _, _, rfl, .inr (.inr (.inr ⟨SqT_mono R2.sub s.t, SqL.of (R2.sub _ _ s'), q2 _ _ _ _ (t1.trans t2) R2.toRelH (walkD_zipTL s.t r s' r')⟩))⟩
  · exact q2.elim
theorem zipI_tup {xs ys : List D} {s : Sto} {R : GK} : zipI (.tup xs) (.tup ys) s R = R (zipD xs ys) (fun _ => True) s := rfl
theorem zipI_lt {xs ys : List D} {s : Sto} {R : GK} : zipI (.lst xs) (.tup ys) s R = R (zipD xs ys) (fun _ => True) s := rfl
theorem zipI_tl {xs ys : List D} {s : Sto} {R : GK} : zipI (.tup xs) (.lst ys) s R = R (zipD xs ys) (fun _ => True) s := rfl
theorem zipI_lst {xs ys : List D} {s : Sto} {R : GK} : zipI (.lst xs) (.lst ys) s R = R (zipD xs ys) (fun _ => True) s := rfl
end DL
namespace DL
open PySem PySem.Spec PyProof.Rows L2
variable [Bs]
def rgD (a b : Int) : List D := (List.range (b - a).toNat).map fun i => D.int (a + (i : Nat))
theorem rg_den {K : PySem.W.Frag} {io : List Addr} {F : Hp} (a b : Int) : DenL K io F (rgV a b) (rgD a b) := by
  unfold rgV rgD
  generalize List.range (b - a).toNat = l
  induction l with
  | nil => exact .nil
  | cons i r ih => exact .cons (.int _) ih
theorem rgD_len (a b : Int) : (rgD a b).length = (b - a).toNat := by unfold rgD; simp
theorem rgD_fit {a b : Int} (h : RgOk a b) : (rgD a b).length ≤ sizeLine := by
  rw [rgD_len, sizeLine_eq]
  have := h.2.2.2.2
  omega
def wRgL1 (m : Bool) (wa : DE) : DE := fun env st Q => wa env st fun d s => ∃ b, d = .int b ∧ RgOk 0 b ∧ newL m (rgD 0 b) s Q
def wRgL2 (m : Bool) (wa wb : DE) : DE := fun env st Q => wa env st fun d s => wb env s fun d2 s2 => ∃ a b, d = .int a ∧ d2 = .int b ∧ RgOk a b ∧ newL m (rgD a b) s2 Q
def wRgT1 (wa : DE) : DE := fun env st Q => wa env st fun d s => ∃ b, d = .int b ∧ RgOk 0 b ∧ Q (.tup (rgD 0 b)) s
def wRgT2 (wa wb : DE) : DE := fun env st Q => wa env st fun d s => wb env s fun d2 s2 => ∃ a b, d = .int a ∧ d2 = .int b ∧ RgOk a b ∧ Q (.tup (rgD a b)) s2
section
variable {X : Cx} {pos p pos' p' : Pos} {e e2 : Expr} {wa wb : DE} {m : Bool}
theorem we_rgT1 (hc : X.calm = true) (hl : Gl X "tuple") (hml : X.mg "tuple" = none) (hr : Gl X "range") (hmr : X.mg "range" = none) (ha : WE X e wa) (na : starEach [e] X.env = (false, eval e X.env) :: starEach [] X.env := by rfl)
    (nb : starEach [Expr.Call (.Name "range" p') [e] [] pos'] X.env = (false, eval (Expr.Call (.Name "range" p') [e] [] pos') X.env) :: starEach [] X.env := by rfl) : WE X (.Call (.Name "tuple" p) [.Call (.Name "range" p') [e] [] pos'] [] pos) (wRgT1 wa) := by
  refine ⟨fun _ _ _ _ i q => ha.mo _ _ _ _ (fun _ _ ⟨b, h1, h2, q⟩ => ⟨b, h1, h2, i _ _ q⟩) q, PE_imp (pe_tupRgX hc hl hml (prg_1 hr hmr ha.pe na) nb) fun σ H Q ⟨env, io, F, st, Rl, q⟩ => ?_⟩
  refine tE_use ha.mo Rl q fun d s1 v io1 F1 H1 ⟨b, eb, h1, q1⟩ t1 R1 n1 => ?_
  subst eb
  cases n1
  exact ⟨b, rfl, h1, lay_tup R1.toRelH (rg_den 0 b) (rgD_fit h1) (kE_later t1 q1)⟩
end
def repS (x : Str) (n : Int) : Str := ⟨(List.replicate n.toNat x.cps).foldl (· ++ ·) #[]⟩
def dMulS : R2D := fun a b st Q => ∃ z n, a = .str z ∧ b = .int n ∧ 2 ≤ n ∧ n ≤ 1000000 ∧ z.length ≠ 0 ∧ z.length * n.toNat ≤ sizeLine ∧ Q (.str (repS z n)) st
theorem v_mulS {x : Str} {k : Int} {st : Sto} {Q : DK} : dMulS (.str x) (.int k) st Q = (2 ≤ k ∧ k ≤ 1000000 ∧ x.length ≠ 0 ∧ x.length * k.toNat ≤ sizeLine ∧ Q (.str (repS x k)) st) :=
  propext ⟨fun ⟨_, _, e1, e2, h⟩ => by cases e1; cases e2; exact h, fun h => ⟨_, _, rfl, rfl, h⟩⟩
theorem v_rgx1 {n : Int} {P : Int → Prop} : (∃ b, D.int n = .int b ∧ P b) = P n := propext ⟨fun ⟨_, e, h⟩ => by cases e; exact h, fun h => ⟨_, rfl, h⟩⟩
theorem v_rgx2 {m n : Int} {P : Int → Int → Prop} : (∃ a b, D.int m = .int a ∧ D.int n = .int b ∧ P a b) = P m n := propext ⟨fun ⟨_, _, e, e2, h⟩ => by cases e; cases e2; exact h, fun h => ⟨_, _, rfl, rfl, h⟩⟩
def dRev (m : Bool) (a : D) (s : Sto) (Q : DK) : Prop := match rd s a with
  | .lst ds => newL m ds.reverse s Q
  | .tup ds => Q (.tup ds.reverse) s
  | _ => False
def wRevA (m : Bool) (wa : DE) : DE := fun env st Q => wa env st fun a s => dRev m a s Q
theorem v_revT {m : Bool} {ds : List D} {st : Sto} {Q : DK} : dRev m (.tup ds) st Q = Q (.tup ds.reverse) st := rfl
theorem v_revL {m : Bool} {ds : List D} {st : Sto} {Q : DK} : dRev m (.lst ds) st Q = newL m ds.reverse st Q := rfl
end DL
namespace DL
open PySem PySem.Spec PyProof.Rows L2
variable [Bs]
theorem PlainL.isList {h : Heap} {a : Addr} {its : Array Value} (p : PlainL h a its) : h.IsList a its := by
  obtain ⟨o, n, e, h1, h2, h3⟩ := p
  exact ⟨o, e, h1, n, h3⟩
def dEqE (f : Bool → Bool) : R2D := fun a b st Q => ∃ ds, rd st a = .lst ds ∧ rd st b = .lst [] ∧ Q (.bl (f ds.isEmpty)) st
theorem v_eqE {f : Bool → Bool} {ds : List D} {st : Sto} {Q : DK} : dEqE f (.lst ds) (.lst []) st Q = Q (.bl (f ds.isEmpty)) st :=
  propext ⟨fun ⟨_, e1, _, q⟩ => by cases e1; exact q, fun q => ⟨_, rfl, rfl, q⟩⟩
end DL
namespace DL
open PySem PySem.Spec PyProof.Rows L2
variable [Bs]
def fmet (ns : List Int) : Nat := (firstMet (fun i => ns.getD i 0) ns.length).length
theorem fmet_nodup {ns : List Int} (h : ns.Nodup) : fmet ns = ns.length := by
  unfold fmet
  rw [RZ.firstMet_nodup h _ (Nat.le_refl _), List.take_length]
theorem fmet_step {f : Nat → Int} : ∀ n : Nat, (firstMet f n).length = n → ∀ i j : Nat, i < j → j < n → f i ≠ f j
  | 0, _, _, _, _, h => absurd h (by omega)
  | n + 1, h, i, j, hij, hj => by
    have hle := firstMet_length_le f n
    rw [firstMet_succ] at h
    unfold step_dedup at h
    split at h
    · omega
    · rename_i hn
      rw [List.length_append, List.length_singleton] at h
      by_cases hjn : j < n
      · exact fmet_step n (by omega) i j hij hjn
      · have e : j = n := by omega
        subst e
        intro e
        rw [firstMet_any] at hn
        refine hn (List.any_eq_true.mpr ⟨f i, List.mem_map.mpr ⟨i, List.mem_range.mpr hij, rfl⟩, ?_⟩)
        rw [e]
        simp
theorem fmet_iff {ns : List Int} : fmet ns = ns.length ↔ ns.Nodup := by
  refine ⟨fun h => ?_, fmet_nodup⟩
  have := fmet_step _ h
  rw [List.nodup_iff_pairwise_ne, List.pairwise_iff_getElem]
  intro i j hi hj hij
  have := this i j hij hj
  rwa [List.getD_eq_getElem?_getD, List.getD_eq_getElem?_getD, List.getElem?_eq_getElem hi, List.getElem?_eq_getElem hj] at this
def tLenSetI (K : PySem.W.Frag) (ta : TE) : TE := fun σ H Q => ta σ H fun x H1 => ∃ l, ∃ ns : List Int, x = .ref l ∧ SqL K H1 l (ns.map V.int) ∧ ns.length + 1 < scanBound ∧ Q (.int (fmet ns : Nat)) H1
section
variable {X : Cx}
theorem pe_lenSetI {a : Expr} {ta : TE} {p p2 q pos : Pos} (hc : X.calm = true) (hg : Gl X "len") (hm : X.mg "len" = none) (hg2 : Gl X "set") (hm2 : X.mg "set" = none) (ha : PE X a ta)
    (na : starEach [a] X.env = (false, eval a X.env) :: starEach [] X.env := by rfl) : PE X (.Call (.Name "len" p) [.Call (.Name "set" p2) [a] [] q] [] pos) (tLenSetI X.K ta) := by
  refine ⟨fun pins s σ H Q I h => ?_⟩
  refine Call_ (ld_blt I hg hm boot_len ?_)
  refine PyProof.Rows.callWith_builtin1 (PyProof.Rows.args_cons ?_ rfl) rfl rfl
  refine Call_ (ld_blt I hg2 hm2 boot_set ?_)
  refine PyProof.Rows.callWith_type1 (PyProof.Rows.args_cons (thn (ha.run pins s σ H _ I h) fun v s1 ⟨x, H1, I1, r1, q1⟩ => PyProof.Rows.args_nil ?_) na) na rfl
  obtain ⟨l, ns, rfl, hq, h1, q1⟩ := q1
  cases r1
  obtain ⟨its, r, pl, hz⟩ := I1.list hq
  have hi := r.ints
  have hsz : its.toArray.size = ns.length := by rw [List.size_toArray, hi.length]
  refine PySem.call_set_list (I1.ok.hd hc) pl.isList (by simpa using hi) (by rw [hsz]; exact h1) fun h' tk hS hk => ?_
  rw [hsz] at hS
  refine PyProof.Rows.args_nil ?_
  obtain ⟨o, es, ep, t, ho, hex, hd, _, _, _, hf, hn⟩ := hS
  have I2 : Inv X pins σ H1 { s1 with heap := h', toks := tk } := I1.kept fun b o e => hk b o (Heap.lt_size e) e
  have hle := firstMet_length_le (fun i => ns.getD i 0) ns.length
  have hsb : scanBound = 4096 := rfl
  refine PySem.call_len_set ho hex hd hf (by rw [hn]; omega) ⟨.int (fmet ns : Nat), H1, I2.tok _, ⟨_, by rw [hn]; rfl⟩, q1⟩
def wLenSet (wa : DE) : DE := fun env st Q => wa env st fun d s => ∃ ns : List Int, rd s d = .lst (ns.map .int) ∧ ns.length ≤ 4000 ∧ Q (.int (fmet ns : Nat)) s
theorem we_lenSet {a : Expr} {wa : DE} {p p2 q pos : Pos} (hc : X.calm = true) (hg : Gl X "len") (hm : X.mg "len" = none) (hg2 : Gl X "set") (hm2 : X.mg "set" = none) (ha : WE X a wa)
    (na : starEach [a] X.env = (false, eval a X.env) :: starEach [] X.env := by rfl) : WE X (.Call (.Name "len" p) [.Call (.Name "set" p2) [a] [] q] [] pos) (wLenSet wa) := by
  refine ⟨fun _ _ _ _ i q => ha.mo _ _ _ _ (fun _ _ ⟨ns, h1, h2, q⟩ => ⟨ns, h1, h2, i _ _ q⟩) q, PE_imp (pe_lenSetI hc hg hm hg2 hm2 ha.pe na) fun σ H Q ⟨env, io, F, st, R, q⟩ => ?_⟩
  refine tE_use ha.mo R q fun d s1 v io1 F1 H1 ⟨ns, h1, h2, q1⟩ t1 R1 n1 => ?_
  obtain ⟨l, xs, rfl, hl, hx, _⟩ := rd_lst R1.toRelH n1 h1
  rw [den_ints hx] at hl
  exact ⟨l, ns, rfl, .of hl, by show ns.length + 1 < 4096; omega, kE_at q1 t1 R1.toRelH (.int _)⟩
theorem den_intL {K : PySem.W.Frag} {io : List Addr} {F : Hp} : ∀ ns : List Int, DenL K io F (ns.map V.int) (ns.map D.int)
  | [] => .nil
  | n :: r => .cons (.int n) (den_intL r)
end
abbrev dPair (p : Int × Int) : D := .tup [.int p.1, .int p.2]
def LexLe (p q : Int × Int) : Prop := p.1 < q.1 ∨ (p.1 = q.1 ∧ p.2 ≤ q.2)
def IsP (K : PySem.W.Frag) (H : Hp) (x : V) (p : Int × Int) : Prop := ∃ t, x = .ref t ∧ SqT K H t [.int p.1, .int p.2]
def rSortPD (K : PySem.W.Frag) : List V → Hp → VK → Prop := fun vs H Q => ∃ (a : Addr) (xs : List V) (ps : List (Int × Int)), vs = [V.ref a] ∧ SqL K H a xs ∧ Paired (IsP K H) xs ps ∧
  ∀ ys qs p, qs.Perm ps → qs.Pairwise LexLe → ys.length = qs.length → (∀ z ∈ ys.zip qs, z ∈ xs.zip ps) → H p = none → Q (.ref p) (upd H p (.lst ys))
open Classical in
noncomputable def kP (K : PySem.W.Frag) (H : Hp) (x : V) : Int × Int := if h : ∃ p, IsP K H x p then Classical.choose h else (0, 0)
theorem kP_eq {X : Cx} {pins : List (Addr × Obj)} {σ : L2.St} {H : Hp} {s : Shared} (I : Inv X pins σ H s) {x : V} {p : Int × Int} (h : IsP X.K H x p) : kP X.K H x = p := by
  unfold kP
  rw [dif_pos ⟨p, h⟩]
  obtain ⟨t, e1, h1⟩ := Classical.choose_spec (⟨p, h⟩ : ∃ p, IsP X.K H x p)
  obtain ⟨t', e2, h2⟩ := h
  rw [e1] at e2
  cases e2
  have := I.tuple_inj h1 h2
  injection this with a b
  injection b with b _
  injection a with a
  injection b with b
  exact Prod.ext a b
theorem paired_map {α β : Type} {R : α → β → Prop} {k : α → β} (hk : ∀ x p, R x p → k x = p) : ∀ {xs : List α} {ps : List β}, Paired R xs ps → xs.map k = ps
  | _, _, .nil => rfl
  | _, _, .cons h t => by rw [List.map_cons, hk _ _ h, paired_map hk t]
theorem paired_mem {α β : Type} {R : α → β → Prop} : ∀ {xs : List α} {ps : List β}, Paired R xs ps → ∀ x ∈ xs, ∃ p, R x p
  | _, _, .cons h t, x, hx => by
    rcases List.mem_cons.mp hx with e | hx
    · subst e; exact ⟨_, h⟩
    · exact paired_mem t x hx
theorem zip_self {α β : Type} (k : α → β) : ∀ xs : List α, xs.zip (xs.map k) = xs.map fun x => (x, k x)
  | [] => rfl
  | x :: r => by rw [List.map_cons, List.zip_cons_cons, zip_self k r, List.map_cons]
theorem cr_sortedPD {X : Cx} : CallR X (.builtin "sorted") (rSortPD X.K) := by
  intro pins s σ H vs us Q I r h
  obtain ⟨a, xs, ps, rfl, hs, hx, q⟩ := h
  obtain ⟨its, rv, hl, hz⟩ := I.list hs
  obtain ⟨u, rfl, ru⟩ := vals1 r
  obtain rfl : u = Value.ref a := ru
  have hmap := paired_map (fun x p h => kP_eq I h) hx
  have hall : ∀ x ∈ xs, IsP X.K H x (kP X.K H x) := fun x hm => by
    obtain ⟨p, hp⟩ := paired_mem hx x hm
    rw [kP_eq I hp]; exact hp
  obtain ⟨e1, e2⟩ := refs_back rv fun x m => by
    obtain ⟨t, e, _⟩ := hall x m
    exact ⟨t, e⟩
  refine SrtO.sorted_pairsO (k := fun u => kP X.K H (backV u)) hl.isList (by rw [← rv.length]; exact hz) (fun v hv => ?_) fun h' d out h1 h2 kp hd hn => ?_
  · obtain ⟨t, rfl⟩ := e2 v hv
    have hm : V.ref t ∈ xs := by rw [e1]; exact List.mem_map.mpr ⟨_, hv, rfl⟩
    obtain ⟨t', e, ht⟩ := hall _ hm
    cases e
    obtain ⟨its2, r2, hT, _⟩ := I.tuple ht
    obtain ⟨o, ho, hc, n, hd⟩ := hT
    obtain ⟨u1, u2, rfl, ri, rj⟩ := vals2 r2
    obtain ⟨t1, rfl⟩ := ri
    obtain ⟨t2, rfl⟩ := rj
    exact ⟨t, o, t1, t2, n, rfl, ho, hc, hd⟩
  · have h3 : ∀ u ∈ out, ∃ a, u = Value.ref a := fun u hu => e2 u (h2.perm.mem_iff.mp hu)
    obtain ⟨n, hn⟩ := hn
    have hb : SrtO.Stb (ltP (kP X.K H)) (out.map backV) xs := by
      rw [e1]
      exact SrtO.Stb.map (ltP_swo (kP X.K H)) backV h2
    have hsr : SrtO.Srtd (ltP (kP X.K H)) (out.map backV) := SrtO.srtd_map h1
    refine ⟨.ref d, upd H d (.lst (out.map backV)), I.laid (t' := s.toks) kp hd ⟨?_, out, n, vals_back h3, hn⟩, rfl, q (out.map backV) ((out.map backV).map (kP X.K H)) d ?_ ?_ (List.length_map (f := kP X.K H)).symm (fun z hz => ?_) (I.hok.fresh hd)⟩
    · rw [hb.len]
      exact hz
    · rw [← hmap]; exact hb.perm.map _
    · refine List.pairwise_map.mpr (List.Pairwise.imp (fun {x y} h => ?_) hsr)
      have := SrtO.lexB_no.mp h
      unfold LexLe
      omega
    · rw [zip_self] at hz
      obtain ⟨y, hy, rfl⟩ := List.mem_map.mp hz
      rw [← hmap, zip_self]
      exact List.mem_map.mpr ⟨y, hb.perm.mem_iff.mp hy, rfl⟩
/-- sorted(xs): of ints, or of pairs of ints -/
def bSorted (m : Bool) : RLD := fun ds st Q => ∃ d, ds = [d] ∧ ((∃ ns : List Int, rd st d = .lst (ns.map .int) ∧ ∀ ns' : List Int, ns'.Perm ns → ns'.Pairwise (· ≤ ·) → newL m (ns'.map .int) st Q) ∨
  (∃ ps : List (Int × Int), rd st d = .lst (ps.map dPair) ∧ ∀ ps' : List (Int × Int), ps'.Perm ps → ps'.Pairwise LexLe → newL m (ps'.map dPair) st Q))
theorem den_pairs {K : PySem.W.Frag} {io : List Addr} {F H : Hp} (hs : ∀ a o, F a = some o → H a = some o) : ∀ {xs : List V} {ps : List (Int × Int)}, DenL K io F xs (ps.map dPair) → Paired (IsP K H) xs ps
  | [], [], _ => .nil
  | x :: xs, p :: ps, .cons a b => by
    refine .cons ?_ (den_pairs hs b)
    cases a with
    | tup s1 r1 _ =>
      cases r1 with
      | cons a1 r1 => cases r1 with
        | cons b1 r1 =>
          cases r1
          cases a1
          cases b1
          exact ⟨_, rfl, SqT_mono hs s1.t⟩
theorem den_zip {K : PySem.W.Frag} {io : List Addr} {F : Hp} : ∀ {xs : List V} {ps : List (Int × Int)}, DenL K io F xs (ps.map dPair) → ∀ z ∈ xs.zip ps, Den K io F z.1 (dPair z.2)
  | [], [], _, z, hz => by cases hz
  | x :: xs, p :: ps, .cons a b, z, hz => by
    rw [List.zip_cons_cons] at hz
    rcases List.mem_cons.mp hz with e | hz
    · subst e; exact a
    · exact den_zip b z hz
theorem den_of_zip {K : PySem.W.Frag} {io : List Addr} {F : Hp} : ∀ {xs : List V} {ps : List (Int × Int)}, xs.length = ps.length → (∀ z ∈ xs.zip ps, Den K io F z.1 (dPair z.2)) → DenL K io F xs (ps.map dPair)
  | [], [], _, _ => .nil
  | x :: xs, p :: ps, hl, h => .cons (h (x, p) (by rw [List.zip_cons_cons]; exact List.mem_cons_self)) (den_of_zip (by simpa using hl) fun z hz => h z (by rw [List.zip_cons_cons]; exact List.mem_cons_of_mem _ hz))
theorem z_sorted {K : PySem.W.Frag} {m : Bool} : RzL K (fun vs H Q => rSortedI K vs H Q ∨ rSortPD K vs H Q) (bSorted m) where
  mo := fun ds s Q Q' h ⟨d, e1, q⟩ => ⟨d, e1, q.elim (fun ⟨ns, h1, q⟩ => .inl ⟨ns, h1, fun ns' h2 h3 => newL_mo h (q ns' h2 h3)⟩) fun ⟨ps, h1, q⟩ => .inr ⟨ps, h1, fun ps' h2 h3 => newL_mo h (q ps' h2 h3)⟩⟩
  on := fun {H io F st vs ds Q} R n ⟨d, e1, q⟩ => by
    subst e1
    obtain ⟨v, rfl, n1⟩ := n.one
    rcases q with ⟨ns, h1, q⟩ | ⟨ps, h1, q⟩
    · obtain ⟨a, xs, rfl, hl, hx, hz⟩ := rd_lst R n1 h1
      rw [den_ints hx] at hl
      refine .inl ⟨a, ns, rfl, .of hl, fun ns' p h2 h3 hp => ?_⟩
      rw [List.length_map] at hz
      exact lay_new R (den_intL ns') (by rw [List.length_map, h2.length_eq]; exact hz) (q ns' h2 h3) p hp
    · obtain ⟨a, xs, rfl, hl, hx, hz⟩ := rd_lst R n1 h1
      rw [List.length_map] at hz
      refine .inr ⟨a, xs, ps, rfl, .of hl, den_pairs R.sub hx, fun ys qs p h2 h3 h4 h5 hp => ?_⟩
      exact lay_new R (den_of_zip h4 fun z hz => den_zip hx z (h5 z hz)) (by rw [List.length_map, h2.length_eq]; exact hz) (q qs h2 h3) p hp
theorem cr_sortedB {X : Cx} : CallR X (.builtin "sorted") (fun vs H Q => rSortedI X.K vs H Q ∨ rSortPD X.K vs H Q) := cr_sortedI.or cr_sortedPD
theorem bb_sorted : bootBuiltins "sorted" = some (.builtin "sorted") := by decide +kernel
end DL
namespace DL
open PySem PySem.Spec PyProof.Rows L2
variable [Bs]
def IsKey (h : Heap) (v : Value) (x : Int) : Prop := ∃ a o t y n, v = .ref a ∧ h.get? a = some o ∧ o.cls = .type "tuple" ∧ o.data = .seq #[.int x t, y] n
theorem IsKey.keeps {h h' : Heap} {v : Value} {x : Int} (p : IsKey h v x) (k : ∀ b o, h.get? b = some o → o.cls = .type "tuple" → h'.get? b = some o) : IsKey h' v x := by
  obtain ⟨a, o, t, u, n, e, ho, hc, hd⟩ := p
  exact ⟨a, o, t, u, n, e, k _ _ ho hc, hc, hd⟩
theorem firsts_key {h : Heap} : ∀ {vs : List Value}, (∀ v ∈ vs, ∃ x, IsKey h v x) → ∃ fs : List Value, PySem.W.KatTups h vs fs ∧ fs.length = vs.length ∧ ∀ f ∈ fs, ∃ x t, f = Value.int x t
  | [], _ => ⟨[], PySem.W.KatTups.nil, rfl, fun _ hm => by simp at hm⟩
  | v :: vs, hp => by
    obtain ⟨fs, h1, h2, h3⟩ := firsts_key (vs := vs) fun v' hm => hp v' (List.mem_cons_of_mem _ hm)
    obtain ⟨x, a, o, t, u, n, e, ho, hc, hd⟩ := hp v List.mem_cons_self
    subst e
    refine ⟨.int x t :: fs, PySem.W.KatTups.cons ho hc hd rfl h1, by rw [List.length_cons, List.length_cons, h2], fun f hm => ?_⟩
    rcases List.mem_cons.mp hm with rfl | hm
    · exact ⟨x, t, rfl⟩
    · exact h3 f hm
section
variable {prog : Program} {w : World} {A : Around} {E : Value → Shared → Prop} {s : Shared}
theorem swo_key (k : Value → Int) : SrtO.Swo fun v u => decide (k v < k u) := by
  refine ⟨fun x y h => ?_, fun x y z h1 h2 => ?_⟩
  · have := of_decide_eq_true h
    exact decide_eq_false (by omega)
  · have := of_decide_eq_false h1
    have := of_decide_eq_false h2
    exact decide_eq_false (by omega)
theorem key_cmp {vs : List Value} {k : Value → Int} (hp : ∀ v ∈ vs, IsKey s.heap v (k v)) (hd : ∀ v ∈ vs, ∀ u ∈ vs, k v = k u → v = u) : SrtO.Cmp prog w A s (tuples' true) (fun p => p.1 ∈ vs) (SrtO.lt2 fun v u => decide (k v < k u)) := by
  intro p q hm hm'
  have h1 := hp _ hm
  have h2 := hp _ hm'
  have h3 := hd _ hm _ hm'
  show wpAny (model prog w) A (keyLt' (tuples' true) p.1 q.1) (fun r s' => s' = s ∧ r = decide (k p.1 < k q.1)) (fun _ _ => False) s
  generalize k p.1 = x at h1 h3 ⊢
  generalize k q.1 = x' at h2 h3 ⊢
  obtain ⟨a, o, t, y, n, e, ho, hc, hdd⟩ := h1
  obtain ⟨a', o', t', y', n', e', ho', hc', hdd'⟩ := h2
  by_cases ex : x = x'
  · subst ex
    have e3 := h3 rfl
    rw [e, e'] at e3
    cases e3
    rw [ho] at ho'
    cases ho'
    rw [hdd] at hdd'
    cases hdd'
    rw [e, e']
    refine PySem.W.kat_lt ho hdd ho hdd ?_
    show PySem.W.KatLex prog w A true (decide (2 < 2)) _ [(.int x t, .int x t), (y, y)] 0 s
    refine PySem.W.kat_cons (SeqAt.EqAt.same (.int x t) prog w _ _ ?_)
    refine PySem.W.kat_go (fun e1 => ?_) (fun e1 => nomatch e1)
    refine PySem.W.kat_yes (PySem.W.kat_cons (SeqAt.EqAt.same y prog w _ _ ?_))
    refine PySem.W.kat_go (fun e2 => ?_) (fun e2 => nomatch e2)
    exact PySem.W.kat_yes (PySem.W.kat_nil ⟨rfl, (decide_eq_false (Int.lt_irrefl _)).symm⟩)
  · rw [e, e']
    refine PySem.W.kat_lt ho hdd ho' hdd' ?_
    show PySem.W.KatLex prog w A true (decide (2 < 2)) _ [(.int x t, .int x' t'), (y, y')] 0 s
    refine PySem.W.kat_cons (SeqAt.EqAt.int_int x t x' t' prog w _ _ ?_)
    refine PySem.W.kat_go (fun e1 => absurd (by simpa using e1) ex) (fun e1 => ?_)
    exact PySem.W.kat_no (oneLt_int ⟨rfl, rfl⟩)
theorem keys_sortableO {a : Addr} {vs : List Value} {k : Value → Int} (h0 : 0 < vs.length) (hp : ∀ v ∈ vs, IsKey s.heap v (k v)) (hd : ∀ v ∈ vs, ∀ u ∈ vs, k v = k u → v = u) (ha : ∀ o, s.heap.get? a = some o → o.cls ≠ .type "tuple") : SrtO.SortableO prog w A s a vs fun v u => decide (k v < k u) := by
  intro h' keep
  have hp' : ∀ v ∈ vs, IsKey h' v (k v) := fun v hm => (hp v hm).keeps fun b o e c => keep b o (fun z => by subst z; exact ha o e c) e
  obtain ⟨fs, h1, h2, h3⟩ := firsts_key fun v hm => ⟨_, hp' v hm⟩
  refine ⟨tuples' true, fun Q E hq => ?_, key_cmp hp' hd⟩
  refine PySem.W.kat_kind (T := .type "int") h1 (by omega) (fun f hm => ?_) (by rfl) ?_
  · obtain ⟨x, t, rfl⟩ := h3 f hm
    exact PySem.W.Looks.now
  · have e : (Value.type "int" != Value.type "tuple") = true := by first | decide +kernel | rfl | decide
    rw [e]
    exact hq
theorem sorted_keysO {l : Addr} {vs : List Value} {k : Value → Int} {Q : Value → Shared → Prop} (hl : s.heap.IsList l vs.toArray) (hz : vs.length ≤ sizeLine) (hp : ∀ v ∈ vs, IsKey s.heap v (k v)) (hd : ∀ v ∈ vs, ∀ u ∈ vs, k v = k u → v = u)
    (h : ∀ (h' : Heap) (d : Addr) (out : List Value), SrtO.Srtd (fun v u => decide (k v < k u)) out → SrtO.Stb (fun v u => decide (k v < k u)) out vs → (∀ b o, s.heap.get? b = some o → h'.get? b = some o) → s.heap.objs.size ≤ d → (∃ n, h'.get? d = some (seqObj "list" out.toArray n)) → Q (.ref d) { s with heap := h' }) :
    wpAny (model prog w) A (call (.builtin "sorted") [.ref l]) Q E s := by
  refine SrtO.sorted_ord (swo_key k) hl hz (fun h2 h₁ a ha kk => ?_) fun out hs hb => ?_
  · refine keys_sortableO (s := { s with heap := h₁ }) (by omega) (fun v hm => (hp v hm).keeps fun b o e _ => (kk b o e).2) hd fun o e => ?_
    have e' : some o = some (seqObj "list" vs.toArray 0) := e.symm.trans ha
    cases e'
    intro c
    exact absurd (Value.type.inj c) (by decide)
  · exact h _ _ out hs hb (fun b o e => PyProof.Rows.sortedAll_old e) (Nat.le_succ _) (PyProof.Rows.sortedAll_at s.heap vs out.toArray)
end
def IsK (K : PySem.W.Frag) (H : Hp) (x : V) (k : Int) : Prop := ∃ t y, x = .ref t ∧ SqT K H t [.int k, y]
def rSortKD (K : PySem.W.Frag) : List V → Hp → VK → Prop := fun vs H Q => ∃ (a : Addr) (xs : List V) (ks : List Int), vs = [V.ref a] ∧ SqL K H a xs ∧ Paired (IsK K H) xs ks ∧ ks.Nodup ∧
  ∀ ys js p, js.Perm ks → js.Pairwise (· < ·) → ys.length = js.length → (∀ z ∈ ys.zip js, z ∈ xs.zip ks) → H p = none → Q (.ref p) (upd H p (.lst ys))
open Classical in
noncomputable def kK (K : PySem.W.Frag) (H : Hp) (x : V) : Int := if h : ∃ p, IsK K H x p then Classical.choose h else 0
theorem kK_eq {X : Cx} {pins : List (Addr × Obj)} {σ : L2.St} {H : Hp} {s : Shared} (I : Inv X pins σ H s) {x : V} {p : Int} (h : IsK X.K H x p) : kK X.K H x = p := by
  unfold kK
  rw [dif_pos ⟨p, h⟩]
  obtain ⟨t, y, e1, h1⟩ := Classical.choose_spec (⟨p, h⟩ : ∃ p, IsK X.K H x p)
  obtain ⟨t', y', e2, h2⟩ := h
  rw [e1] at e2
  cases e2
  have := I.tuple_inj h1 h2
  injection this with a b
  injection a with a
theorem nodup_inj {α β : Type} {k : α → β} : ∀ {xs : List α}, (xs.map k).Nodup → ∀ x ∈ xs, ∀ y ∈ xs, k x = k y → x = y
  | a :: r, h, x, hx, y, hy, e => by
    rw [List.map_cons, List.nodup_cons] at h
    rcases List.mem_cons.mp hx with e1 | hx
    · rcases List.mem_cons.mp hy with e2 | hy
      · rw [e1, e2]
      · exact absurd (List.mem_map.mpr ⟨y, hy, by rw [← e, e1]⟩) h.1
    · rcases List.mem_cons.mp hy with e2 | hy
      · exact absurd (List.mem_map.mpr ⟨x, hx, by rw [e, e2]⟩) h.1
      · exact nodup_inj h.2 x hx y hy e
theorem cr_sortedKD {X : Cx} : CallR X (.builtin "sorted") (rSortKD X.K) := by
  intro pins s σ H vs us Q I r h
  obtain ⟨a, xs, ks, rfl, hs, hx, hnd, q⟩ := h
  obtain ⟨its, rv, hl, hz⟩ := I.list hs
  obtain ⟨u, rfl, ru⟩ := vals1 r
  obtain rfl : u = Value.ref a := ru
  have hmap := paired_map (fun x p h => kK_eq I h) hx
  have hall : ∀ x ∈ xs, IsK X.K H x (kK X.K H x) := fun x hm => by
    obtain ⟨p, hp⟩ := paired_mem hx x hm
    rw [kK_eq I hp]; exact hp
  obtain ⟨e1, e2⟩ := refs_back rv fun x m => by
    obtain ⟨t, _, e, _⟩ := hall x m
    exact ⟨t, e⟩
  have hin : ∀ v ∈ its, backV v ∈ xs := fun v hv => by rw [e1]; exact List.mem_map.mpr ⟨_, hv, rfl⟩
  refine sorted_keysO (k := fun u => kK X.K H (backV u)) hl.isList (by rw [← rv.length]; exact hz) (fun v hv => ?_) (fun v hv u hu e => ?_) fun h' d out h1 h2 kp hd hn => ?_
  · obtain ⟨t, rfl⟩ := e2 v hv
    obtain ⟨t', y, e, ht⟩ := hall _ (hin _ hv)
    cases e
    obtain ⟨its2, r2, hT, _⟩ := I.tuple ht
    obtain ⟨o, ho, hc, n, hd⟩ := hT
    obtain ⟨u1, u2, rfl, ri, rj⟩ := vals2 r2
    obtain ⟨t1, rfl⟩ := ri
    exact ⟨t, o, t1, u2, n, rfl, ho, hc, hd⟩
  · have := nodup_inj (k := kK X.K H) (by rw [hmap]; exact hnd) _ (hin v hv) _ (hin u hu) e
    obtain ⟨t, rfl⟩ := e2 v hv
    obtain ⟨t', rfl⟩ := e2 u hu
    have : V.ref t = V.ref t' := this
    cases this
    rfl
  · have h3 : ∀ u ∈ out, ∃ a, u = Value.ref a := fun u hu => e2 u (h2.perm.mem_iff.mp hu)
    obtain ⟨n, hn⟩ := hn
    have hperm : (out.map backV).Perm xs := by rw [e1]; exact h2.perm.map _
    have hp2 : ((out.map backV).map (kK X.K H)).Perm ks := by rw [← hmap]; exact hperm.map _
    refine ⟨.ref d, upd H d (.lst (out.map backV)), I.laid (t' := s.toks) kp hd ⟨?_, out, n, vals_back h3, hn⟩, rfl, q (out.map backV) ((out.map backV).map (kK X.K H)) d hp2 ?_ (List.length_map (f := kK X.K H)).symm (fun z hz => ?_) (I.hok.fresh hd)⟩
    · rw [hperm.length_eq]; exact hz
    · have hle : ((out.map backV).map (kK X.K H)).Pairwise (· ≤ ·) := by
        refine List.pairwise_map.mpr (List.pairwise_map.mpr (List.Pairwise.imp (fun {x y} h => ?_) h1))
        have := of_decide_eq_false h
        omega
      have hne := (hp2.nodup_iff.mpr hnd)
      rw [List.nodup_iff_pairwise_ne] at hne
      exact (hle.and hne).imp fun ⟨h1, h2⟩ => by omega
    · rw [zip_self] at hz
      obtain ⟨y, hy, rfl⟩ := List.mem_map.mp hz
      rw [← hmap, zip_self]
      exact List.mem_map.mpr ⟨y, hperm.mem_iff.mp hy, rfl⟩
/-- sorted(xs): of ints, of pairs of ints, of pairs of an int and something, no int twice -/
def dKey (p : Int × D) : D := .tup [.int p.1, p.2]
def bSortK (m : Bool) : RLD := fun ds st Q => bSorted m ds st Q ∨ ∃ d, ds = [d] ∧ ∃ ps : List (Int × D), rd st d = .lst (ps.map dKey) ∧ (ps.map (·.1)).Nodup ∧ ∀ ps' : List (Int × D), ps'.Perm ps → (ps'.map (·.1)).Pairwise (· < ·) → newL m (ps'.map dKey) st Q
theorem den_keys {K : PySem.W.Frag} {io : List Addr} {F H : Hp} (hs : ∀ a o, F a = some o → H a = some o) : ∀ {xs : List V} {ps : List (Int × D)}, DenL K io F xs (ps.map dKey) → Paired (IsK K H) xs (ps.map (·.1))
  | [], [], _ => .nil
  | x :: xs, p :: ps, .cons a b => by
    refine .cons ?_ (den_keys hs b)
    have a : Den K io F x (.tup [.int p.1, p.2]) := a
    cases a with
    | tup s1 r1 _ =>
      cases r1 with
      | cons a1 r1 => cases r1 with
        | cons b1 r1 =>
          cases r1
          cases a1
          exact ⟨_, _, rfl, SqT_mono hs s1.t⟩
theorem den_kzip {K : PySem.W.Frag} {io : List Addr} {F : Hp} : ∀ {xs : List V} {ps : List (Int × D)}, DenL K io F xs (ps.map dKey) → ∀ z ∈ xs.zip (ps.map (·.1)), ∃ p ∈ ps, p.1 = z.2 ∧ Den K io F z.1 (dKey p)
  | [], [], _, z, hz => by cases hz
  | x :: xs, p :: ps, .cons a b, z, hz => by
    rw [List.map_cons, List.zip_cons_cons] at hz
    rcases List.mem_cons.mp hz with e | hz
    · subst e; exact ⟨p, List.mem_cons_self, rfl, a⟩
    · obtain ⟨q, h1, h2⟩ := den_kzip b z hz
      exact ⟨q, List.mem_cons_of_mem _ h1, h2⟩
theorem keyed {K : PySem.W.Frag} {io : List Addr} {F : Hp} {ps : List (Int × D)} : ∀ {ys : List V} {js : List Int}, ys.length = js.length → (∀ z ∈ ys.zip js, ∃ p ∈ ps, p.1 = z.2 ∧ Den K io F z.1 (dKey p)) → ∃ qs : List (Int × D), qs.map (·.1) = js ∧ (∀ q ∈ qs, q ∈ ps) ∧ DenL K io F ys (qs.map dKey)
  | [], [], _, _ => ⟨[], rfl, fun _ h => (nomatch h), .nil⟩
  | y :: ys, j :: js, hl, h => by
    obtain ⟨p, hp, e, hd⟩ := h (y, j) (by rw [List.zip_cons_cons]; exact List.mem_cons_self)
    obtain ⟨qs, h1, h2, h3⟩ := keyed (ys := ys) (js := js) (by simpa using hl) fun z hz => h z (by rw [List.zip_cons_cons]; exact List.mem_cons_of_mem _ hz)
    refine ⟨p :: qs, by rw [List.map_cons, h1, e], fun q hq => ?_, .cons hd h3⟩
    rcases List.mem_cons.mp hq with e | hq
    · subst e; exact hp
    · exact h2 q hq
/-- of pairs without an int twice: as many of theirs, no int twice, are all of them -/
theorem perm_keys {ps qs : List (Int × D)} (hn : (ps.map (·.1)).Nodup) (hq : (qs.map (·.1)).Perm (ps.map (·.1))) (hm : ∀ q ∈ qs, q ∈ ps) : qs.Perm ps := by
  induction qs generalizing ps with
  | nil =>
    have := hq.length_eq
    rw [List.length_map, List.length_map] at this
    rw [List.eq_nil_of_length_eq_zero (l := ps) this.symm]
  | cons q r ih =>
    obtain ⟨i, hi, e⟩ := List.getElem_of_mem (hm q List.mem_cons_self)
    obtain ⟨l1, l2, hps⟩ := List.append_of_mem (hm q List.mem_cons_self)
    subst hps
    have hp : (l1 ++ q :: l2).Perm (q :: (l1 ++ l2)) := List.perm_middle
    have hn2 := (hp.map (·.1)).nodup_iff.mp hn
    rw [List.map_cons, List.nodup_cons] at hn2
    have hq2 := hq.trans (hp.map (·.1))
    rw [List.map_cons, List.map_cons] at hq2
    have hq3 := hq2.cons_inv
    have hnr := hq3.nodup_iff.mpr hn2.2
    refine ((ih hn2.2 hq3 fun x hx => ?_).cons q).trans hp.symm
    have := hp.mem_iff.mp (hm x (List.mem_cons_of_mem _ hx))
    rcases List.mem_cons.mp this with e | h
    · subst e
      exact absurd (hq3.mem_iff.mp (List.mem_map.mpr ⟨_, hx, rfl⟩)) hn2.1
    · exact h
theorem z_sortK {K : PySem.W.Frag} {m : Bool} : RzL K (fun vs H Q => (rSortedI K vs H Q ∨ rSortPD K vs H Q) ∨ rSortKD K vs H Q) (bSortK m) where
  mo := fun ds s Q Q' h q => q.elim (fun q => .inl (z_sorted (K := K).mo _ _ _ _ h q)) fun ⟨d, e1, ps, h1, hn, q⟩ => .inr ⟨d, e1, ps, h1, hn, fun ps' h2 h3 => newL_mo h (q ps' h2 h3)⟩
  on := fun {H io F st vs ds Q} R n q => by
    rcases q with q | ⟨d, e1, ps, h1, hn, q⟩
    · exact .inl (z_sorted.on R n q)
    · subst e1
      obtain ⟨v, rfl, n1⟩ := n.one
      obtain ⟨a, xs, rfl, hl, hx, hz⟩ := rd_lst R n1 h1
      rw [List.length_map] at hz
      refine .inr ⟨a, xs, ps.map (·.1), rfl, .of hl, den_keys R.sub hx, hn, fun ys js p h2 h3 h4 h5 hp => ?_⟩
      obtain ⟨qs, g1, g2, g3⟩ := keyed (ps := ps) (ys := ys) (js := js) h4 fun z hz => den_kzip hx z (h5 z hz)
      subst g1
      have hperm := perm_keys hn h2 g2
      exact lay_new R g3 (by rw [List.length_map, hperm.length_eq]; exact hz) (q qs hperm h3) p hp
theorem cr_sortedAll {X : Cx} : CallR X (.builtin "sorted") (fun vs H Q => (rSortedI X.K vs H Q ∨ rSortPD X.K vs H Q) ∨ rSortKD X.K vs H Q) := cr_sortedB.or cr_sortedKD
end DL
namespace DL
open PySem PySem.Spec PyProof.Rows L2
variable [Bs]
/-- one parameter p, no other name of its own: captured ones and globals -/
structure LamP (sc scope : Scope) (p : Str) : Prop where
  kind : scope.kind = .function
  co : scope.isCoroutine = false
  gen : scope.isGenerator = false
  par : (scope.names.lookup p = some .local ∧ scope.names.filter (fun y => y.2 == .cell) = []) ∨ (scope.names.lookup p = some .cell ∧ scope.names.filter (fun y => y.2 == .cell) = [(p, .cell)])
  own : ∀ y ∈ scope.names, y.2 = .local ∨ y.2 = .cell → y.1 = p
  free : ∀ y ∈ scope.names, y.2 = .free → y.1 ≠ p ∧ (sc.names.lookup y.1 = some .cell ∨ sc.names.lookup y.1 = some .free)
section
variable {X : Cx} {pins : List (Addr × Obj)} {σ : L2.St} {H HZ : Hp} {s s1 : Shared}
theorem LamP.has {scope : Scope} {p : Str} (L : LamP X.env.scope scope p) (ok : X.Ok) : ∀ y ∈ scope.names, y.2 = .free → ∃ c, X.env.cells.lookup y.1 = some c := fun y hy e => by
  rcases (L.free y hy e).2 with k | k
  · exact ok.has _ (.inl k)
  · exact ok.has _ (.inr k)
end
end DL
namespace PySem.AutoSeq1
end PySem.AutoSeq1
namespace L2
open PySem PySem.Spec PyProof.Rows
end L2
namespace DL
open PySem PySem.Spec PyProof.Rows L2
variable [Bs]
theorem denF_at {K : PySem.W.Frag} {io : List Addr} {F : Hp} {f : Str} {d : D} : ∀ {fv : List (Str × V)} {fs : List (Str × D)}, DenF K io F fv fs → fs.lookup f = some d → ∃ v, fv.lookup f = some v ∧ Den K io F v d
  | _, _, .nil, e => by cases e
  | (g, x) :: r, (g', y) :: r', .cons ⟨e1, n⟩ t, e => by
    cases e1
    rw [List.lookup_cons] at e ⊢
    cases h : f == g with
    | true => rw [h] at e; cases e; exact ⟨x, rfl, n⟩
    | false => rw [h] at e; exact denF_at t e
end DL
namespace DL
open PySem PySem.Spec PyProof.Rows L2
section
variable {X : Cx} {e : Expr} {es : List Expr} {ta : TA} {p pos : Pos}
theorem takes_noneN {X : Cx} : L2N.Takes X (fun _ _ _ _ => False) := fun _ _ ⟨_, _, _, _, _, _, _, _, _, _, _, _, _, _, _, _, w⟩ => w.elim
theorem pmk_ownAN {C : Addr} {bmB : List Value} {B newId initId : String} {x : Str} {t : TA} (F : ExcBaseFacts B newId initId bmB) (q : PySem.W.excIn X.K C bmB newId = true) (gC : X.mg x = some (.ref C))
    (kC : PySem.W.keepIn X.K (.ref C) = true) (r : Raises X (.ref C)) (hg : Gl X x) (ha : PA X (e :: es) t) (hdb : (x == ("__debug__" : Str)) = false := by decide)
    (he : starEach (e :: es) X.env = (false, eval e X.env) :: starEach es X.env := by rfl) (hpl : (backTo pos (starEach es X.env)).any (·.1) = false := by rfl) :
    L2N.PMk X (.Call (.Name x p) (e :: es) [] pos) (fun σ H Q => t σ H fun vs H1 => vs.length ≤ sizeLine ∧ Q (.ref C) none H1) := by
  intro pins s σ H Q I h
  refine wpAny_Call_Name_kw (ld_glob I hg gC ?_ hdb)
  refine PySem.W.callWith_K (h₀ := X.base) I.ok.mod.kin kC (thn (ha.run pos pins s σ H _ I h) fun us s1 hr => ?_) he hpl
  obtain ⟨vs, H1, I1, r1, hz, q1⟩ := hr
  refine ⟨I1.kIn, ?_⟩
  show wpAny _ _ (call (.ref C) us) _ _ _
  obtain ⟨bm, N, nm, qn, bs, hdct, sn, sub, ab, col, dd, k0, k1, k2, k3, k5, mN, hC, hN, hni, T⟩ := exc_obj I1.kIn q
  exact wpAny_call_exc_subT F T hC hN hni (fun h' e hm => L2N.mk_of I1 hm r q1 (I1.hok.gone hm.new)) (by rw [← r1.length]; exact hz)
theorem pmk_oexN {CX : CXT} {x : Str} {C fI : Addr} {k : Nat} {fd : FuncData} {ps : List Str} {sp : Sp} (T : OexC X.K C) (iC : PySem.W.findIn X.K (.ref C) "__init__" = some (some (.ref fI))) (tI : PySem.W.typeIn X.K (.ref fI) = some (.type "function"))
    (F1 : FnOk X.prog X.w X.K X.mg X.base CX k fI fd ps sp) (hr : Room (k + 1) X.A) (hb : Binds X.K fd ps []) (hx : Passes CX X (fun _ _ _ => False)) (hg : Gl X x) (hm : X.mg x = some (.ref C)) (ha : PA X (e :: es) ta)
    (hdb : (x == ("__debug__" : Str)) = false := by decide) (he : starEach (e :: es) X.env = (false, eval e X.env) :: starEach es X.env := by rfl) (hpl : (backTo pos (starEach es X.env)).any (·.1) = false := by rfl) :
    L2N.PMk X (.Call (.Name x p) (e :: es) [] pos) (tMkO C sp [] ta) := by
  intro pins s σ H Q I h
  obtain ⟨nm, q, N, bs, bm, sn, sub, ab, col, dd, k0, k1, k2, k3, k5, hC, hbm⟩ := T.cls
  refine wpAny_Call_Name_kw (ld_glob I hg hm ?_ hdb)
  refine PySem.W.callWith_K (h₀ := X.base) I.ok.mod.kin T.kC (thn (ha.run pos pins s σ H _ I h) fun us s1 hr1 => ?_) he hpl
  obtain ⟨vs, H1, I1, r1, hz, q1⟩ := hr1
  refine ⟨I1.kIn, ?_⟩
  show wpAny _ _ (call (.ref C) us) _ _ _
  obtain ⟨hp, g, dr, tk, os⟩ := s1
  have up1 := Nat.le_succ hp.objs.size
  have hq := q1 (hp.objs.size + 1) (I1.hok.fresh up1)
  have keep : ∀ b o, hp.get? b = some o → ((hp.push (PySem.W.kdv_tup us)).push (PySem.HandSPX.excO C hp.objs.size)).get? b = some o := fun b o z => Heap.get?_push_of_some _ (Heap.get?_push_of_some _ z)
  have made : ((hp.push (PySem.W.kdv_tup us)).push (PySem.HandSPX.excO C hp.objs.size)).get? (hp.objs.size + 1) = some (PySem.HandSPX.excO C hp.objs.size) := by heap_get
  have I2 : Inv X pins σ (upd H1 (hp.objs.size + 1) (exo (hp.objs.size + 1) C none)) ⟨(hp.push (PySem.W.kdv_tup us)).push (PySem.HandSPX.excO C hp.objs.size), g, dr, tk, os⟩ :=
    I1.laid (t' := tk) (a := hp.objs.size + 1) (o := exo (hp.objs.size + 1) C none) (h' := (hp.push (PySem.W.kdv_tup us)).push (PySem.HandSPX.excO C hp.objs.size)) keep up1 (exo_ok made)
  have r2 : Vals (V.ref (hp.objs.size + 1) :: (vs ++ [])) (Value.ref (hp.objs.size + 1) :: (us ++ [])) := .cons rfl (r1.append .nil)
  have hl : (Value.ref (hp.objs.size + 1) :: us ++ []).length = ps.length := r2.length.symm.trans (F1.len _ _ _ _ hq)
  have hus : us.length ≤ sizeLine := by rw [← Paired.length r1, sizeLine_eq]; omega
  have hbb := hb _ (Value.ref (hp.objs.size + 1) :: us) I2.kIn hl
  have run := F1.run _ X.stack _ _ ⟨Value.ref (hp.objs.size + 1) :: us, []⟩ (Value.ref (hp.objs.size + 1) :: us ++ []) _ _ (fun _ _ _ => False) (hr.make C us []) (I2.env0.make C us []) hbb r2 hq
  refine wpAny_call (PySem.HandSPX.call_own F.excBase_ValueError (fun Y => PySem.HandSPX.refsVE_contains Y bm hbm) (I1.kIn _ _ hC) (PySem.W.looks_findIn I1.kIn iC) (fun self => PySem.W.bind_fn I1.kIn self tI) hus (codeAny_mono run fun r s' hq' => ?_))
  match r, hq' with
  | .error er, hq' => exact hx pins σ _ _ er s' I2 hq'
  | .ok (.ret u), hq' =>
    obtain ⟨v, H2, os2, bare2, un2, hok2, rv, ev, d, fs, ea, ed, hd1, q2⟩ := hq'
    subst ev
    obtain ⟨h2, g2, d2, t2, os'⟩ := s'
    obtain ⟨t0, G, J, kG, ge, hoe, na⟩ := mk_end0 (d2 := d2) (t2 := t2) I1 up1 keep un2 hok2 os2 bare2 ea ed hd1
    exact ⟨rv, hp.objs.size + 1, _, _, ⟨G, g2, d2, t2, os'⟩, _, .ref C, some d, rfl, J, kG, ge, hoe, ⟨rfl, rfl, fun vs hv => by cases hv; rfl⟩, rfl, rfl, na, rfl, bare2, raises_own T.exC T.tyC, q2⟩
  | .ok .next, hq' => exact hq'.elim
  | .ok .brk, hq' => exact hq'.elim
  | .ok .cont, hq' => exact hq'.elim
end
/-- an exception: its class's name, its fields -/
structure Exc where
  cls : Str
  fs : List (Str × D)
abbrev DX := Exc → En → Sto → Prop
def ExcR (K : PySem.W.Frag) (H : Hp) (io : List Addr) (F : Hp) (cls : Value) (d : Option Addr) (e : Exc) : Prop :=
  ∃ C, cls = .ref C ∧ PySem.W.nsIn K mainGlobals e.cls = some (some (.ref C)) ∧ ((d = none ∧ e.fs = []) ∨ ∃ dd fv, d = some dd ∧ H dd = some (.xd fv) ∧ F dd = none ∧ dd ∉ io ∧ DenF K io F fv e.fs)
section
variable {K : PySem.W.Frag} {io io' : List Addr} {F F' H H' : Hp} {st st' : Sto} {cls : Value} {d : Option Addr} {e : Exc}
theorem ExcR.next (s : Stp H io F H' io' F') (h : ExcR K H io F cls d e) : ExcR K H' io' F' cls d e := by
  obtain ⟨C, e1, e2, ⟨e3, e4⟩ | ⟨dd, fv, e3, e4, e5, e6, e7⟩⟩ := h
  · exact ⟨C, e1, e2, .inl ⟨e3, e4⟩⟩
  · obtain ⟨h1, h2, h3⟩ := s.beside e4 (fun _ z => nomatch z) e5 e6
    exact ⟨C, e1, e2, .inr ⟨dd, fv, e3, h1, h2, h3, Paired.mapP e7 fun p q z => ⟨z.1, s.den z.2⟩⟩⟩
end
/-- .. whose dict is new since H0 -/
def ExcX (H0 : Hp) (K : PySem.W.Frag) (H : Hp) (io : List Addr) (F : Hp) (cls : Value) (d : Option Addr) (e : Exc) : Prop := ExcR K H io F cls d e ∧ ∀ dd, d = some dd → H0 dd = none
/-- the wish for an exception, told in states of ours -/
def kX [B : Bs] (K : PySem.W.Frag) (W : WX) : DX := fun e env st => ∀ σ cls d io F H, Rel K σ H env io F st → ExcX B.H K H io F cls d e → W cls d σ H
/-- the wish R is one that the context takes -/
def TkD [Bs] (X : Cx) (R : DX) : Prop := ∃ W, L2N.Takes X W ∧ ∀ e env st, R e env st → kX X.K W e env st
/-- a def that may raise -/
structure SpecX extends Spec where
  rz : G → Sto → Exc → Sto → Prop
def spX (K : PySem.W.Frag) (S : SpecX) : Sp := fun vs H Q E => ∃ g io F st, (S.args g).length = S.n ∧ RelH K H io F st ∧ DenL K io F vs (S.args g) ∧ S.pre g st ∧ (∀ d st', S.post g st d st' → kE K H io F Q d st') ∧
  ∀ e st', S.rz g st e st' → ∀ cls d io' F' H', Stp H io F H' io' F' → RelH K H' io' F' st' → ExcX H K H' io' F' cls d e → E cls d H'
def wCallX (S : SpecX) (R : DX) (wa : DA) : DE := fun env st Q => wa env st fun ds s1 => ∃ g, ds = S.args g ∧ (S.args g).length = S.n ∧ S.pre g s1 ∧ (∀ d s2, S.post g s1 d s2 → Q d s2) ∧ ∀ e s2, S.rz g s1 e s2 → R e env s2
section
variable {X : Cx} {CX : CXT} {k : Nat} {f : Addr} {fd : FuncData} {ps : List Str} {sp : Sp} {x : Str} {p pos : Pos} {e : Expr} {es : List Expr} {t : TA}
theorem runGS {pins : List (Addr × Obj)} {σ : L2.St} {H : Hp} {s : Shared} {Q : VK} {E : XK} {us : List Value} {vs : List V} (F : FnG X.prog X.w X.K X.mg X.base CX k f fd ps sp) (hr : Room k X.A) (hgd : X.A.guards = some []) (hb : Binds X.K fd ps [])
    (hx : PassesAt CX X σ E) (I : Inv X pins σ H s) (r : Vals vs us) (h : sp vs H Q E) : wpAny (model X.prog X.w) X.A (call (.ref f) us) (EP X pins σ Q) X.xe s := by
  have hlen : (us ++ []).length = ps.length := by rw [List.append_nil, ← r.length]; exact F.len _ _ _ _ h
  have hbind := hb s us I.kIn hlen
  rw [List.append_nil] at hbind
  have run := F.run X.A X.stack s H ⟨us, []⟩ us vs Q E hr hgd I.env0 hbind r h
  refine wpAny_call (codeAny_mono run fun res s' hq => ?_)
  match res, hq with
  | .error e, hq => exact hx pins H s e s' I hq
  | .ok (.ret u), hq => exact I.after hq
  | .ok .next, hq => exact hq.elim
  | .ok .brk, hq => exact hq.elim
  | .ok .cont, hq => exact hq.elim
theorem pe_callGS {E : L2.St → XK} (F : FnG X.prog X.w X.K X.mg X.base CX k f fd ps sp) (hr : Room k X.A) (hgd : X.A.guards = some []) (hg : Gl X x) (hm : X.mg x = some (.ref f)) (hk : PySem.W.keepIn X.K (.ref f) = true) (hb : Binds X.K fd ps []) (hx : ∀ σ, PassesAt CX X σ (E σ))
    (ha : PA X (e :: es) t) (hdb : (x == ("__debug__" : Str)) = false := by decide) (he : starEach (e :: es) X.env = (false, eval e X.env) :: starEach es X.env := by rfl) (hpl : (backTo pos (starEach es X.env)).any (·.1) = false := by rfl) :
    PE X (.Call (.Name x p) (e :: es) [] pos) (fun σ H Q => t σ H fun vs H1 => sp vs H1 Q (E σ)) := by
  refine ⟨fun pins s σ H Q I h => wpAny_Call_Name_kw (ld_glob I hg hm ?_ hdb)⟩
  refine PySem.W.callWith_K (h₀ := X.base) I.ok.mod.kin hk (thn (ha.run pos pins s σ H _ I h) fun us s1 h1 => ?_) he hpl
  obtain ⟨vs, H1, I1, r, q⟩ := h1
  exact ⟨I1.kIn, runGS F hr hgd hb (hx σ) I1 r q⟩
variable [Bs] {wa : DA}
/-- a call of a def that may raise -/
theorem we_callR {S : SpecX} {R : DX} (tk : TkD X R) (F : FnG X.prog X.w X.K X.mg X.base (L2N.CX X.prog X.w) k f fd ps (spX X.K S)) (hr : Room k X.A) (hgd : X.A.guards = some []) (hg : Gl X x) (hm : X.mg x = some (.ref f)) (hk : PySem.W.keepIn X.K (.ref f) = true) (hb : Binds X.K fd ps [])
    (ha : WA X (e :: es) wa) (hdb : (x == ("__debug__" : Str)) = false := by decide) (he : starEach (e :: es) X.env = (false, eval e X.env) :: starEach es X.env := by rfl) (hpl : (backTo pos (starEach es X.env)).any (·.1) = false := by rfl) :
    WE X (.Call (.Name x p) (e :: es) [] pos) (wCallX S R wa) := by
  obtain ⟨W, tk, hW⟩ := tk
  refine ⟨fun _ _ _ _ i q => ha.mo _ _ _ _ (fun _ _ ⟨g, e, z, p, q, r⟩ => ⟨g, e, z, p, fun d s h => i _ _ (q d s h), r⟩) q, PE_imp (pe_callGS F hr hgd hg hm hk hb (fun σ => L2N.passAt tk σ) ha.pe hdb he hpl) fun σ H Q ⟨env, io, F, st, R1, q⟩ => ?_⟩
  refine tA_use ha.mo R1 q fun ds s1 vs io1 F1 H1 ⟨g, eg, z, p1, q1, r1⟩ t1 R1 n1 => ?_
  subst eg
  exact ⟨g, io1, F1, s1, z, R1.toRelH, n1, p1, fun d s2 h => kE_later t1 (q1 d s2 h), fun e st' h cls d io' F' H' t2 R2 x2 => hW _ _ _ (r1 e st' h) σ cls d io' F' H' (R1.next t2 R2) ⟨x2.1, fun dd z => R1.bs.none_of (x2.2 dd z)⟩⟩
end
section
variable {P : Program} {w : World} {K : PySem.W.Frag} {mg : Str → Option Value} {base : Heap}
theorem takes_cx {x qual : Str} {N : List Str} {sc : Scope} {f : Addr} {cdv : Value} {A : Around} {outer : List Env} {s : Shared} {H : Hp} {E : XK} : L2N.Takes (cxOf (L2N.CX P w) P w K mg base N qual sc f cdv A outer s H E) (fun cls d _ H' => E cls d H') :=
  fun u s' x => L2N.XE.leave (W := fun cls d _ H => E cls d H) (E := E) rfl rfl rfl (fun _ _ _ _ h => h) x
theorem fn_okX {x qual : Str} {st : Stmt} {f : Addr} {fd : FuncData} {N ps : List Str} {k : Nat} {S : SpecX} {wb : DX → DS} (F : Fun K x qual st f fd) (sc : FnScope N ps (defScope st)) (hn : S.n = ps.length)
    (body : ∀ [Bs] (cdv : Value) (A : Around) (outer : List Env) (s : Shared) (H : Hp) (E : XK) (R : DX), Room k (A.deeper (envOfC qual (defScope st) s.heap.objs.size f cdv)) → A.guards = some [] → TkD (cxOf (L2N.CX P w) P w K mg base N qual (defScope st) f cdv A outer s H E) R →
      WB (cxOf (L2N.CX P w) P w K mg base N qual (defScope st) f cdv A outer s H E) (defBody st) (wb R))
    (vc : ∀ g sto, (S.args g).length = S.n → S.pre g sto → wb (fun e _ s => S.rz g sto e s) (bodyEnds (S.post g sto)) (startE N (S.args g)) sto) : FnG P w K mg base (L2N.CX P w) (k + 1) f fd ps (spX K S) := by
  refine fnG_of F sc (fun vs H Q E h => ?_) (fun cdv A outer s H vs Q E _ hr hgd h => ?_)
  · obtain ⟨g, io, Fz, sto, z, R, n, p, q⟩ := h
    rw [n.length, z, hn]
  · obtain ⟨g, io, Fz, sto, z, R, n, p, q, r⟩ := h
    letI : Bs := ⟨H, io, Fz⟩
    have B := body cdv A outer s H E (fun e _ s => S.rz g sto e s) hr hgd ⟨fun cls d _ H' => E cls d H', takes_cx (x := x), fun e env s hz σ cls d io' F' H' R' xr => r e s hz cls d io' F' H' R'.bs R'.toRelH xr⟩
    refine ⟨_, B.pe, startE N (S.args g), io, Fz, sto, start_rel R n, B.mo (bodyEnds (S.post g sto)) _ _ _ ?_ (vc g sto z p)⟩
    refine ⟨fun e s h => ?_, fun d s h => ?_, fun e s h => h.elim, fun e s h => h.elim⟩
    · exact fun σ' io' F' H' t R' => q .non s h .non io' F' H' t R'.toRelH .non
    · exact q d s h
end
section
variable {X : Cx} {x : Str} {C : Addr} {p pos pos' : Pos} {e : Expr} {es : List Expr} {wa : DA}
variable [Bs]
def wRaiseA (cn : Str) (wa : DA) (R : DX) : DS := fun _ env st => wa env st fun ds s => ds.length ≤ sizeLine ∧ R ⟨cn, []⟩ env s
def wRaiseF (cn f : Str) (wa : DA) (R : DX) : DS := fun _ env st => wa env st fun ds s => ∃ d, ds = [d] ∧ R ⟨cn, [(f, d)]⟩ env s
/-- what the written part says of a class without an own __init__ -/
structure ErrC (K : PySem.W.Frag) (cn : Str) (C : Addr) : Prop where
  aC : PySem.W.nsIn K mainGlobals cn = some (some (.ref C))
  q : PySem.W.excIn K C [.type "ValueError", .type "Exception", .type "BaseException", .type "object"] "ValueError.__new__" = true
  kC : PySem.W.keepIn K (.ref C) = true
  exC : PySem.W.subIn K (.ref C) (.type "BaseException") = some true
  tyC : PySem.W.typeIn K (.ref C) = some (.type "type")
theorem rel_exc {K : PySem.W.Frag} {σ : L2.St} {H : Hp} {env : En} {io : List Addr} {F : Hp} {st : Sto} {cn : Str} {C : Addr} {W : WX} {R : DX} (aC : PySem.W.nsIn K mainGlobals cn = some (some (.ref C))) (hW : ∀ e env st, R e env st → kX K W e env st) (Rl : Rel K σ H env io F st) (q : R ⟨cn, []⟩ env st) : W (.ref C) none σ H :=
  hW _ _ _ q σ _ _ io F H Rl ⟨⟨C, rfl, aC, .inl ⟨rfl, rfl⟩⟩, fun _ z => nomatch z⟩
theorem ws_raiseA {R : DX} {cn : Str} (hc : X.calm = true) (tk : TkD X R) (T : ErrC X.K x C) (gC : X.mg x = some (.ref C)) (hg : Gl X x) (ha : WA X (e :: es) wa) (hdb : (x == ("__debug__" : Str)) = false := by decide)
    (he : starEach (e :: es) X.env = (false, eval e X.env) :: starEach es X.env := by rfl) (hpl : (backTo pos (starEach es X.env)).any (·.1) = false := by rfl) : WS X (.Raise (some (.Call (.Name x p) (e :: es) [] pos)) none pos') (wRaiseA x wa R) := by
  obtain ⟨W, tk, hW⟩ := tk
  refine ⟨fun _ _ _ _ _ q => q, PS_imp (L2N.ps_raise hc tk (pmk_ownAN F.excBase_ValueError T.q gC T.kC (raises_own T.exC T.tyC) hg ha.pe hdb he hpl)) fun D σ H ⟨env, io, F, st, Rl, q⟩ => ?_⟩
  refine tA_use ha.mo Rl q fun ds s1 vs io1 F1 H1 ⟨z, q1⟩ t1 R1 n1 => ⟨by rw [n1.length]; exact z, rel_exc T.aC hW R1 q1⟩
def spI (K : PySem.W.Frag) (f : Str) : Sp := fun vs H Q _ => ∃ a y C, vs = [.ref a, y] ∧ OexC K C ∧ PySem.W.findIn K (.ref C) f = some none ∧ H a = some (exo a C none) ∧ ∀ dx, H dx = none → dx ≠ a → Q .non (upd (upd H dx (exd dx [(f, y)])) a (exo a C (some dx)))
omit [Bs] in
theorem init_ok {P : Program} {w : World} {K : PySem.W.Frag} {mg : Str → Option Value} {base : Heap} {qual f pn : Str} {st : Stmt} {fI : Addr} {fd : FuncData} (F : Fun K "__init__" qual st fI fd) (sc : FnScope ["self", pn] ["self", pn] (defScope st))
    (hb : ∃ p1 p2 p3 p4, defBody st = [.Assign [.Attribute (.Name "self" p1) f p2] (.Name pn p3) p4]) (v0 : (defScope st).names.lookup ("self" : Str) = some .local) (v1 : (defScope st).names.lookup (pn : Str) = some .local) (hd : (pn == ("__debug__" : Str)) = false) (hcd : (pn == ("__classdict__" : Str)) = false)
    (hs : ∀ p1 p2 p3 p4 X, swapsWith (.Name pn p3) (some (.Attribute (.Name "self" p1) f p2)) p4 X = pure false) :
    FnOk P w K mg base CX0 1 fI fd ["self", pn] (spI K f) := by
  obtain ⟨oc, od, kV, doc, pm, an, cdv, ct, osl, rfl, lk, hcd2⟩ := F.ex
  obtain ⟨p1, p2, p3, p4, e⟩ := hb
  refine fn_of lk hcd2 sc (fun vs H Q E ⟨_, _, _, h, _⟩ => by rw [h]; rfl) fun A outer s H vs Q E hr ⟨a, y, C, hv, T, no, ha, q⟩ => ?_
  subst hv
  rw [e]
  exact ⟨_, pss_one (ps_ost (pe_var (i := 0) rfl (.inl v0)) (pe_var (i := 1) rfl (.inl v1) hd hcd) (hs _ _ _ _ _)), y, rfl, .ref a, rfl, a, C, rfl, T, no, .inl ⟨ha, fun dx h1 h2 => q dx h1 h2⟩⟩
structure ErrF (K : PySem.W.Frag) (cn f : Str) (C fI : Addr) : Prop where
  aC : PySem.W.nsIn K mainGlobals cn = some (some (.ref C))
  o : OexC K C
  iC : PySem.W.findIn K (.ref C) "__init__" = some (some (.ref fI))
  tI : PySem.W.typeIn K (.ref fI) = some (.type "function")
  no : PySem.W.findIn K (.ref C) f = some none
theorem ws_raiseF {R : DX} {f pn : Str} {fI : Addr} {fd : FuncData} (hc : X.calm = true) (tk : TkD X R) (T : ErrF X.K x f C fI) (F1 : FnOk X.prog X.w X.K X.mg X.base CX0 1 fI fd ["self", pn] (spI X.K f)) (hr : Room 2 X.A) (hb : Binds X.K fd ["self", pn] [])
    (gC : X.mg x = some (.ref C)) (hg : Gl X x) (ha : WA X [e] wa) (hdb : (x == ("__debug__" : Str)) = false := by decide)
    (he : starEach [e] X.env = (false, eval e X.env) :: starEach [] X.env := by rfl) : WS X (.Raise (some (.Call (.Name x p) [e] [] pos)) none pos') (wRaiseF x f wa R) := by
  obtain ⟨W, tk, hW⟩ := tk
  refine ⟨fun _ _ _ _ _ q => q, PS_imp (L2N.ps_raise hc tk (pmk_oexN T.o T.iC T.tI F1 hr hb pass0 hg gC ha.pe hdb he (by rfl))) fun D σ H ⟨env, io, F, st, Rl, q⟩ => ?_⟩
  refine tA_use ha.mo Rl q fun ds s1 vs io1 F1 H1 ⟨d, ed, q1⟩ t1 R1 n1 => ?_
  subst ed
  obtain ⟨y, rfl, ny⟩ := n1.one
  refine ⟨by simp, fun a hA => ?_⟩
  refine ⟨a, y, C, rfl, T.o, T.no, upd_same, fun dx hdx hne => ?_⟩
  have hdx1 : H1 dx = none := by rw [upd_ne hne] at hdx; exact hdx
  refine ⟨rfl, dx, [(f, y)], upd_same, by rw [upd_ne hne]; exact upd_same, hdx1, ?_⟩
  have eH : upd (del (upd (upd (upd H1 a (exo a C none)) dx (exd dx [(f, y)])) a (exo a C (some dx))) a) dx (.xd [(f, y)]) = upd H1 dx (.xd [(f, y)]) := by
    funext b
    by_cases hb : b = dx
    · rw [hb, upd_same, upd_same]
    · rw [upd_ne hb, upd_ne hb]
      by_cases ha : b = a
      · rw [ha, del_same, hA]
      · rw [del_ne ha, upd_ne ha, upd_ne hb, upd_ne ha]
  rw [eH]
  have t2 : Stp H1 io1 F1 (upd H1 dx (.xd [(f, y)])) io1 F1 := Stp.aside hdx1
  exact hW _ _ _ q1 σ _ _ io1 F1 _ (R1.next t2 (R1.toRelH.aside hdx1)) ⟨⟨C, rfl, T.aC, .inr ⟨dx, _, rfl, upd_same, R1.toRelH.notF hdx1, R1.toRelH.notIo hdx1, .cons ⟨rfl, t2.den ny⟩ .nil⟩⟩, fun dd z => by cases z; exact R1.bs.none_of hdx1⟩
end
/-- a catcher of one's own: classes by names; true: the exception is one of that class -/
def errNames : List Str := ["TooMany", "NoPlan", "NoRoom", "NotEven", "NoDeed", "NoText"]
def mtab (x c : Str) : Option Bool := if x ∈ errNames then some (c == x || c == "WishError" || c == "ValueError") else none
theorem mtab_all {K : PySem.W.Frag} {c : Str} {cv : Value}
    (h1 : ∀ C, PySem.W.nsIn K mainGlobals "TooMany" = some (some (.ref C)) → PySem.W.exmOne K (.ref C) cv = some (c == "TooMany" || c == "WishError" || c == "ValueError"))
    (h2 : ∀ C, PySem.W.nsIn K mainGlobals "NoPlan" = some (some (.ref C)) → PySem.W.exmOne K (.ref C) cv = some (c == "NoPlan" || c == "WishError" || c == "ValueError"))
    (h3 : ∀ C, PySem.W.nsIn K mainGlobals "NoRoom" = some (some (.ref C)) → PySem.W.exmOne K (.ref C) cv = some (c == "NoRoom" || c == "WishError" || c == "ValueError"))
    (h4 : ∀ C, PySem.W.nsIn K mainGlobals "NotEven" = some (some (.ref C)) → PySem.W.exmOne K (.ref C) cv = some (c == "NotEven" || c == "WishError" || c == "ValueError"))
    (h5 : ∀ C, PySem.W.nsIn K mainGlobals "NoDeed" = some (some (.ref C)) → PySem.W.exmOne K (.ref C) cv = some (c == "NoDeed" || c == "WishError" || c == "ValueError"))
    (h6 : ∀ C, PySem.W.nsIn K mainGlobals "NoText" = some (some (.ref C)) → PySem.W.exmOne K (.ref C) cv = some (c == "NoText" || c == "WishError" || c == "ValueError")) :
    ∀ y C b, mtab y c = some b → PySem.W.nsIn K mainGlobals y = some (some (.ref C)) → PySem.W.exmOne K (.ref C) cv = some b := fun y C b h hn => by
  unfold mtab at h
  split at h
  · rename_i hm
    cases h
    simp only [errNames, List.mem_cons, List.not_mem_nil, or_false] at hm
    rcases hm with rfl | rfl | rfl | rfl | rfl | rfl
    · exact h1 C hn
    · exact h2 C hn
    · exact h3 C hn
    · exact h4 C hn
    · exact h5 C hn
    · exact h6 C hn
  · cases h
structure Cl where
  c : Str
  nm : Option Nat
  ws : Addr → Exc → DS
def goneD (i : Nat) (D : DEnds) : DEnds := { nx := fun e s => D.nx (e.set i none) s, rt := D.rt, bk := fun e s => D.bk (e.set i none) s, ct := fun e s => D.ct (e.set i none) s }
def rawD (a : Addr) : D := .fn a [] (fun _ => none)
def Cl.go (cl : Cl) (a : Addr) (e : Exc) : DS := fun D env st => match cl.nm with
  | none => cl.ws a e D env st
  | some i => cl.ws a e (goneD i D) (env.set i (some (rawD a))) st
def wCls (R : DX) (D : DEnds) : List Cl → DX
  | [], e, env, st => R e env st
  | cl :: r, e, env, st => ∃ b, mtab e.cls cl.c = some b ∧ (b = true → ∀ a, cl.go a e D env st) ∧ (b = false → wCls R D r e env st)
def wTry (wb : DX → DS) (cls : List Cl) (R : DX) : DS := fun D env st => ∃ D0 R', D0.le D ∧ (∀ e env st, R' e env st → wCls R D0 cls e env st) ∧ wb R' D0 env st
/-- clauses, with names or without -/
inductive HdsA (X : Cx) : List ExceptHandler → List (Value × Option Nat × (Addr → Value → Option Addr → TS)) → Prop
  | nil : HdsA X [] []
  | cons {x : Str} {c : Value} {ts : Addr → Value → Option Addr → TS} {b₀ : Stmt} {suite : List Stmt} {np pos' : Pos} {hds : List ExceptHandler} {l : List (Value × Option Nat × (Addr → Value → Option Addr → TS))} (hc : Names X x c)
      (hsu : ∀ (a : Addr) (oe : Obj) (cls : Value) (d : Option Addr) (pn : List (Addr × Obj)), L2N.Zn cls d oe → (∃ vs, oe.data = .fields vs) → PSs (X.suite a ((a, oe) :: pn)) (b₀ :: suite) (ts a cls d)) (r : HdsA X hds l) :
      HdsA X (.ExceptHandler (some (.Name x np)) none (b₀ :: suite) pos' :: hds) ((c, none, ts) :: l)
  | consA {x n : Str} {i : Nat} {c : Value} {ts : Addr → Value → Option Addr → TS} {b₀ : Stmt} {suite : List Stmt} {np pos' : Pos} {hds : List ExceptHandler} {l : List (Value × Option Nat × (Addr → Value → Option Addr → TS))} (hc : Names X x c) (hN : X.N.Nodup) (hi : X.N[i]? = some n) (hln : X.env.kindOf n = some .local)
      (hsu : ∀ (a : Addr) (oe : Obj) (cls : Value) (d : Option Addr) (pn : List (Addr × Obj)), L2N.Zn cls d oe → (∃ vs, oe.data = .fields vs) → PSs (X.suite a ((a, oe) :: pn)) (b₀ :: suite) (ts a cls d)) (r : HdsA X hds l) :
      HdsA X (.ExceptHandler (some (.Name x np)) (some n) (b₀ :: suite) pos' :: hds) ((c, some i, ts) :: l)
def wManyA (K : PySem.W.Frag) (Wout : WX) (D : Ends) : List (Value × Option Nat × (Addr → Value → Option Addr → TS)) → WX
  | [] => Wout
  | (c, none, ts) :: r => fun cls d σ H => ∃ b, PySem.W.exmOne K cls c = some b ∧ (b = true → ∀ a, H a = none → ts a cls d D σ H) ∧ (b = false → wManyA K Wout D r cls d σ H)
  | (c, some i, ts) :: r => fun cls d σ H => ∃ b, PySem.W.exmOne K cls c = some b ∧ (b = true → ∀ a, H a = none → ts a cls d { nx := fun σ' H' => D.nx (σ'.set i none) H', rt := D.rt, bk := fun σ' H' => D.bk (σ'.set i none) H', ct := fun σ' H' => D.ct (σ'.set i none) H' } (σ.set i (some (.ref a))) H) ∧
    (b = false → wManyA K Wout D r cls d σ H)
/-- the state s is one of ours with an exception's objects beside: sI is the state without them, B the ground that stays -/
structure Beside (X : Cx) (pins : List (Addr × Obj)) (σ : L2.St) (H : Hp) (B : Heap) (s : Shared) : Prop where
  ex : ∃ sI : Shared, Inv X pins σ H sI ∧ (∀ b o, sI.heap.get? b = some o → b ∉ frs X.stack → B.get? b = some o) ∧ sI.heap.UpToSlots s.heap ∧ s.os = sI.os
  stay : B.StaysIn s.heap
  bare : AllBare s.gens
/-- .. the exception at a is in hand -/
structure InHand (X : Cx) (pins : List (Addr × Obj)) (σ : L2.St) (H : Hp) (B : Heap) (cls : Value) (d : Option Addr) (a : Addr) (s : Shared) : Prop extends Beside X pins σ H B s where
  fly : HandSPX.FlyingZ B X.stack a (L2N.Zn cls d) s.heap
  out : H a = none
section
variable {X : Cx} {pins : List (Addr × Obj)} {σ : L2.St} {H : Hp} {B : Heap} {cls : Value} {d : Option Addr} {a : Addr} {s : Shared}
theorem Beside.inv (b : Beside X pins σ H B s) : Inv X pins σ H s := by
  obtain ⟨⟨sI, I, nb, up, os⟩, st, ag⟩ := b
  exact I.landed nb st up os ag
theorem Beside.go (b : Beside X pins σ H B s) {h : Heap} (st : B.StaysIn h) (up : s.heap.UpToSlots h) : Beside X pins σ H B { s with heap := h } := by
  obtain ⟨⟨sI, I, nb, up0, os⟩, _, ag⟩ := b
  exact ⟨⟨sI, I, nb, up0.trans up, os⟩, st, ag⟩
theorem InHand.obj (x : InHand X pins σ H B cls d a s) : ∃ oe vs, s.heap.get? a = some oe ∧ L2N.Zn cls d oe ∧ oe.data = .fields vs ∧ a ∉ frs X.stack := by
  obtain ⟨oe, vs, e, z, dd⟩ := x.fly.there
  refine ⟨oe, vs, e, z, dd, fun hm => ?_⟩
  obtain ⟨_, o, e2, n⟩ := x.fly.2.2.1.mem hm
  cases e.symm.trans e2
  exact n vs dd
/-- the suite's state -/
theorem InHand.suite (hs : X.stack = X.env :: X.outer) (hf : X.env.frame = some X.env.locals) (x : InHand X pins σ H B cls d a s) : ∃ oe vs, L2N.Zn cls d oe ∧ oe.data = .fields vs ∧ Inv (X.suite a ((a, oe) :: (X.pn ++ pins))) [] σ H s := by
  obtain ⟨oe, vs, e, z, dd, nf⟩ := x.obj
  rw [hs] at nf
  have hL : X.env.locals ∈ frs (X.env :: X.outer) := List.mem_filterMap.mpr ⟨X.env, List.mem_cons_self, hf⟩
  refine ⟨oe, vs, z, dd, x.inv.suite e dd x.out (fun q => nf (q ▸ hL)) fun hm => nf ?_⟩
  obtain ⟨e', he', q⟩ := List.mem_filterMap.mp hm
  exact List.mem_filterMap.mpr ⟨e', List.mem_cons_of_mem _ he', q⟩
/-- a clause's class is looked up, and asked -/
theorem InHand.asks (hs : X.stack = X.env :: X.outer) (hf : X.env.frame = some X.env.locals) (x : InHand X pins σ H B cls d a s) {n : Str} {c : Value} {np : Pos} {b : Bool} {Q : Bool → Shared → Prop} {E E' : Value → Shared → Prop} (hc : Names X n c) (hb : PySem.W.exmOne X.K cls c = some b)
    (q : Q b s) : wpAny (model X.prog X.w) (X.A.mark (some (.ref a))) (eval (.Name n np) X.env) (fun v s1 => wpAny (model X.prog X.w) (X.A.mark (some (.ref a))) (excMatches (.ref a) v) Q E s1) E' s := by
  obtain ⟨oe, _, e, z, _, _⟩ := x.obj
  obtain ⟨oe2, _, _, _, S⟩ := x.suite hs hf
  have ask := PySem.W.exm_one (M := model X.prog X.w) x.inv.kIn (fun A Q E s k q => wpAny_typeOf_ref (k _ _ e) (by rw [z.1]; exact q)) hb
  obtain ⟨hg, hd, hm | ⟨hm, hv, hn⟩⟩ := hc
  · exact ld_glob S hg hm (ask.here q) hd
  · exact ld_blt S hg hm hv (ask.here q) hn hd
/-- into the suite -/
theorem InHand.enter (x : InHand X pins σ H B cls d a s) {A : Around} {Q : Unit → Shared → Prop} {E : Value → Shared → Prop} (q : ∀ s1, InHand X pins σ H B cls d a s1 → Q () s1) : wpAny (model X.prog X.w) A (setFlight (.ref a) none) Q E s :=
  HandSPX.lands_againZ x.fly fun h f up => q _ { x.toBeside.go f.1 up with fly := f, out := x.out }
/-- no clause takes it: on it goes -/
theorem InHand.on (hs : X.stack = X.env :: X.outer) (hf : X.env.frame = some X.env.locals) (x : InHand X pins σ H B cls d a s) {W : WX} (tk : L2N.Takes X W) (w : W cls d σ H) {Q : Flow → Shared → Prop} : wpAny (model X.prog X.w) X.A (handleBy (.ref a) X.env []) Q X.xe s := by
  obtain ⟨⟨sI, I, nb, up, os⟩, _, ag⟩ := x.toBeside
  obtain ⟨_, _, _, oe, fv, T, _, _, e, _, dd, h1, _⟩ := id x.fly
  have flown : wpAny (model X.prog X.w) X.A (setFlight (.ref a) X.env.frame) (fun _ s1 => wpAny (model X.prog X.w) X.A (throw (.ref a) : Sem Flow) Q X.xe s1) X.xe s := by
    rw [hf]
    exact HandSPX.setFlight_upZ x.fly fun h k up2 => wpAny_throw (tk _ _ ⟨a, B, sI, pins, σ, H, cls, d, rfl, I, nb, up.trans up2, .inr (.inr k), x.out, os, ag, w⟩)
  refine wpAny_handleBy_nil ?_
  unfold PySem.passOn
  refine wpAny_bind (wpAny_field e dd h1 ?_)
  have ne : ¬((Value.ref T == Value.none) = true) := by simp
  rw [if_neg ne]
  first
    | exact wpAny_bind (wpAny_pure (wpAny_bind flown))
    | exact wpAny_bind flown
/-- the end of a named suite: the name goes -/
theorem suite_gone {i : Nat} {n : Str} {pos : Pos} {oe : Obj} {σ' : L2.St} {H' : Hp} {s' : Shared} {E : Value → Shared → Prop} {Q : Shared → Prop} (ok : X.Ok) (hN : X.N.Nodup) (hi : X.N[i]? = some n) (hl : X.env.kindOf n = some .local) (S : Inv (X.suite a ((a, oe) :: (X.pn ++ pins))) [] σ' H' s')
    (q : ∀ s2, Inv X pins (σ'.set i none) H' s2 → Q s2) : wpAny (model X.prog X.w) X.A (do bindName X.env n .none; unbindBehindTheSuite X.env n pos) (fun _ s2 => Q s2) E s' := gone_ok (S.unsuite ok) hN hi hl q
/-- the clauses, one after the other -/
theorem InHand.clauses (hs : X.stack = X.env :: X.outer) (hf : X.env.frame = some X.env.locals) {D : Ends} {Wout : WX} (tk : L2N.Takes X Wout) {hds : List ExceptHandler} {l : List (Value × Option Nat × (Addr → Value → Option Addr → TS))} (hh : HdsA X hds l) :
    InHand X pins σ H B cls d a s → wManyA X.K Wout D l cls d σ H → wpAny (model X.prog X.w) X.A (handleBy (.ref a) X.env hds) (SP X pins D) X.xe s := by
  induction hh with
  | nil => exact fun x w => x.on hs hf tk w
  | cons hc hsu _ ih =>
    rintro x ⟨b, hb, yes, no⟩
    refine wpAny_handleBy_cons (codeAny_handlers_test (x.asks hs hf hc hb ?_)) (by intro q; cases q)
    cases b with
    | false => exact ih x (no rfl)
    | true =>
      refine codeAny_handlers_suite (x.enter fun s1 x1 => ?_)
      obtain ⟨oe, fv, z, dd, S⟩ := x1.suite hs hf
      have ok := x1.inv.ok
      refine wpAny_mono ((hsu a oe cls d (X.pn ++ pins) z ⟨fv, dd⟩).run [] _ _ H _ S (yes rfl a x1.out)) (fun f s2 hq => ?_) (fun _ _ h => h.elim)
      match f, hq with
      | .next, ⟨_, _, S2, q⟩ => exact ⟨_, _, S2.unsuite ok, q⟩
      | .brk, ⟨_, _, S2, q⟩ => exact ⟨_, _, S2.unsuite ok, q⟩
      | .cont, ⟨_, _, S2, q⟩ => exact ⟨_, _, S2.unsuite ok, q⟩
      | .ret u, ⟨_, _, _, S2, r, q⟩ => exact ⟨_, _, _, S2.unsuite ok, r, q⟩
  | consA hc hN hi hln hsu _ ih =>
    rintro x ⟨b, hb, yes, no⟩
    refine wpAny_handleBy_cons (codeAny_handlers_test (x.asks hs hf hc hb ?_)) (by intro q; cases q)
    cases b with
    | false => exact ih x (no rfl)
    | true =>
      refine codeAny_handlers_suite_as (x.enter fun s1 x1 => ?_)
      obtain ⟨oe, fv, z, dd, S⟩ := x1.suite hs hf
      have ok := x1.inv.ok
      refine store_ok (X := X.suite a ((a, oe) :: (X.pn ++ pins))) (v := .ref a) S hN hi (.inl hln) rfl (fun s2 S1 => ?_) (.inr hln)
      refine wpAny_mono ((hsu a oe cls d (X.pn ++ pins) z ⟨fv, dd⟩).run [] s2 _ H _ S1 (yes rfl a x1.out)) (fun f s3 hq => ?_) (fun _ _ h => h.elim)
      match f, hq with
      | .next, ⟨_, _, S2, q⟩ => exact suite_gone ok hN hi hln S2 fun s4 J => ⟨_, _, J, q⟩
      | .brk, ⟨_, _, S2, q⟩ => exact suite_gone ok hN hi hln S2 fun s4 J => ⟨_, _, J, q⟩
      | .cont, ⟨_, _, S2, q⟩ => exact suite_gone ok hN hi hln S2 fun s4 J => ⟨_, _, J, q⟩
      | .ret u, ⟨_, _, _, S2, r, q⟩ => exact suite_gone ok hN hi hln S2 fun s4 J => ⟨_, _, _, J, r, q⟩
end
section
variable {X : Cx} {body : List Stmt} {h₀ : ExceptHandler} {hds : List ExceptHandler} {l : List (Value × Option Nat × (Addr → Value → Option Addr → TS))} {pos : Pos} {tb : WX → TS} {Wout : WX}
theorem ps_try_manyA (hs : X.stack = X.env :: X.outer) (hf : X.env.frame = some X.env.locals) (tk : L2N.Takes X Wout)
    (hb : ∀ (W : WX) (pn : List (Addr × Obj)) (xe : Value → Shared → Prop), L2N.Takes (X.tr pn xe) W → PassesOwn (model X.prog X.w) X.A X.env xe → PSs (X.tr pn xe) body (tb W))
    (hh : HdsA X (h₀ :: hds) l) : PS X (.Try body (h₀ :: hds) [] [] pos) (fun D σ H => tb (wManyA X.K Wout D l) D σ H) := by
  refine ⟨fun pins s σ H D I h => wpAny_Try_except ?_⟩
  have ok := I.ok
  have caught : L2N.Takes (X.tr (X.pn ++ pins) fun u s1 => wpAny (model X.prog X.w) X.A (noteFrame u X.env) (fun _ s2 => wpAny (model X.prog X.w) X.A (setFlight u none) (fun _ s3 => wpAny (model X.prog X.w) X.A (handleBy u X.env (h₀ :: hds)) (SP X pins D) X.xe s3) X.xe s2) X.xe s1) (wManyA X.K Wout D l) := by
    rintro u s1 ⟨a, B, sI, pins', σ1, H1, cls, d, rfl, J, nb, up, sky, na, os, ag, w⟩
    have J := J.ofTry ok
    refine L2N.Sky.land (B := B) (outer := X.outer) (a := a) (Z := L2N.Zn cls d) (L := X.env.locals) L2N.Zn.steady (by rw [ok.frames, hs]) hf (by rw [← hs]; exact sky) fun h2 f up2 => ?_
    rw [← hs] at f
    exact InHand.clauses hs hf tk hh ⟨⟨⟨sI, J, nb, up.trans up2, os⟩, f.1, ag⟩, f, na⟩ w
  refine wpAny_mono ((hb _ _ _ caught PassesOwn.looking).run [] s σ H D (I.toTry _) h) (fun f s1 hq => ?_) (fun _ _ z => z)
  match f, hq with
  | .next, ⟨_, _, J, q⟩ => exact wpAny_execs_nil ⟨_, _, J.ofTry ok, q⟩
  | .brk, ⟨_, _, J, q⟩ => exact ⟨_, _, J.ofTry ok, q⟩
  | .cont, ⟨_, _, J, q⟩ => exact ⟨_, _, J.ofTry ok, q⟩
  | .ret u, ⟨_, _, _, J, r, q⟩ => exact ⟨_, _, _, J.ofTry ok, r, q⟩
end
theorem Rel.unset [Bs] {K : PySem.W.Frag} {σ : L2.St} {H : Hp} {env : En} {io : List Addr} {F : Hp} {st : Sto} {i : Nat} (R : Rel K σ H env io F st) : Rel K (σ.set i none) H (env.set i none) io F st :=
  { R.toRelH with
    bs := R.bs
    sl := by rw [List.length_set, List.length_set]; exact R.sl
    slot := fun j d e => by
      by_cases hj : i = j
      · subst hj
        by_cases hl : i < env.length
        · rw [List.getElem?_set_self hl] at e; cases e
        · rw [List.getElem?_eq_none (by rw [List.length_set]; omega)] at e; cases e
      · rw [List.getElem?_set_ne hj] at e ⊢
        exact R.slot j d e }
/-- another base -/
theorem Rel.rebase {B B' : Bs} {K : PySem.W.Frag} {σ : L2.St} {H : Hp} {env : En} {io : List Addr} {F : Hp} {st : Sto} (R : @Rel B K σ H env io F st) (s : Stp B'.H B'.io B'.F H io F) : @Rel B' K σ H env io F st :=
  @Rel.mk B' _ _ _ _ _ _ _ (@Rel.toRelH B _ _ _ _ _ _ _ R) (@Rel.sl B _ _ _ _ _ _ _ R) (@Rel.slot B _ _ _ _ _ _ _ R) s
theorem rawD_den {K : PySem.W.Frag} {io : List Addr} {F : Hp} {a : Addr} : Den K io F (.ref a) (rawD a) := .fn (fun _ _ h => nomatch h) (fun _ _ h => nomatch h)
/-- a clause, read -/
def tCl (K : PySem.W.Frag) (cl : Cl) (a : Addr) (cls : Value) (d : Option Addr) : TS := fun D σ H => ∃ e env io F st, @Rel ⟨H, io, F⟩ K σ H env io F st ∧ ExcR K H io F cls d e ∧ cl.ws a e (@kD ⟨H, io, F⟩ K H io F D) env st
/-- clauses that are read -/
inductive ClsOk (X : Cx) : List ExceptHandler → List Cl → Prop
  | nil : ClsOk X [] []
  | cons {x : Str} {c : Value} {cl : Cl} {b₀ : Stmt} {suite : List Stmt} {np pos' : Pos} {hds : List ExceptHandler} {l : List Cl} (hx : cl.c = x) (hn : cl.nm = none) (hc : Names X x c)
      (hm : ∀ y C b, mtab y x = some b → PySem.W.nsIn X.K mainGlobals y = some (some (.ref C)) → PySem.W.exmOne X.K (.ref C) c = some b)
      (hsu : ∀ [B : Bs] (a : Addr) (oe : Obj) (cls : Value) (d : Option Addr) (e : Exc) (pn : List (Addr × Obj)), L2N.Zn cls d oe → (∃ vs, oe.data = .fields vs) → ExcR X.K B.H B.io B.F cls d e → WB (X.suite a ((a, oe) :: pn)) (b₀ :: suite) (cl.ws a e)) (r : ClsOk X hds l) :
      ClsOk X (.ExceptHandler (some (.Name x np)) none (b₀ :: suite) pos' :: hds) (cl :: l)
  | consA {x n : Str} {i : Nat} {c : Value} {cl : Cl} {b₀ : Stmt} {suite : List Stmt} {np pos' : Pos} {hds : List ExceptHandler} {l : List Cl} (hx : cl.c = x) (hn : cl.nm = some i) (hN : X.N.Nodup) (hi : X.N[i]? = some n) (hln : X.env.kindOf n = some .local) (hc : Names X x c)
      (hm : ∀ y C b, mtab y x = some b → PySem.W.nsIn X.K mainGlobals y = some (some (.ref C)) → PySem.W.exmOne X.K (.ref C) c = some b)
      (hsu : ∀ [B : Bs] (a : Addr) (oe : Obj) (cls : Value) (d : Option Addr) (e : Exc) (pn : List (Addr × Obj)), L2N.Zn cls d oe → (∃ vs, oe.data = .fields vs) → ExcR X.K B.H B.io B.F cls d e → WB (X.suite a ((a, oe) :: pn)) (b₀ :: suite) (cl.ws a e)) (r : ClsOk X hds l) :
      ClsOk X (.ExceptHandler (some (.Name x np)) (some n) (b₀ :: suite) pos' :: hds) (cl :: l)
section
variable {X : Cx} {body : List Stmt} {h₀ : ExceptHandler} {hds : List ExceptHandler} {pos : Pos}
theorem goneD_le {i : Nat} {D D' : DEnds} (h : D.le D') : (goneD i D).le (goneD i D') := ⟨fun e s q => h.nx _ _ q, h.rt, fun e s q => h.bk _ _ q, fun e s q => h.ct _ _ q⟩
/-- the ends, seen from a later state and another base -/
theorem kD_from {B B' : Bs} {K : PySem.W.Frag} {H H' : Hp} {io io' : List Addr} {F F' : Hp} {D : Ends} (hB : Stp B.H B.io B.F H io F) (s : Stp H io F H' io' F') : (@kD B K H io F D).le (@kD B' K H' io' F' D) :=
  ⟨fun e st h σ io2 F2 H2 t R => h σ io2 F2 H2 (s.trans t) (R.rebase (hB.trans (s.trans t))), fun d st h => kE_later s h, fun e st h σ io2 F2 H2 t R => h σ io2 F2 H2 (s.trans t) (R.rebase (hB.trans (s.trans t))),
    fun e st h σ io2 F2 H2 t R => h σ io2 F2 H2 (s.trans t) (R.rebase (hB.trans (s.trans t)))⟩
theorem kD_gone {B : Bs} {K : PySem.W.Frag} {H : Hp} {io : List Addr} {F : Hp} {D : Ends} {i : Nat} :
    (goneD i (@kD B K H io F D)).le (@kD B K H io F { nx := fun σ' H' => D.nx (σ'.set i none) H', rt := D.rt, bk := fun σ' H' => D.bk (σ'.set i none) H', ct := fun σ' H' => D.ct (σ'.set i none) H' }) :=
  ⟨fun e st h σ io2 F2 H2 t R => h _ io2 F2 H2 t R.unset, fun d st h => h, fun e st h σ io2 F2 H2 t R => h _ io2 F2 H2 t R.unset, fun e st h σ io2 F2 H2 t R => h _ io2 F2 H2 t R.unset⟩
theorem exists_clauses : ∀ {hds : List ExceptHandler} {cls : List Cl}, ClsOk X hds cls → ∃ l, HdsA X hds l ∧ ∀ {B : Bs} {R : DX} {Wout : WX} {D : Ends} {D0 : DEnds} {H : Hp} {io : List Addr} {F : Hp},
    (∀ e env st, R e env st → @kX B X.K Wout e env st) → Stp B.H B.io B.F H io F → D0.le (@kD B X.K H io F D) → ∀ e env st, wCls R D0 cls e env st → @kX ⟨H, io, F⟩ X.K (wManyA X.K Wout D l) e env st
  | _, _, .nil => ⟨[], .nil, fun {B R Wout D D0 H io F} hR hB le e env st q σ cls d io' F' H' R' x => hR e env st q σ cls d io' F' H' (R'.rebase (hB.trans (@Rel.bs ⟨H, io, F⟩ _ _ _ _ _ _ _ R'))) ⟨x.1, fun dd z => hB.none_of (x.2 dd z)⟩⟩
  | _, _, @ClsOk.cons _ y c cl b₀ suite np pos' hds l hx hn hc hm hsu r => by
    obtain ⟨l', hl, hk⟩ := exists_clauses r
    refine ⟨(c, none, tCl X.K cl) :: l', .cons hc (fun a oe cls d pn hz hf => ⟨fun pins s σ H D I ⟨e, env, io, F, st, Rl, xr, q⟩ => ?_⟩) hl, fun {B R Wout D D0 H io F} hR hB le e env st q σ cls d io' F' H' R' x => ?_⟩
    · letI : Bs := ⟨H, io, F⟩
      exact (hsu a oe cls d e pn hz hf xr).pe.run pins s σ H D I ⟨env, io, F, st, Rl, q⟩
    · obtain ⟨b, hb, hy, hno⟩ := q
      obtain ⟨C, e1, e2, e3⟩ := id x.1
      subst e1
      rw [hx] at hb
      refine ⟨b, hm _ _ _ hb e2, fun h a ha => ?_, fun h => hk hR hB le e env st (hno h) σ _ d io' F' H' R' x⟩
      have q := hy h a
      unfold Cl.go at q
      rw [hn] at q
      letI : Bs := ⟨H', io', F'⟩
      have mo := (hsu a { cls := .ref C, dict := d, data := .fields #[.none, .none, .none] } (.ref C) d e [] ⟨rfl, rfl, fun vs h => by cases h; rfl⟩ ⟨_, rfl⟩ x.1).mo
      have s1 : Stp H io F H' io' F' := @Rel.bs ⟨H, io, F⟩ _ _ _ _ _ _ _ R'
      refine ⟨e, env, io', F', st, R'.rebase Stp.refl, x.1, mo _ _ _ _ ⟨fun a b z => (kD_from hB s1).nx _ _ (le.nx _ _ z), fun a b z => (kD_from (B' := ⟨H', io', F'⟩) hB s1).rt _ _ (le.rt _ _ z), fun a b z => (kD_from hB s1).bk _ _ (le.bk _ _ z), fun a b z => (kD_from hB s1).ct _ _ (le.ct _ _ z)⟩ q⟩
  | _, _, @ClsOk.consA _ y n i c cl b₀ suite np pos' hds l hx hn hN hi hln hc hm hsu r => by
    obtain ⟨l', hl, hk⟩ := exists_clauses r
    refine ⟨(c, some i, tCl X.K cl) :: l', .consA hc hN hi hln (fun a oe cls d pn hz hf => ⟨fun pins s σ H D I ⟨e, env, io, F, st, Rl, xr, q⟩ => ?_⟩) hl, fun {B R Wout D D0 H io F} hR hB le e env st q σ cls d io' F' H' R' x => ?_⟩
    · letI : Bs := ⟨H, io, F⟩
      exact (hsu a oe cls d e pn hz hf xr).pe.run pins s σ H D I ⟨env, io, F, st, Rl, q⟩
    · obtain ⟨b, hb, hy, hno⟩ := q
      obtain ⟨C, e1, e2, e3⟩ := id x.1
      subst e1
      rw [hx] at hb
      refine ⟨b, hm _ _ _ hb e2, fun h a ha => ?_, fun h => hk hR hB le e env st (hno h) σ _ d io' F' H' R' x⟩
      have q := hy h a
      unfold Cl.go at q
      rw [hn] at q
      letI : Bs := ⟨H', io', F'⟩
      have mo := (hsu a { cls := .ref C, dict := d, data := .fields #[.none, .none, .none] } (.ref C) d e [] ⟨rfl, rfl, fun vs h => by cases h; rfl⟩ ⟨_, rfl⟩ x.1).mo
      have s1 : Stp H io F H' io' F' := @Rel.bs ⟨H, io, F⟩ _ _ _ _ _ _ _ R'
      have le2 : DEnds.le D0 (@kD ⟨H', io', F'⟩ X.K H' io' F' D) := ⟨fun a b z => (kD_from hB s1).nx _ _ (le.nx _ _ z), fun a b z => (kD_from (B' := ⟨H', io', F'⟩) hB s1).rt _ _ (le.rt _ _ z), fun a b z => (kD_from hB s1).bk _ _ (le.bk _ _ z), fun a b z => (kD_from hB s1).ct _ _ (le.ct _ _ z)⟩
      have le3 := goneD_le (i := i) le2
      have le4 := kD_gone (B := ⟨H', io', F'⟩) (K := X.K) (H := H') (io := io') (F := F') (D := D) (i := i)
      refine ⟨e, env.set i (some (rawD a)), io', F', st, Rel.set (R'.rebase Stp.refl) rawD_den, x.1, mo _ _ _ _ ⟨fun a b z => le4.nx _ _ (le3.nx _ _ z), fun a b z => le4.rt _ _ (le3.rt _ _ z), fun a b z => le4.bk _ _ (le3.bk _ _ z), fun a b z => le4.ct _ _ (le3.ct _ _ z)⟩ q⟩
theorem ws_try [Bs] {R : DX} {cls : List Cl} {wb : DX → DS} (hs : X.stack = X.env :: X.outer) (hf : X.env.frame = some X.env.locals) (tk : TkD X R)
    (hb : ∀ [Bs] (R' : DX) (pn : List (Addr × Obj)) (xe : Value → Shared → Prop), TkD (X.tr pn xe) R' → PassesOwn (model X.prog X.w) X.A X.env xe → WB (X.tr pn xe) body (wb R'))
    (hh : ClsOk X (h₀ :: hds) cls) : WS X (.Try body (h₀ :: hds) [] [] pos) (wTry wb cls R) := by
  obtain ⟨Wout, tk, hW⟩ := tk
  obtain ⟨l, hl, hk⟩ := exists_clauses hh
  rename_i B
  refine ⟨fun A A' e s le ⟨D0, R', l0, i, q⟩ => ⟨D0, R', ⟨fun a b z => le.nx _ _ (l0.nx _ _ z), fun a b z => le.rt _ _ (l0.rt _ _ z), fun a b z => le.bk _ _ (l0.bk _ _ z), fun a b z => le.ct _ _ (l0.ct _ _ z)⟩, i, q⟩, ?_⟩
  let tb : WX → TS := fun W D σ H => ∃ env io F st D0 R', Rel X.K σ H env io F st ∧ D0.le (kD X.K H io F D) ∧ (∀ e env st, R' e env st → @kX ⟨H, io, F⟩ X.K W e env st) ∧ wb R' D0 env st
  refine PS_imp (ps_try_manyA (tb := tb) hs hf tk (fun W pn xe tkW hp => ⟨fun p s σ H D I ⟨env, io, F, st, D0, R', Rl, le, hR, q⟩ => ?_⟩) hl) fun D σ H ⟨env, io, F, st, Rl, D0, R', le, i, q⟩ => ?_
  · have sB := Rl.bs
    letI : Bs := ⟨H, io, F⟩
    have W := hb R' pn xe ⟨W, tkW, hR⟩ hp
    have le2 := kD_from (B := B) (B' := ⟨H, io, F⟩) (K := X.K) (D := D) sB (Stp.refl (H := H) (io := io) (F := F))
    exact W.pe.run p s σ H D I ⟨env, io, F, st, @Rel.rebase B ⟨H, io, F⟩ _ _ _ _ _ _ _ Rl Stp.refl, W.mo _ _ _ _ ⟨fun a b z => le2.nx _ _ (le.nx _ _ z), fun a b z => le2.rt _ _ (le.rt _ _ z), fun a b z => le2.bk _ _ (le.bk _ _ z), fun a b z => le2.ct _ _ (le.ct _ _ z)⟩ q⟩
  · exact ⟨env, io, F, st, D0, R', Rl, le, fun e env st z => hk hW Rl.bs le e env st (i e env st z), q⟩
/-- nothing leaves -/
def noX : DX := fun _ _ _ => False
theorem tk_no [Bs] {X : Cx} : TkD X noX := ⟨fun _ _ _ _ => False, takes_noneN, fun _ _ _ h => h.elim⟩
/-- err.f in a suite -/
def wExf (e : Exc) (cn f : Str) (a : Addr) (we : DE) : DE := fun env st Q => we env st fun d s => d = rawD a ∧ e.cls = cn ∧ ∃ x, e.fs.lookup f = some x ∧ Q x s
theorem we_exf [B : Bs] {a C : Addr} {oe : Obj} {cls : Value} {d : Option Addr} {pn : List (Addr × Obj)} {ex : Expr} {e : Exc} {cn f : Str} {we : DE} (aC : PySem.W.nsIn X.K mainGlobals cn = some (some (.ref C))) (T : XfC X.K C) (hno : PySem.W.findIn X.K (.ref C) f = some none)
    (hz : L2N.Zn cls d oe) (hf : ∃ vs, oe.data = .fields vs) (xr : ExcR X.K B.H B.io B.F cls d e) (he : WE (X.suite a ((a, oe) :: pn)) ex we) (hb : attributeBase ex f X.env (eval ex X.env) = eval ex X.env := by rfl) :
    WE (X.suite a ((a, oe) :: pn)) (.Attribute ex f pos) (wExf e cn f a we) := by
  refine ⟨fun _ _ _ _ i q => he.mo _ _ _ _ (fun _ _ ⟨e1, e2, x, e3, q⟩ => ⟨e1, e2, x, e3, i _ _ q⟩) q, PE_imp (pe_xf T hno hz.zc hf he.pe hb) fun σ H Q ⟨env, io, F, st, R, q⟩ => ?_⟩
  refine tE_use he.mo R q fun dv s1 v io1 F1 H1 ⟨e1, e2, x, e3, q1⟩ t1 R1 n1 => ?_
  subst e1
  obtain ⟨C', c1, c2, ⟨c3, c4⟩ | ⟨dd, fv, c3, c4, c5, c6, c7⟩⟩ := xr.next R1.bs
  · rw [c4] at e3
    cases e3
  · rw [e2, aC] at c2
    cases c2
    obtain ⟨w, hw, nw⟩ := denF_at c7 e3
    have ev : v = .ref a := by cases n1; rfl
    exact ⟨ev, c1, dd, fv, w, c3, c4, hw, kE_at q1 t1 R1.toRelH nw⟩
end
end DL
namespace HotX
open PySem PySem.Spec PyProof.Rows
section
variable {prog : Program} {w : World} {A : Around} {E : Value → Shared → Prop} {s : Shared}
theorem HotAt.in1 {x1 : Addr} {h : Heap} (hot : HotAt A x1 h) : HotAt A.in1 x1 h := hot
end
end HotX
namespace DL
open PySem PySem.Spec PyProof.Rows L2 HotX
abbrev Hot (X : Cx) : Prop := L2H.HotC X
end DL
namespace DL
open PySem PySem.Spec PyProof.Rows L2 HotX
abbrev _root_.L2.Cx.blkH (X : Cx) (s : Shared) (H : Hp) (scope : Scope) (cenv : Env) (fp : List Addr) (pn : List (Addr × Obj)) : Cx := { X.blk s H scope cenv fp with pn := pn }
section
variable {X : Cx}
theorem blk_hot {s s' : Shared} {H H' : Hp} {scope : Scope} {cenv : Env} {fp : List Addr} {σ : L2.St} {p : Addr × Obj} (I : Inv (X.blk s H scope cenv fp) [] σ H' s')
    (h : ∀ q ∈ [p], s'.heap.get? q.1 = some q.2 ∧ H' q.1 = none ∧ q.1 ≠ cenv.locals ∧ q.1 ∉ frs X.stack ∧ ∀ v, q.2.data ≠ .cell v) : Inv (X.blkH s H scope cenv fp [p]) [] σ H' s' :=
  ⟨⟨I.ok.mod, I.ok.kind, I.ok.glob, I.ok.blt, I.ok.above, I.ok.inj, I.ok.has, I.ok.cab, I.ok.hd, I.ok.frames, I.ok.stk, I.ok.exf, I.ok.bs, I.ok.bsz, I.ok.noex, I.ok.exfs, I.ok.funs, I.ok.frf⟩,
    I.os, I.bare, I.base, I.loc, I.cell, I.free, I.freeC, fun q hq => h q (by rw [List.append_nil] at hq; exact hq), I.hok, I.len⟩
theorem lc_coreH {pins : List (Addr × Obj)} {s : Shared} {σ : L2.St} {H : Hp} {Q : VK} {elt tg iter : Expr} {ifs : List Expr} {scope : Scope} {own : List (Str × Nat)} {pos pos' : Pos} {wi : TI} {g : TG} {tt : TT} {te : TE} {use : Option (Value → Sem Unit)} {Qf : Value → Shared → Prop}
    (hc : Hot X) (hN : X.N.Nodup) (I : Inv X pins σ H s) (hi : L2H.PIH X tg iter wi) (ok : BlkOk X.N X.env.scope scope own)
    (hg : ∀ (s : Shared) (H : Hp) (C : Addr) (cl : List (Str × Addr)) (fp : List Addr) (pn : List (Addr × Obj)), Hot (X.blkH s H scope (compEnvC scope cl C X.env) fp pn) → PG (X.blkH s H scope (compEnvC scope cl C X.env) fp pn) tg g)
    (ht : ∀ (s : Shared) (H : Hp) (C : Addr) (cl : List (Str × Addr)) (fp : List Addr) (pn : List (Addr × Obj)), Hot (X.blkH s H scope (compEnvC scope cl C X.env) fp pn) → PTs (X.blkH s H scope (compEnvC scope cl C X.env) fp pn) ifs tt)
    (he : ∀ (s : Shared) (H : Hp) (C : Addr) (cl : List (Str × Addr)) (fp : List Addr) (pn : List (Addr × Obj)), Hot (X.blkH s H scope (compEnvC scope cl C X.env) fp pn) → PE (X.blkH s H scope (compEnvC scope cl C X.env) fp pn) elt te)
    (hs : ∀ x, foldedSetIterable iter X.env x = pure x) (h : tLc wi g tt te (own.map (·.2)) σ H Q)
    (hRR : ∀ D C s' m H', Inv X pins σ H' s' → Q (.ref D) H' → s'.heap.Ns C m → FpOk X pins H' C → compPost (model X.prog X.w) X.A X.xe use Qf (.ref D) C (.ok .next) s') :
    wpAny (model X.prog X.w) X.A (comprehension (.ListComp elt [⟨tg, iter, ifs, 0⟩] scope pos) scope X.env pos' (newList []) false (eval iter X.env) use) Qf X.xe s := by
  obtain ⟨p, hot1, hp⟩ := hc
  refine wpAny_comprehension_free (use := use) rfl hs (closure_ok fun y hy e => (ok.free y hy e).elim (fun k => I.ok.has _ (.inl k)) fun k => I.ok.has _ (.inr k)) ok.kind (fun y hy e => by rw [ok.uniq y hy, e])
    (thn (hi.run pins s σ H _ I h) fun xv s1 hx => thn hx fun itv s2 h2 => ?_)
  obtain ⟨it, fp, tn, J, H2, e, I2, T, st2, f2, q⟩ := h2
  subst e
  refine wpAny_newObj_type (newEnv_comp ?_) (by show 0 ≤ sizeLine; decide)
  generalize hD : s2.heap.objs.size = D
  have hDn : H2 D = none := I2.hok.fresh (Nat.le_of_eq hD)
  obtain ⟨W, ⟨m0, w0⟩, turn⟩ := q D hDn
  -- the list that grows
  generalize hs3 : ({ s2 with heap := s2.heap.push { cls := .type "list", data := .seq ([] : List Value).toArray } } : Shared) = s3
  have h3 : s3.heap = s2.heap.push { cls := .type "list", data := .seq ([] : List Value).toArray } := by rw [← hs3]
  have I3 : Inv X pins σ (upd H2 D (.lst [])) s3 := by
    rw [← hs3]
    refine I2.laid (t' := s2.toks) (fun b o e => Heap.get?_push_of_some _ e) (Nat.le_of_eq hD) ⟨Nat.zero_le _, [], 0, .nil, ?_⟩
    rw [← hD]
    exact Heap.get?_push_size _ rfl
  have sz : ∀ b ∈ fp, b < s2.heap.objs.size := fun b hb => let ⟨o, e, _⟩ := T.obj _ _ st2 b hb; Heap.lt_size e
  have f3 : ∀ b ∈ fp, FpOk X pins (upd H2 D (.lst [])) b ∧ b < s3.heap.objs.size := fun b hb => by
    have hlt := sz b hb
    refine ⟨⟨?_, (f2 b hb).2⟩, by rw [h3, Heap.size_push]; exact Nat.lt_succ_of_lt hlt⟩
    rw [upd_ne (by rw [← hD]; exact Nat.ne_of_lt hlt)]
    exact (f2 b hb).1
  have st3 : tn 0 s3.heap := T.keep _ _ _ st2 fun b _ o e => by rw [h3]; exact Heap.get?_push_of_some _ e
  have P3 := I3.pin p (List.mem_append_left _ hp)
  have nst : p.1 ∉ frs X.stack := fun hm => (List.mem_cons.mp (I3.stkSub p.1 hm)).elim P3.2.2.1 P3.2.2.2.1
  have I4 := blk_hot (block_start I3 ok hN f3) (p := p) (fun q hq => by
    obtain rfl := List.mem_singleton.mp hq
    exact ⟨pushCells_keeps _ _ _ _ (Heap.get?_push_of_some _ P3.1), P3.2.1, Nat.ne_of_lt (Heap.lt_size P3.1), nst, P3.2.2.2.2⟩)
  have hotB : ∀ ce, Hot (X.blkH s3 (upd H2 D (.lst [])) scope ce fp [p]) := fun ce => ⟨p, hot1, List.mem_singleton.mpr rfl⟩
  have pg := hg s3 (upd H2 D (.lst [])) s3.heap.objs.size (cellsFrom (s3.heap.objs.size + 1) scope.names (cloFrom X.env.cells scope.names [])) fp [p] (hotB _)
  have pt := ht s3 (upd H2 D (.lst [])) s3.heap.objs.size (cellsFrom (s3.heap.objs.size + 1) scope.names (cloFrom X.env.cells scope.names [])) fp [p] (hotB _)
  have pe := he s3 (upd H2 D (.lst [])) s3.heap.objs.size (cellsFrom (s3.heap.objs.size + 1) scope.names (cloFrom X.env.cells scope.names [])) fp [p] (hotB _)
  show codeAny _ _ (.compStart (.ListComp elt [⟨tg, iter, ifs, 0⟩] scope pos) 0 (.ref it) (.ref D) (compEnvC scope (cellsFrom (s3.heap.objs.size + 1) scope.names (cloFrom X.env.cells scope.names [])) s3.heap.objs.size X.env)) (compPost (model X.prog X.w) X.A X.xe use Qf (.ref D) s3.heap.objs.size) { s3 with heap := pushCells (s3.heap.push { cls := .type "dict", data := .dict #[] }) scope.names }
  have nfp : ∀ b ∈ fp, (upd H2 D (.lst [])) b = none := fun b hb => (f3 b hb).1.1
  generalize hce : compEnvC scope (cellsFrom (s3.heap.objs.size + 1) scope.names (cloFrom X.env.cells scope.names [])) s3.heap.objs.size X.env = ce at I4 pg pt pe ⊢
  have cL : ce.locals = s3.heap.objs.size := by subst hce; rfl
  generalize hH3 : upd H2 D (.lst []) = H3 at I3 I4 pg pt pe w0 nfp f3 hotB
  generalize hs4 : ({ s3 with heap := pushCells (s3.heap.push { cls := .type "dict", data := .dict #[] }) scope.names } : Shared) = s4 at I4 ⊢
  have st4 : tn 0 s4.heap := T.keep _ _ _ st3 fun b _ o e => by rw [← hs4]; exact pushCells_keeps _ _ _ _ (Heap.get?_push_of_some _ e)
  have stat : ∀ {σ' : L2.St} {H' : Hp} {s' : Shared}, Inv (X.blkH s3 H3 scope ce fp [p]) [] σ' H' s' → (∀ b ∈ fp, H' b = none) → ∀ b ∈ fp, FpOk (X.blkH s3 H3 scope ce fp [p]) [] H' b := fun {σ' H' s'} I' hn b hb =>
    ⟨hn b hb, (I'.ok.exf b hb).1, I'.ok.exfs b hb, .inl hb, fun x c e => (I'.ok.exf b hb).2 x c e, fun q hq => by
      have e : q = p := by simpa using (show q ∈ [p] ++ ([] : List (Addr × Obj)) from hq)
      rw [e]
      exact (f3 b hb).1.2.2.2.2.2 p (List.mem_append_left _ hp)⟩
  have loop : codeAny (model X.prog X.w) X.A (.compLoop (.ListComp elt [⟨tg, iter, ifs, 0⟩] scope pos) 0 (.ref it) (.ref D) ce) (compPost (model X.prog X.w) X.A X.xe use Qf (.ref D) s3.heap.objs.size) s4 := by
    refine compLoop_any (fun n s' => ∃ i H', Inv (X.blkH s3 H3 scope ce fp [p]) [] (wipe σ (own.map (·.2))) H' s' ∧ tn i s'.heap ∧ (∀ b ∈ fp, H' b = none) ∧ W i n H') ?_ m0 ⟨0, H3, I4, st4, nfp, w0⟩
    rintro n s5 ⟨i, H5, I5, st5, n5, w5⟩
    rcases turn i n H5 w5 with ⟨stop, qq⟩ | ⟨go, Nx, hNx, step⟩
    · refine thnF (T.done (X.blkH s3 H3 scope ce fp [p]) rfl rfl rfl (hotB ce) i [] s5 _ H5 (fun _ _ => False) I5 (stat I5 n5) st5 stop) fun r s6 ⟨hr, I6⟩ => ?_
      subst hr
      have I7 : Inv X pins σ H5 s6 := I3.call' (ch := fp) I6.os I6.base I6.hok I6.bare fun b hb => ⟨(f3 b hb).1.2.2.2.1, (f3 b hb).1.2.1, (f3 b hb).1.2.2.2.2.1, (f3 b hb).1.2.2.2.2.2⟩
      have nC : H5 s3.heap.objs.size = none := by
        have z : H5 ce.locals = none := I6.free
        rw [cL] at z
        exact z
      obtain ⟨m, hn, _⟩ := I6.loc
      have hn : s6.heap.Ns ce.locals m := hn
      rw [cL] at hn
      exact hRR D s3.heap.objs.size s6 m H5 I7 qq hn (I3.fpOk (Nat.le_refl _) nC)
    · refine thnF (T.item (X.blkH s3 H3 scope ce fp [p]) rfl rfl rfl (hotB ce) i [] s5 _ H5 (fun _ _ => False) I5 (stat I5 n5) st5 go) fun r s6 ⟨u, hr, h6⟩ => ?_
      subst hr
      refine thnF h6 fun _ s7 ⟨x, H7, I7, r7, y7, st7, n7⟩ => ?_
      refine thnF (pg.run _ s7 _ H7 x u _ (I7.pinned (stat I7 n7) (T.obj _ _ st7)) r7 (step x H7 y7)) fun _ s8 ⟨σ8, H8, I8, hw8, q8⟩ => ?_
      refine thnF (pt.run _ s8 σ8 H8 _ I8 q8) fun b s9 ⟨H9, I9, q9⟩ => ?_
      -- what stands behind a turn
      have fin : ∀ {s' : Shared} {H' : Hp}, Inv (X.blkH s3 H3 scope ce fp [p]) ([] ++ pinsAt fp s7.heap) σ8 H' s' → Nx H' → ∃ m, m < n ∧ ∃ i H', Inv (X.blkH s3 H3 scope ce fp [p]) [] (wipe σ (own.map (·.2))) H' s' ∧ tn i s'.heap ∧ (∀ b ∈ fp, H' b = none) ∧ W i m H' := fun {s' H'} I' nx => by
        obtain ⟨m', hm, w'⟩ := hNx H' nx
        have pin' : ∀ b ∈ fp, ∀ o, s7.heap.get? b = some o → s'.heap.get? b = some o ∧ H' b = none := fun b hb o e =>
          let z := I'.pin (b, o) (List.mem_append_right _ (List.mem_append_right _ (mem_pinsAt hb e)))
          ⟨z.1, z.2.1⟩
        have hl : (wipe σ (own.map (·.2))).length = σ8.length := by rw [← hw8, wipe_length]
        refine ⟨m', hm, i + 1, H', (I'.unpinned (pins := [])).weak hl (fun j v e => ?_), T.keep _ _ _ st7 fun b hb o e => (pin' b hb o e).1, fun b hb => ?_, w'⟩
        · rw [← hw8] at e
          exact (wipe_some e).1
        · obtain ⟨o, e, _⟩ := T.obj _ _ st7 b hb
          exact (pin' b hb o e).2
      match b, q9 with
      | false, q9 =>
        simp only [Bool.false_eq_true, if_false] at q9 ⊢
        exact fin I9 q9
      | true, q9 =>
        simp only [if_true] at q9 ⊢
        refine thnF (pe.run _ s9 σ8 H9 _ I9 q9) fun z s10 ⟨yv, H10, I10, r10, acc, hD10, hz10, nx⟩ => ?_
        exact app_ok (X := X.blkH s3 H3 scope ce fp [p]) I10 hD10 hz10 r10 fun s11 I11 => fin I11 nx
  exact codeAny_compStart_list loop (T.self X.A 0 _ _ _ st4 loop)
theorem pe_lcH {elt tg iter : Expr} {ifs : List Expr} {scope : Scope} {own : List (Str × Nat)} {pos : Pos} {wi : TI} {g : TG} {tt : TT} {te : TE} (hc : Hot X) (hN : X.N.Nodup) (hi : L2H.PIH X tg iter wi) (ok : BlkOk X.N X.env.scope scope own)
    (hg : ∀ (s : Shared) (H : Hp) (C : Addr) (cl : List (Str × Addr)) (fp : List Addr) (pn : List (Addr × Obj)), Hot (X.blkH s H scope (compEnvC scope cl C X.env) fp pn) → PG (X.blkH s H scope (compEnvC scope cl C X.env) fp pn) tg g) (ht : ∀ (s : Shared) (H : Hp) (C : Addr) (cl : List (Str × Addr)) (fp : List Addr) (pn : List (Addr × Obj)), Hot (X.blkH s H scope (compEnvC scope cl C X.env) fp pn) → PTs (X.blkH s H scope (compEnvC scope cl C X.env) fp pn) ifs tt) (he : ∀ (s : Shared) (H : Hp) (C : Addr) (cl : List (Str × Addr)) (fp : List Addr) (pn : List (Addr × Obj)), Hot (X.blkH s H scope (compEnvC scope cl C X.env) fp pn) → PE (X.blkH s H scope (compEnvC scope cl C X.env) fp pn) elt te) (hs : ∀ x, foldedSetIterable iter X.env x = pure x := by intro _; rfl) :
    PE X (.ListComp elt [⟨tg, iter, ifs, 0⟩] scope pos) (tLc wi g tt te (own.map (·.2))) := by
  refine ⟨fun pins s σ H Q I h => ?_⟩
  rw [eval_ListComp]
  refine lc_coreH hc hN I hi ok hg ht he hs h fun D C s' m H' I' q hn f => ⟨m, hn, fun h'' sb => ?_⟩
  obtain ⟨f0, f1, f2, f3, f4, f5⟩ := f
  exact ⟨.ref D, H', I'.turned (t' := s'.toks) (fun b o hb e => (sb.2 b hb).trans e) f0 f1 f3 f4 f5, rfl, q⟩
end
section
variable [Bs] {X : Cx} {pos spos p tpos : Pos} {elt tg iter e e2 : Expr} {ifs : List Expr} {scope : Scope} {own : List (Str × Nat)} {wi : DI} {t : Tg} {c : DT} {w we : DE} {wa : DA} {m : Bool} {body : List Stmt} {g : DG} {b : DS}
structure WIH (X : Cx) (tg iter : Expr) (w : DI) : Prop where
  mo : MoI w
  pe : L2H.PIH X tg iter (tI X.K w)
omit [Bs] in
theorem PIH_imp {t t' : TI} (h : L2H.PIH X tg iter t) (i : ∀ σ H R, t' σ H R → t σ H R) : L2H.PIH X tg iter t' := ⟨fun p s σ H R I q => h.run p s σ H R I (i σ H R q)⟩
theorem we_lcH (hc : Hot X) (hN : X.N.Nodup) (hi : WIH X tg iter wi) (ok : BlkOk X.N X.env.scope scope own) (hv : ∀ i ∈ t.ix, i ∈ own.map (·.2))
    (hg : ∀ (s : Shared) (H : Hp) (C : Addr) (cl : List (Str × Addr)) (fp : List Addr) (pn : List (Addr × Obj)), Hot (X.blkH s H scope (compEnvC scope cl C X.env) fp pn) → PG (X.blkH s H scope (compEnvC scope cl C X.env) fp pn) tg (t.tg X.K)) (ht : ∀ (s : Shared) (H : Hp) (C : Addr) (cl : List (Str × Addr)) (fp : List Addr) (pn : List (Addr × Obj)), Hot (X.blkH s H scope (compEnvC scope cl C X.env) fp pn) → WTs (X.blkH s H scope (compEnvC scope cl C X.env) fp pn) ifs c) (he : ∀ (s : Shared) (H : Hp) (C : Addr) (cl : List (Str × Addr)) (fp : List Addr) (pn : List (Addr × Obj)), Hot (X.blkH s H scope (compEnvC scope cl C X.env) fp pn) → WE (X.blkH s H scope (compEnvC scope cl C X.env) fp pn) elt w) (hs : ∀ x, foldedSetIterable iter X.env x = pure x := by intro _; rfl) :
    WE X (.ListComp elt [⟨tg, iter, ifs, 0⟩] scope pos) (wComp m wi t c w (own.map (·.2))) := by
  obtain ⟨p, h1, h2⟩ := id hc
  have hB : Hot (X.blkH X.s_0 X.H_0 scope (compEnvC scope [] 0 X.env) [] [p]) := ⟨p, h1, List.mem_singleton.mpr rfl⟩
  have mt := (ht X.s_0 X.H_0 0 [] [] [p] hB).mo
  have me := (he X.s_0 X.H_0 0 [] [] [p] hB).mo
  exact ⟨moComp hi.mo mt me, PE_imp (pe_lcH hc hN hi.pe ok hg (fun s H C cl fp pn z => (ht s H C cl fp pn z).pe) (fun s H C cl fp pn z => (he s H C cl fp pn z).pe) hs) fun σ H Q h => tLc_of hi.mo mt me hv h⟩
theorem wi_range1H {wa : DA} (hg : Gl X "range") (hm : X.mg "range" = none) (ha : WA X [e] wa) (hs : starEach [e] X.env = [(false, eval e X.env)] := by rfl) : WIH X tg (.Call (.Name "range" p) [e] [] pos) (iRange1 wa) := by
  refine ⟨fun _ _ _ _ h q => ha.mo _ _ _ _ (fun _ _ ⟨j, e, h1, h2, q⟩ => ⟨j, e, h1, h2, h _ _ _ q⟩) q, PIH_imp (L2H.pi_range1H hg hm ha.pe hs) fun σ H R ⟨env, io, F, st, Rl, q⟩ => ?_⟩
  refine tA_use ha.mo Rl q fun ds s1 vs io1 F1 H1 ⟨j, ed, h1, h2, q1⟩ t1 R1 n1 => ?_
  subst ed
  cases n1 with
  | cons n1 n2 =>
    cases n1
    cases n2
    exact ⟨j, rfl, h1, h2, q1 _ _ _ _ t1 R1.toRelH walkD_range⟩
end
theorem _root_.L2H.RoomH.units {k : Nat} {A : Around} (r : L2H.RoomH k A) : A.units + 64 < cLine := by have := r.un; omega
theorem _root_.L2H.RoomH.units0 {k : Nat} {A : Around} (r : L2H.RoomH k A) : A.units < cLine := by have := r.un; omega
structure FnQ (P : Program) (w : World) (K : PySem.W.Frag) (mg : Str → Option Value) (base : Heap) (CX : CXT) (k : Nat) (f : Addr) (fd : FuncData) (ps : List Str) (sp : Sp) : Prop where
  len : ∀ vs H Q E, sp vs H Q E → vs.length = ps.length
  run : ∀ (A : Around) (outer : List Env) (s : Shared) (H : Hp) (args : Args) (us : List Value) (vs : List V) (Q : VK) (E : XK) (p : Addr × Obj), L2H.RoomH k A → A.guards = some [] → L2H.Hot1 A p → L2H.PinOk outer H s p → Env0 P w K mg base A outer s H → BindsTo s fd args (ps.zip us) →
    Vals vs us → sp vs H Q E → codeAny (model P w) A (.call (.ref f) args) (CR CX outer P w H s Q E) s
theorem FnQ.mono {P : Program} {w : World} {K : PySem.W.Frag} {mg : Str → Option Value} {base : Heap} {CX : CXT} {j k : Nat} {f : Addr} {fd : FuncData} {ps : List Str} {sp : Sp} (F : FnQ P w K mg base CX j f fd ps sp) (h : j ≤ k) :
    FnQ P w K mg base CX k f fd ps sp := ⟨F.len, fun A outer s H args us vs Q E p hr => F.run A outer s H args us vs Q E p (hr.mono h)⟩
section
variable {P : Program} {w : World} {K : PySem.W.Frag} {mg : Str → Option Value} {base : Heap}
theorem hot_cx {N : List Str} {qual : Str} {sc : Scope} {f : Addr} {cdv : Value} {A : Around} {outer : List Env} {s : Shared} {H : Hp} {E : XK} {p : Addr × Obj} (h : L2H.Hot1 A p) : Hot (L2H.cxH CX0 P w K mg base N qual sc f cdv A outer s H E p).nox := ⟨p, h, List.mem_singleton.mpr rfl⟩
end
theorem roomS {k : Nat} {A : Around} {h : Option Value} (hr : Room k A) : L2H.RoomH k (A.mark h) := ⟨hr.dp, hr.un⟩
end DL
namespace DL
open PySem PySem.Spec PySem.Calls PyProof.Rows
theorem exc_class {prog : Program} {w : World} {A : Around} {E : Value → Shared → Prop} {s : Shared} {K : PySem.W.Frag} {x D : Addr} {ox : Obj} {od : Option Obj} {Q : Option Value → Shared → Prop} (T : L2.ExcC K D)
    (X : K.In s.heap) (I : PySem.W.InstAt s.heap x ox D od) (h : Q (some (.ref D)) { s with toks := s.toks + 1 }) : wpAny (model prog w) A (getAttr? (.ref x) "__class__") Q E s := by
  have hf : PySem.W.findObj K D od "__class__" = some (.bind (.builtin "getset_descriptor.__get__") (.builtin "object.__class__")) := by
    obtain ⟨cd, hc, _⟩ := PySem.W.any_some T.hd
    unfold PySem.W.findObj; rw [hc, Option.bind_some, T.ha, Option.bind_some]; simp [T.hn, T.ht]
  obtain ⟨hp, g, d, t, os⟩ := s
  have L0 := I.type (M := model prog w); have L1 := PySem.W.looks_findIn (M := model prog w) X T.hg
  have L2 := PySem.W.looks_findIn (M := model prog w) X T.hk; have L3 := PySem.W.looks_find (M := model prog w) X I hf
  have sub : PySem.W.Looks (model prog w) hp (isInstance (.ref x) (.type "BaseException")) true := L0.andThen (PySem.W.looks_subIn X T.hs)
  have a0 : (false && onTheHeap (Value.builtin "BaseException.__getattribute__")) = false := rfl
  have a1 : (onTheHeap (Value.ref D) && Value.builtin "BaseException.__getattribute__" == Value.builtin "object.__getattribute__") = false := by
    rw [show (Value.builtin "BaseException.__getattribute__" == Value.builtin "object.__getattribute__") = false by decide +kernel] <;> rfl
  unfold getAttr? getAttrBy? getAttrBy; refine wpAny_bind (wpAny_mkText (wpAny_bind (wpAny_attempt (wpAny_holding (wpAny_bind (L0.at (wpAny_bind (L1.at ?_))))))))
  change wpAny _ _ (if (onTheHeap (Value.ref D) && Value.builtin "BaseException.__getattribute__" == Value.builtin "object.__getattribute__") = true then _ else _) _ _ _; rw [a1, if_neg Bool.false_ne_true]; unfold getAttrByItsOwn hookBefore
  refine wpAny_bind ?_; rw [if_pos (show onTheHeap (Value.ref D) = true from rfl)]
  refine L2.at (wpAny_bind (wpAny_attempt (wpAny_holding ?_))); unfold callGetattribute
  rw [a0, if_neg Bool.false_ne_true]; unfold boundAndCalled; rw [PySem.F.excAttr_ValueError.ga.bind (.ref x)]
  refine wpAny_bind (wpAny_pure ?_); change wpAny _ _ (call (.builtin "BaseException.__getattribute__") [.ref x, .str "__class__" t]) _ _ _
  refine wpAny_call (codeAny_call_builtin PySem.F.excAttr_ValueError.ga.plain PySem.F.entry_bexc_ga (@PySem.W.check_slot (model prog w) _ _ ⟨hp, g, d, t + 1, os⟩ "BaseException.__getattribute__" "BaseException" "__getattribute__" (.ref x) [.str "__class__" t] [] _ (by decide +kernel) (by decide +kernel) sub (PySem.F.args_bexc_ga (.ref x) (.str "__class__" t)) ?_))
  unfold Builtin.«object.__getattribute__»
  refine wpAny_bind (wpAny_of_eq (a := ((Value.ref x : Value), [Value.str "__class__" t])) (by first | rfl | (simp only [slotArgs]; rfl)) (wpAny_bind (wpAny_pure (wpAny_bind (L0.at (wpAny_bind (L3.at ?_)))))))
  change wpAny _ _ (holding [Value.builtin "object.__class__"] (call (.builtin "getset_descriptor.__get__") [.builtin "object.__class__", .ref x, .ref D]) >>= ret) _ _ _
  refine wpAny_bind (wpAny_holding (wpAny_call (PySem.W.class_get (s := ⟨hp, g, d, t + 1, os⟩) (ox := ox) (od := od) X I T.hm (wpAny_pure ?_)))); change wpAny _ _ (handedOut (.ref D)) _ _ _; rw [PySem.W.handedOut_of (v := .ref D) rfl]
  first | exact wpAny_pure (wpAny_pure h) | exact wpAny_pure h | exact wpAny_pure (wpAny_bind (wpAny_pure (wpAny_pure h)))
theorem exc_kit {K : PySem.W.Frag} {x D : Addr} {ox : Obj} {od : Option Obj} (T : L2.ExcC K D) : PySem.W.KitX K (.ref x) (.ref D) (fun h => PySem.W.InstAt h x ox D od) where
  ty := fun _ _ _ I => I.type
  it := fun M h X _ => by
    obtain ⟨cd, hc, _⟩ := PySem.W.any_some T.hd
    unfold PySem.W.clsIn at hc
    split at hc
    · rename_i ho; intro A Q E s k q; unfold isType loadHead; exact wpAny_bind (wpAny_loadPart (k _ _ (X _ _ ho)) (wpAny_pure q))
    · cases hc
  ne := fun h tp dd its n sl X htp => by
    obtain ⟨cd, hc, _⟩ := PySem.W.any_some T.hd
    refine Bool.eq_false_iff.mpr fun q => ?_
    cases Value.ref.inj (beq_iff_eq.mp q)
    unfold PySem.W.clsIn at hc
    split at hc
    · rename_i ho; cases (X _ _ ho).symm.trans htp
    · cases hc
  ca := fun X I k => exc_class T X I k
end DL
namespace DL
open PySem PySem.Spec PyProof.Rows L2
/-- an exception as a value -/
def Exc.d (e : Exc) : D := .exc e.cls (e.fs.map (·.1)) (e.fs.map (·.2))
/-- what the classes say -/
structure XcK (K : PySem.W.Frag) : Prop where
  c : ∀ c C, c ∈ errNames → PySem.W.nsIn K mainGlobals c = some (some (.ref C)) → ExcC K C
def IsKX (K : PySem.W.Frag) (u : Value) (f : Str → Bool) : Prop := ∀ c C, c ∈ errNames → PySem.W.nsIn K mainGlobals c = some (some (.ref C)) → PySem.W.kitOne K (.ref C) u = some (f c)
theorem xk_all {K : PySem.W.Frag}
    (h1 : ∀ C, PySem.W.nsIn K mainGlobals "TooMany" = some (some (.ref C)) → ExcC K C) (h2 : ∀ C, PySem.W.nsIn K mainGlobals "NoPlan" = some (some (.ref C)) → ExcC K C)
    (h3 : ∀ C, PySem.W.nsIn K mainGlobals "NoRoom" = some (some (.ref C)) → ExcC K C) (h4 : ∀ C, PySem.W.nsIn K mainGlobals "NotEven" = some (some (.ref C)) → ExcC K C)
    (h5 : ∀ C, PySem.W.nsIn K mainGlobals "NoDeed" = some (some (.ref C)) → ExcC K C) (h6 : ∀ C, PySem.W.nsIn K mainGlobals "NoText" = some (some (.ref C)) → ExcC K C) : XcK K := ⟨fun c C hm hn => by
  simp only [errNames, List.mem_cons, List.not_mem_nil, or_false] at hm
  rcases hm with rfl | rfl | rfl | rfl | rfl | rfl
  · exact h1 C hn
  · exact h2 C hn
  · exact h3 C hn
  · exact h4 C hn
  · exact h5 C hn
  · exact h6 C hn⟩
theorem isk_all {K : PySem.W.Frag} {u : Value} {f : Str → Bool}
    (h1 : ∀ C, PySem.W.nsIn K mainGlobals "TooMany" = some (some (.ref C)) → PySem.W.kitOne K (.ref C) u = some (f "TooMany")) (h2 : ∀ C, PySem.W.nsIn K mainGlobals "NoPlan" = some (some (.ref C)) → PySem.W.kitOne K (.ref C) u = some (f "NoPlan"))
    (h3 : ∀ C, PySem.W.nsIn K mainGlobals "NoRoom" = some (some (.ref C)) → PySem.W.kitOne K (.ref C) u = some (f "NoRoom")) (h4 : ∀ C, PySem.W.nsIn K mainGlobals "NotEven" = some (some (.ref C)) → PySem.W.kitOne K (.ref C) u = some (f "NotEven"))
    (h5 : ∀ C, PySem.W.nsIn K mainGlobals "NoDeed" = some (some (.ref C)) → PySem.W.kitOne K (.ref C) u = some (f "NoDeed")) (h6 : ∀ C, PySem.W.nsIn K mainGlobals "NoText" = some (some (.ref C)) → PySem.W.kitOne K (.ref C) u = some (f "NoText")) : IsKX K u f := fun c C hm hn => by
  simp only [errNames, List.mem_cons, List.not_mem_nil, or_false] at hm
  rcases hm with rfl | rfl | rfl | rfl | rfl | rfl
  · exact h1 C hn
  · exact h2 C hn
  · exact h3 C hn
  · exact h4 C hn
  · exact h5 C hn
  · exact h6 C hn
theorem bb_ValueError : bootBuiltins "ValueError" = some (.type "ValueError") := by decide +kernel
end DL
namespace DL
open PySem PySem.Spec PyProof.Rows L2 HotX
structure FnX (P : Program) (w : World) (K : PySem.W.Frag) (mg : Str → Option Value) (base : Heap) (CX : CXT) (k : Nat) (f : Addr) (fd : FuncData) (ps : List Str) (sp : Addr × Obj → Sp) : Prop where
  len : ∀ p vs H Q E, sp p vs H Q E → vs.length = ps.length
  run : ∀ (A : Around) (outer : List Env) (s : Shared) (H : Hp) (args : Args) (us : List Value) (vs : List V) (Q : VK) (E : XK) (p : Addr × Obj), L2H.RoomH k A → A.guards = some [] → L2H.Hot1 A p → L2H.PinOk outer H s p → Env0 P w K mg base A outer s H → BindsTo s fd args (ps.zip us) →
    Vals vs us → sp p vs H Q E → codeAny (model P w) A (.call (.ref f) args) (CR CX outer P w H s Q E) s
def spXP (K : PySem.W.Frag) (S : Addr → Exc → Spec) (p : Addr × Obj) : Sp := fun vs H Q _ => ∃ e cls d g io F st, L2N.Zn cls d p.2 ∧ ExcR K H io F cls d e ∧ ((S p.1 e).args g).length = (S p.1 e).n ∧ RelH K H io F st ∧ DenL K io F vs ((S p.1 e).args g) ∧ (S p.1 e).pre g st ∧ ∀ d st', (S p.1 e).post g st d st' → kE K H io F Q d st'
section
variable {X : Cx} {CX : CXT} {k : Nat} {f : Addr} {fd : FuncData} {ps : List Str} {sp : Addr × Obj → Sp} {E : XK} {x : Str} {p pos : Pos} {e : Expr} {es : List Expr} {t : TA}
theorem runX {pins : List (Addr × Obj)} {σ : L2.St} {H : Hp} {s : Shared} {Q : VK} {us : List Value} {vs : List V} {q : Addr × Obj} (F : FnX X.prog X.w X.K X.mg X.base CX k f fd ps sp) (hr : L2H.RoomH k X.A) (hgd : X.A.guards = some []) (hot : L2H.Hot1 X.A q) (hq : q ∈ X.pn) (hb : Binds X.K fd ps [])
    (hx : Passes CX X E) (I : Inv X pins σ H s) (r : Vals vs us) (h : sp q vs H Q E) : wpAny (model X.prog X.w) X.A (call (.ref f) us) (EP X pins σ Q) X.xe s := by
  have hlen : (us ++ []).length = ps.length := by rw [List.append_nil, ← r.length]; exact F.len _ _ _ _ _ h
  have hbind := hb s us I.kIn hlen
  rw [List.append_nil] at hbind
  have P1 := I.pin q (List.mem_append_left _ hq)
  have hpin : L2H.PinOk X.stack H s q := ⟨P1.1, P1.2.1, fun hm => (List.mem_cons.mp (I.stkSub q.1 hm)).elim P1.2.2.1 P1.2.2.2.1, P1.2.2.2.2⟩
  have run := F.run X.A X.stack s H ⟨us, []⟩ us vs Q E q hr hgd hot hpin I.env0 hbind r h
  refine wpAny_call (codeAny_mono run fun res s' hq => ?_)
  match res, hq with
  | .error e, hq => exact hx pins σ H s e s' I hq
  | .ok (.ret u), hq => exact I.after hq
  | .ok .next, hq => exact hq.elim
  | .ok .brk, hq => exact hq.elim
  | .ok .cont, hq => exact hq.elim
theorem pe_callX {q : Addr × Obj} (F : FnX X.prog X.w X.K X.mg X.base CX k f fd ps sp) (hr : L2H.RoomH k X.A) (hgd : X.A.guards = some []) (hot : L2H.Hot1 X.A q) (hq : q ∈ X.pn) (hg : Gl X x) (hm : X.mg x = some (.ref f)) (hk : PySem.W.keepIn X.K (.ref f) = true) (hb : Binds X.K fd ps []) (hx : Passes CX X E)
    (ha : PA X (e :: es) t) (hdb : (x == ("__debug__" : Str)) = false := by decide) (he : starEach (e :: es) X.env = (false, eval e X.env) :: starEach es X.env := by rfl) (hpl : (backTo pos (starEach es X.env)).any (·.1) = false := by rfl) :
    PE X (.Call (.Name x p) (e :: es) [] pos) (fun σ H Q => t σ H fun vs H1 => sp q vs H1 Q E) := by
  refine ⟨fun pins s σ H Q I h => wpAny_Call_Name_kw (ld_glob I hg hm ?_ hdb)⟩
  refine PySem.W.callWith_K (h₀ := X.base) I.ok.mod.kin hk (thn (ha.run pos pins s σ H _ I h) fun us s1 h1 => ?_) he hpl
  obtain ⟨vs, H1, I1, r, q1⟩ := h1
  exact ⟨I1.kIn, runX F hr hgd hot hq hb hx I1 r q1⟩
/-- a call in a suite, with the exception in hand -/
theorem we_callE [B : Bs] {wa : DA} {S : Addr → Exc → Spec} {a : Addr} {oe : Obj} {cls : Value} {d : Option Addr} {pn : List (Addr × Obj)} {ex : Exc} (F : FnX X.prog X.w X.K X.mg X.base CX0 k f fd ps (spXP X.K S)) (hr : L2H.RoomH k (X.suite a ((a, oe) :: pn)).A) (hgd : X.A.guards = some [])
    (hz : L2N.Zn cls d oe) (hf : ∃ vs, oe.data = .fields vs) (xr : ExcR X.K B.H B.io B.F cls d ex) (hg : Gl (X.suite a ((a, oe) :: pn)) x) (hm : X.mg x = some (.ref f)) (hk : PySem.W.keepIn X.K (.ref f) = true) (hb : Binds X.K fd ps [])
    (ha : WA (X.suite a ((a, oe) :: pn)) (e :: es) wa) (hdb : (x == ("__debug__" : Str)) = false := by decide) (he : starEach (e :: es) X.env = (false, eval e X.env) :: starEach es X.env := by rfl) (hpl : (backTo pos (starEach es X.env)).any (·.1) = false := by rfl) :
    WE (X.suite a ((a, oe) :: pn)) (.Call (.Name x p) (e :: es) [] pos) (wCall (S a ex) wa) := by
  have hot : L2H.Hot1 (X.suite a ((a, oe) :: pn)).A (a, oe) := by
    obtain ⟨vs, hv⟩ := hf
    exact ⟨rfl, vs, hv, hz.2.2 vs hv⟩
  refine ⟨moCall ha.mo, PE_imp (pe_callX (X := X.suite a ((a, oe) :: pn)) F hr hgd hot List.mem_cons_self hg hm hk hb pass0 ha.pe hdb he hpl) fun σ H Q ⟨env, io, Fz, st, R, q⟩ => ?_⟩
  refine tA_use ha.mo R q fun ds s1 vs io1 F1 H1 ⟨g, eg, z, p1, q1⟩ t1 R1 n1 => ?_
  subst eg
  exact ⟨ex, cls, d, g, io1, F1, s1, hz, xr.next R1.bs, z, R1.toRelH, n1, p1, fun d s2 h => kE_later t1 (q1 d s2 h)⟩
end
theorem fnX_of {CX : CXT} {P : Program} {w : World} {K : PySem.W.Frag} {mg : Str → Option Value} {base : Heap} {x qual : Str} {st : Stmt} {f : Addr} {fd : FuncData} {N ps : List Str} {k : Nat} {sp : Addr × Obj → Sp} (F : Fun K x qual st f fd) (S : FnScope N ps (defScope st))
    (len : ∀ p vs H Q E, sp p vs H Q E → vs.length = ps.length)
    (hbody : ∀ (cdv : Value) (A : Around) (outer : List Env) (s : Shared) (H : Hp) (vs : List V) (Q : VK) (E : XK) (p : Addr × Obj), L2H.RoomH k (A.deeper (envOfC qual (defScope st) s.heap.objs.size f cdv)) → A.guards = some [] → L2H.Hot1 A p → sp p vs H Q E →
      ∃ t, PSs (L2H.cxH CX P w K mg base N qual (defScope st) f cdv A outer s H E p) (defBody st) t ∧ t { nx := fun _ H' => Q .non H', rt := Q } (L2.start N vs) H) : FnX P w K mg base CX (k + 1) f fd ps sp := by
  obtain ⟨oc, od, kV, doc, pm, an, cdv, ct, osl, rfl, lk, hcd⟩ := F.ex
  refine ⟨len, fun A outer s H args us vs Q E p hr hgd hot hpin e0 hb r hsp => ?_⟩
  have hl := len _ _ _ _ _ hsp
  have inK : K.In s.heap := e0.mod.kin.keeps fun b o e => (e0.bs b o e).1
  have lim : s.heap.NoLimit := e0.mod.nolimit.keeps fun b o e => (e0.bs b o e).1
  have slots : ∀ y ∈ ps.zip us, (defScope st).names.lookup y.1 = some .local ∨ ((defScope st).names.lookup y.1 = some .cell ∧ ((cellsFrom (s.heap.objs.size + 1) (defScope st).names []).lookup y.1).isSome = true) := by
    rintro ⟨n, v⟩ hy
    have q := S.par n (List.of_mem_zip hy).1
    exact q.elim .inl fun q => .inr ⟨q, PySem.W.cellsFrom_some _ _ _ (.inl q)⟩
  refine codeAny_call_function hr.depth (inK _ _ lk) rfl S.co S.gen rfl (PySem.W.codeRec_of inK hcd) (hb _ _ _ _ ?_)
  refine wpAny_newFunctionEnv_cells S.kind slots fun env he s1 entry => ?_
  subst he
  obtain ⟨t, ht, hq⟩ := hbody cdv A outer s H vs Q E p (hr.deeper _) hgd hot hsp
  have I : Inv (L2H.cxH CX P w K mg base N qual (defScope st) f cdv A outer s H E p) [] (L2.start N vs) H s1 := L2H.inv_startH S hpin e0 hl r entry
  refine ⟨lim.keeps entry.toInCall.keep, codeAny_func (wpAny_mono (ht.run [] s1 _ H _ I hq) (fun fl s' hs => ?_) fun e s' hs => hs)⟩
  match fl, hs with
  | .ret u, ⟨v, _, H', J, rv, q⟩ => exact ⟨v, H', J.os, J.bare, J.base, J.hok, rv, q⟩
  | .next, ⟨_, H', J, q⟩ => exact ⟨.non, H', J.os, J.bare, J.base, J.hok, rfl, q⟩
  | .brk, ⟨_, _, _, q⟩ => exact q.elim
  | .cont, ⟨_, _, _, q⟩ => exact q.elim
/-- what such a def knows of it -/
structure InPin (X : Cx) (B : Bs) (p : Addr × Obj) (e : Exc) : Prop where
  mem : p ∈ X.pn
  dat : ∃ vs, p.2.data = .fields vs
  ex : ∃ cls d, L2N.Zn cls d p.2 ∧ ExcR X.K B.H B.io B.F cls d e
section
variable {P : Program} {w : World} {K : PySem.W.Frag} {mg : Str → Option Value} {base : Heap}
theorem fn_okE {x qual : Str} {st : Stmt} {f : Addr} {fd : FuncData} {N ps : List Str} {k : Nat} {S : Addr → Exc → Spec} {wb : Addr → Exc → DS} (F : Fun K x qual st f fd) (sc : FnScope N ps (defScope st)) (hn : ∀ a e, (S a e).n = ps.length)
    (body : ∀ [B : Bs] (cdv : Value) (A : Around) (outer : List Env) (s : Shared) (H : Hp) (E : XK) (p : Addr × Obj) (e : Exc), L2H.RoomH k (A.deeper (envOfC qual (defScope st) s.heap.objs.size f cdv)) → A.guards = some [] → Hot (L2H.cxH CX0 P w K mg base N qual (defScope st) f cdv A outer s H E p).nox →
      InPin (L2H.cxH CX0 P w K mg base N qual (defScope st) f cdv A outer s H E p).nox B p e → WB (L2H.cxH CX0 P w K mg base N qual (defScope st) f cdv A outer s H E p).nox (defBody st) (wb p.1 e))
    (vc : ∀ a e g sto, ((S a e).args g).length = (S a e).n → (S a e).pre g sto → wb a e (bodyEnds ((S a e).post g sto)) (startE N ((S a e).args g)) sto) : FnX P w K mg base CX0 (k + 1) f fd ps (spXP K S) := by
  refine fnX_of F sc (fun p vs H Q E h => ?_) (fun cdv A outer s H vs Q E p hr hgd hot h => ?_)
  · obtain ⟨e, cls, d, g, io, Fz, sto, _, _, z, R, n, _⟩ := h
    rw [n.length, z, hn]
  · obtain ⟨e, cls, d, g, io, Fz, sto, hz, xr, z, R, n, pp, q⟩ := h
    letI : Bs := ⟨H, io, Fz⟩
    obtain ⟨_, v1, hv, _⟩ := id hot
    have B := body cdv A outer s H E p e hr hgd (hot_cx hot) ⟨List.mem_singleton.mpr rfl, ⟨v1, hv⟩, cls, d, hz, xr⟩
    refine ⟨_, B.pe.nox, startE N ((S p.1 e).args g), io, Fz, sto, start_rel R n, B.mo (bodyEnds ((S p.1 e).post g sto)) _ _ _ ?_ (vc p.1 e g sto z pp)⟩
    refine ⟨fun e s h => ?_, fun d s h => ?_, fun e s h => h.elim, fun e s h => h.elim⟩
    · exact fun σ' io' F' H' t R' => q .non s h .non io' F' H' t R'.toRelH .non
    · exact q d s h
end
def rIsP (K : PySem.W.Frag) (p : Addr × Obj) : List V → Hp → VK → Prop := fun xs H Q => ∃ c u b C, xs = [.ref p.1, c] ∧ (∀ w, RelV c w → w = u) ∧ p.2.cls = .ref C ∧ ExcC K C ∧ PySem.W.kitOne K (.ref C) u = some b ∧ (∀ dd, p.2.dict = some dd → ∃ fv, H dd = some (.xd fv)) ∧ Q (.bl b) H
theorem call_isP {X : Cx} {p : Addr × Obj} (hp : p ∈ X.pn) (hf : ∃ vs, p.2.data = .fields vs) : CallR X (.builtin "isinstance") (rIsP X.K p) := by
  intro pins s σ H xs us Q I r h
  obtain ⟨c, u, b, C, rfl, hu, hcl, T, e, hd, q⟩ := h
  obtain ⟨u1, u2, rfl, r1, r2⟩ := vals2 r
  cases hu _ r2
  cases (show u1 = Value.ref p.1 from r1)
  obtain ⟨vs, hv⟩ := hf
  have eo := (I.pin p (List.mem_append_left _ hp)).1
  have J : ∃ od, PySem.W.InstAt s.heap p.1 p.2 C od := by
    cases hz : p.2.dict with
    | none => exact ⟨none, eo, hcl, by unfold PySem.W.notCls; rw [hv] <;> rfl, by rw [hz]; trivial⟩
    | some dx =>
      obtain ⟨fv, hx⟩ := hd dx hz
      obtain ⟨mA, hns, _⟩ := (show ObjOk X.prog X.w H s.heap dx (.xd fv) from I.hok dx _ hx)
      obtain ⟨od, ho, _⟩ := lookIn_ns hns
      exact ⟨some od, eo, hcl, by unfold PySem.W.notCls; rw [hv] <;> rfl, by rw [hz]; exact ho⟩
  obtain ⟨od, J⟩ := J
  exact PySem.W.kia_one (exc_kit T) I.kIn J e (fun z => nomatch z) fun tk => ⟨.bl b, H, I.tok tk, rfl, q⟩
/-- f: what the class's name says -/
def wIsP (a : Addr) (e : Exc) (f : Str → Bool) (we : DE) : DE := fun env st Q => we env st fun d s => d = rawD a ∧ e.cls ∈ errNames ∧ Q (.bl (f e.cls)) s
section
variable [B : Bs] {X : Cx} {pos p p2 : Pos} {e : Expr} {we : DE} {x : Str} {q : Addr × Obj} {ex : Exc}
theorem we_isPC {C : Addr} (hp : InPin X B q ex) (xk : XcK X.K) (hE : IsKX X.K (.ref C) (fun c => c == x || x == "WishError")) (hg : Gl X "isinstance") (hm : X.mg "isinstance" = none) (hg2 : Gl X x) (hm2 : X.mg x = some (.ref C)) (he : WE X e we) (hv : bootBuiltins "isinstance" = some (.builtin "isinstance") := by decide +kernel)
    (hd2 : (x == ("__debug__" : Str)) = false := by decide)
    (s1 : starEach [e, .Name x p2] X.env = (false, eval e X.env) :: starEach [.Name x p2] X.env := by rfl) (s2 : starEach [.Name x p2] X.env = (false, eval (.Name x p2) X.env) :: starEach [] X.env := by rfl)
    (hpl : (backTo pos (starEach [.Name x p2] X.env)).any (·.1) = false := by rfl) : WE X (.Call (.Name "isinstance" p) [e, .Name x p2] [] pos) (wIsP q.1 ex (fun c => c == x || x == "WishError") we) := by
  refine ⟨fun _ _ _ _ h q => he.mo _ _ _ _ (fun _ _ ⟨b, z, q⟩ => ⟨b, z, h _ _ q⟩) q, PE_imp (pe_callB (x := "isinstance") (call_isP hp.mem hp.dat) hg hm hv (pa_cons he.pe (pa_cons (pe_glob (v := .ref C) hg2 hm2 rfl hd2) pa_nil s2) s1) (by decide) (by decide) s1 hpl) fun σ H Q ⟨env, io, F, st, R, q1⟩ => ?_⟩
  refine tE_use he.mo R q1 fun d s1 v io1 F1 H1 ⟨hd, hcl, q1⟩ t1 R1 n1 => ?_
  subst hd
  have fin := kE_at q1 t1 R1.toRelH (.bl _)
  have ev : v = .ref q.1 := by cases n1; rfl
  subst ev
  obtain ⟨cls, dd, hz, xr⟩ := hp.ex
  obtain ⟨C2, c1, c2, c3⟩ := xr.next R1.bs
  subst c1
  refine ⟨.ref C, .ref C, _, C2, rfl, (fun w hw => hw), hz.1, xk.c _ _ hcl c2, hE _ _ hcl c2, fun d0 z => ?_, fin⟩
  rw [hz.2.1] at z
  rcases c3 with ⟨e3, _⟩ | ⟨d1, fv, e3, e4, _⟩
  · rw [e3] at z; cases z
  · rw [e3] at z; cases z; exact ⟨fv, e4⟩
theorem we_isPT {T : String} (hp : InPin X B q ex) (xk : XcK X.K) (hE : IsKX X.K (.type T) (fun _ => T == "ValueError")) (hg : Gl X "isinstance") (hm : X.mg "isinstance" = none) (hg2 : Gl X x) (hm2 : X.mg x = none) (hv2 : bootBuiltins x = some (.type T)) (he : WE X e we) (hv : bootBuiltins "isinstance" = some (.builtin "isinstance") := by decide +kernel)
    (hn2 : x ≠ "__name__" := by decide) (hd2 : (x == ("__debug__" : Str)) = false := by decide)
    (s1 : starEach [e, .Name x p2] X.env = (false, eval e X.env) :: starEach [.Name x p2] X.env := by rfl) (s2 : starEach [.Name x p2] X.env = (false, eval (.Name x p2) X.env) :: starEach [] X.env := by rfl)
    (hpl : (backTo pos (starEach [.Name x p2] X.env)).any (·.1) = false := by rfl) : WE X (.Call (.Name "isinstance" p) [e, .Name x p2] [] pos) (wIsP q.1 ex (fun _ => T == "ValueError") we) := by
  refine ⟨fun _ _ _ _ h q => he.mo _ _ _ _ (fun _ _ ⟨b, z, q⟩ => ⟨b, z, h _ _ q⟩) q, PE_imp (pe_callB (x := "isinstance") (call_isP hp.mem hp.dat) hg hm hv (pa_cons he.pe (pa_cons (pe_bltn (v := .ty T) hg2 hm2 hv2 rfl hn2 hd2) pa_nil s2) s1) (by decide) (by decide) s1 hpl) fun σ H Q ⟨env, io, F, st, R, q1⟩ => ?_⟩
  refine tE_use he.mo R q1 fun d s1 v io1 F1 H1 ⟨hd, hcl, q1⟩ t1 R1 n1 => ?_
  subst hd
  have fin := kE_at q1 t1 R1.toRelH (.bl _)
  have ev : v = .ref q.1 := by cases n1; rfl
  subst ev
  obtain ⟨cls, dd, hz, xr⟩ := hp.ex
  obtain ⟨C2, c1, c2, c3⟩ := xr.next R1.bs
  subst c1
  refine ⟨.ty T, .type T, _, C2, rfl, (fun w hw => hw), hz.1, xk.c _ _ hcl c2, hE _ _ hcl c2, fun d0 z => ?_, fin⟩
  rw [hz.2.1] at z
  rcases c3 with ⟨e3, _⟩ | ⟨d1, fv, e3, e4, _⟩
  · rw [e3] at z; cases z
  · rw [e3] at z; cases z; exact ⟨fv, e4⟩
end
end DL
namespace DL
open PySem PySem.Spec PyProof.Rows L2 Srt SrtO
abbrev T3 := Int × Int × Int
def lt3 (p q : T3) : Bool := if p.1 = q.1 then (if p.2.1 = q.2.1 then decide (p.2.2 < q.2.2) else decide (p.2.1 < q.2.1)) else decide (p.1 < q.1)
def Lt3 (p q : T3) : Prop := p.1 < q.1 ∨ (p.1 = q.1 ∧ (p.2.1 < q.2.1 ∨ (p.2.1 = q.2.1 ∧ p.2.2 < q.2.2)))
theorem lt3_iff {p q : T3} : lt3 p q = true ↔ Lt3 p q := by
  unfold lt3 Lt3
  by_cases h1 : p.1 = q.1
  · rw [if_pos h1]
    by_cases h2 : p.2.1 = q.2.1
    · rw [if_pos h2, decide_eq_true_iff]; omega
    · rw [if_neg h2, decide_eq_true_iff]; omega
  · rw [if_neg h1, decide_eq_true_iff]; omega
theorem lt3_no {p q : T3} : lt3 p q = false ↔ ¬Lt3 p q := by
  rw [← lt3_iff, Bool.not_eq_true]
theorem swo3 {α : Type} (κ : α → T3) : SrtO.Swo fun a b => lt3 (κ a) (κ b) := by
  constructor
  · intro a b h
    have h := lt3_iff.mp h
    rw [lt3_no]
    unfold Lt3 at h ⊢
    omega
  · intro a b c h1 h2
    have h1 := lt3_no.mp h1
    have h2 := lt3_no.mp h2
    rw [lt3_no]
    unfold Lt3 at h1 h2 ⊢
    omega
def Tri (h : Heap) (v : Value) (p : T3) : Prop := ∃ (r : Addr) (ob : Obj) (t1 t2 t3 : Tok) (m : Nat), v = .ref r ∧ h.get? r = some ob ∧ ob.cls = .type "tuple" ∧ ob.data = .seq #[.int p.1 t1, .int p.2.1 t2, .int p.2.2 t3] m
theorem Tri.keep {h h' : Heap} {v : Value} {p : T3} (z : Tri h v p) (k : ∀ b ob, h.get? b = some ob → ob.cls = .type "tuple" → h'.get? b = some ob) : Tri h' v p := by
  obtain ⟨r, ob, t1, t2, t3, m, e, g, c, d⟩ := z
  exact ⟨r, ob, t1, t2, t3, m, e, k r ob g c, c, d⟩
theorem heads3 {h : Heap} : ∀ {ws : List Value}, (∀ v ∈ ws, ∃ p, Tri h v p) → ∃ gs : List Value, PySem.W.KatTups h ws gs ∧ gs.length = ws.length ∧ ∀ g ∈ gs, ∃ i t, g = Value.int i t
  | [], _ => ⟨[], PySem.W.KatTups.nil, rfl, fun _ z => nomatch z⟩
  | w :: ws, hw => by
    obtain ⟨gs, a1, a2, a3⟩ := heads3 fun v z => hw v (List.mem_cons_of_mem _ z)
    obtain ⟨p, r, ob, t1, t2, t3, m, rfl, g, c, d⟩ := hw w List.mem_cons_self
    refine ⟨.int p.1 t1 :: gs, PySem.W.KatTups.cons g c d rfl a1, congrArg (· + 1) a2, fun x hx => ?_⟩
    rcases List.mem_cons.mp hx with rfl | hx
    · exact ⟨_, _, rfl⟩
    · exact a3 x hx
section
variable {prog : Program} {w : World} {A : Around} {s : Shared}
theorem cmp3 {ws : List Value} {κ : Value → T3} (hw : ∀ v ∈ ws, Tri s.heap v (κ v)) : SrtO.Cmp prog w A s (tuples' true) (fun p => p.1 ∈ ws) (SrtO.lt2 fun a b => lt3 (κ a) (κ b)) := by
  intro x y mx my
  obtain ⟨r, ob, t1, t2, t3, m, e, g, c, d⟩ := hw _ mx
  obtain ⟨r', ob', u1, u2, u3, m', e', g', c', d'⟩ := hw _ my
  show wpAny (model prog w) A (keyLt' (tuples' true) x.1 y.1) (fun res s1 => s1 = s ∧ res = lt3 (κ x.1) (κ y.1)) (fun _ _ => False) s
  generalize κ x.1 = p at d ⊢
  generalize κ y.1 = q at d' ⊢
  obtain ⟨i1, i2, i3⟩ := p
  obtain ⟨j1, j2, j3⟩ := q
  dsimp only at d d'
  rw [e, e']
  refine PySem.W.kat_lt g d g' d' ?_
  show PySem.W.KatLex prog w A true (decide (3 < 3)) _ [(.int i1 t1, .int j1 u1), (.int i2 t2, .int j2 u2), (.int i3 t3, .int j3 u3)] 0 s
  have fin : ∀ {b : Bool}, lt3 (i1, i2, i3) (j1, j2, j3) = b → s = s ∧ b = lt3 (i1, i2, i3) (j1, j2, j3) := fun h => ⟨rfl, h.symm⟩
  refine PySem.W.kat_cons (SeqAt.EqAt.int_int i1 t1 j1 u1 prog w _ _ ?_)
  refine PySem.W.kat_go (fun z1 => ?_) (fun z1 => ?_)
  · have z1 : i1 = j1 := by simpa using z1
    refine PySem.W.kat_yes (PySem.W.kat_cons (SeqAt.EqAt.int_int i2 t2 j2 u2 prog w _ _ ?_))
    refine PySem.W.kat_go (fun z2 => ?_) (fun z2 => ?_)
    · have z2 : i2 = j2 := by simpa using z2
      refine PySem.W.kat_yes (PySem.W.kat_cons (SeqAt.EqAt.int_int i3 t3 j3 u3 prog w _ _ ?_))
      refine PySem.W.kat_go (fun z3 => ?_) (fun z3 => ?_)
      · have z3 : i3 = j3 := by simpa using z3
        refine PySem.W.kat_yes (PySem.W.kat_nil (fin ?_))
        unfold lt3
        rw [if_pos z1, if_pos z2]
        exact decide_eq_false (show ¬i3 < j3 by omega)
      · refine PySem.W.kat_no (PySem.W.kat_one _ _ (PyProof.Rows.lt_int (fin ?_)))
        unfold lt3
        rw [if_pos z1, if_pos z2]
    · have z2 : ¬i2 = j2 := by simpa using z2
      refine PySem.W.kat_no (PySem.W.kat_one _ _ (PyProof.Rows.lt_int (fin ?_)))
      unfold lt3
      rw [if_pos z1, if_neg z2]
  · have z1 : ¬i1 = j1 := by simpa using z1
    refine PySem.W.kat_no (PyProof.Rows.oneLt_int (fin ?_))
    unfold lt3
    rw [if_neg z1]
theorem able3 {l : Addr} {ws : List Value} {κ : Value → T3} (h0 : 0 < ws.length) (hw : ∀ v ∈ ws, Tri s.heap v (κ v)) (hl : ∀ ob, s.heap.get? l = some ob → ob.cls ≠ .type "tuple") : SrtO.SortableO prog w A s l ws fun a b => lt3 (κ a) (κ b) := by
  intro h2 kp
  have hw2 : ∀ v ∈ ws, Tri h2 v (κ v) := fun v z => (hw v z).keep fun b ob e c => kp b ob (fun q => hl ob (by rw [← q]; exact e) c) e
  obtain ⟨gs, a1, a2, a3⟩ := heads3 fun v z => ⟨_, hw2 v z⟩
  refine ⟨tuples' true, fun Q E hq => ?_, cmp3 hw2⟩
  refine PySem.W.kat_kind (T := .type "int") a1 (by omega) (fun g z => ?_) (by rfl) ?_
  · obtain ⟨i, t, rfl⟩ := a3 g z
    exact PySem.W.Looks.now
  · rw [show (Value.type "int" != Value.type "tuple") = true by first | decide +kernel | rfl]
    exact hq
theorem sorted3 {l : Addr} {ws : List Value} {κ : Value → T3} {E : Value → Shared → Prop} {Q : Value → Shared → Prop} (hl : s.heap.IsList l ws.toArray) (hz : ws.length ≤ sizeLine) (hw : ∀ v ∈ ws, Tri s.heap v (κ v))
    (q : ∀ (h2 : Heap) (d : Addr) (out : List Value), SrtO.Srtd (fun a b => lt3 (κ a) (κ b)) out → SrtO.Stb (fun a b => lt3 (κ a) (κ b)) out ws → (∀ b ob, s.heap.get? b = some ob → h2.get? b = some ob) → s.heap.objs.size ≤ d → (∃ n, h2.get? d = some (seqObj "list" out.toArray n)) → Q (.ref d) { s with heap := h2 }) :
    wpAny (model prog w) A (call (.builtin "sorted") [.ref l]) Q E s := by
  refine SrtO.sorted_ord (swo3 κ) hl hz (fun _ h1 a ha kk => ?_) fun out g1 g2 => ?_
  · refine able3 (s := { s with heap := h1 }) (by omega) (fun v z => (hw v z).keep fun b ob e _ => (kk b ob e).2) fun ob e c => ?_
    have e2 : some ob = some (seqObj "list" ws.toArray 0) := e.symm.trans ha
    cases e2
    exact absurd (Value.type.inj c) (by decide)
  · exact q _ _ out g1 g2 (fun b ob e => sortedAll_old e) (Nat.le_succ _) (sortedAll_at s.heap ws out.toArray)
end
variable [Bs]
abbrev dTrip (p : T3) : D := .tup [.int p.1, .int p.2.1, .int p.2.2]
def Is3 (K : PySem.W.Frag) (H : Hp) (x : V) (p : T3) : Prop := ∃ t, x = .ref t ∧ SqT K H t [.int p.1, .int p.2.1, .int p.2.2]
def rSort3 (K : PySem.W.Frag) : List V → Hp → VK → Prop := fun vs H Q => ∃ (a : Addr) (xs : List V) (ps : List T3), vs = [V.ref a] ∧ SqL K H a xs ∧ Paired (Is3 K H) xs ps ∧
  ∀ ys qs p, qs.Perm ps → qs.Pairwise (fun a b => ¬Lt3 b a) → ys.length = qs.length → (∀ z ∈ ys.zip qs, z ∈ xs.zip ps) → H p = none → Q (.ref p) (upd H p (.lst ys))
open Classical in
noncomputable def k3 (K : PySem.W.Frag) (H : Hp) (x : V) : T3 := if h : ∃ p, Is3 K H x p then Classical.choose h else (0, 0, 0)
theorem k3_eq {X : Cx} {pins : List (Addr × Obj)} {σ : L2.St} {H : Hp} {s : Shared} (I : Inv X pins σ H s) {x : V} {p : T3} (h : Is3 X.K H x p) : k3 X.K H x = p := by
  unfold k3
  rw [dif_pos ⟨p, h⟩]
  obtain ⟨t, e1, h1⟩ := Classical.choose_spec (⟨p, h⟩ : ∃ p, Is3 X.K H x p)
  obtain ⟨t', e2, h2⟩ := h
  rw [e1] at e2
  cases e2
  have := I.tuple_inj h1 h2
  simp only [List.cons.injEq, V.int.injEq, and_true] at this
  exact Prod.ext this.1 (Prod.ext this.2.1 this.2.2)
theorem cr_sorted3 {X : Cx} : CallR X (.builtin "sorted") (rSort3 X.K) := by
  intro pins s σ H vs us Q I r h
  obtain ⟨a, xs, ps, rfl, hs, hx, q⟩ := h
  obtain ⟨its, rv, hl, hz⟩ := I.list hs
  obtain ⟨u, rfl, ru⟩ := vals1 r
  obtain rfl : u = Value.ref a := ru
  have hmap := paired_map (fun x p h => k3_eq I h) hx
  have hall : ∀ x ∈ xs, Is3 X.K H x (k3 X.K H x) := fun x hm => by
    obtain ⟨p, hp⟩ := paired_mem hx x hm
    rw [k3_eq I hp]; exact hp
  obtain ⟨e1, e2⟩ := refs_back rv fun x m => by
    obtain ⟨t, e, _⟩ := hall x m
    exact ⟨t, e⟩
  refine sorted3 (κ := fun u => k3 X.K H (backV u)) hl.isList (by rw [← rv.length]; exact hz) (fun v hv => ?_) fun h' d out h1 h2 kp hd hn => ?_
  · obtain ⟨t, rfl⟩ := e2 v hv
    have hm : V.ref t ∈ xs := by rw [e1]; exact List.mem_map.mpr ⟨_, hv, rfl⟩
    obtain ⟨t', e, ht⟩ := hall _ hm
    cases e
    obtain ⟨its2, r2, hT, _⟩ := I.tuple ht
    obtain ⟨o, ho, hc, n, hd⟩ := hT
    cases r2 with
    | cons ri r2 => cases r2 with
      | cons rj r2 => cases r2 with
        | cons rk r2 =>
          cases r2
          obtain ⟨t1, rfl⟩ := ri
          obtain ⟨t2, rfl⟩ := rj
          obtain ⟨t3, rfl⟩ := rk
          exact ⟨t, o, t1, t2, t3, n, rfl, ho, hc, hd⟩
  · have h3 : ∀ u ∈ out, ∃ a, u = Value.ref a := fun u hu => e2 u (h2.perm.mem_iff.mp hu)
    obtain ⟨n, hn⟩ := hn
    have hb : SrtO.Stb (fun a b => lt3 (k3 X.K H a) (k3 X.K H b)) (out.map backV) xs := by
      rw [e1]
      exact SrtO.Stb.map (swo3 (k3 X.K H)) backV h2
    have hsr : SrtO.Srtd (fun a b => lt3 (k3 X.K H a) (k3 X.K H b)) (out.map backV) := SrtO.srtd_map h1
    refine ⟨.ref d, upd H d (.lst (out.map backV)), I.laid (t' := s.toks) kp hd ⟨?_, out, n, vals_back h3, hn⟩, rfl, q (out.map backV) ((out.map backV).map (k3 X.K H)) d ?_ ?_ (List.length_map (f := k3 X.K H)).symm (fun z hz => ?_) (I.hok.fresh hd)⟩
    · rw [hb.len]
      exact hz
    · rw [← hmap]; exact hb.perm.map _
    · exact List.pairwise_map.mpr (List.Pairwise.imp (fun {x y} h => lt3_no.mp h) hsr)
    · rw [zip_self] at hz
      obtain ⟨y, hy, rfl⟩ := List.mem_map.mp hz
      rw [← hmap, zip_self]
      exact List.mem_map.mpr ⟨y, hb.perm.mem_iff.mp hy, rfl⟩
/-- sorted(xs) of rows of three ints -/
def bSort3 (m : Bool) : RLD := fun ds st Q => ∃ d, ds = [d] ∧ ∃ ps : List T3, rd st d = .lst (ps.map dTrip) ∧ ∀ ps' : List T3, ps'.Perm ps → ps'.Pairwise (fun a b => ¬Lt3 b a) → newL m (ps'.map dTrip) st Q
theorem den_tr {K : PySem.W.Frag} {io : List Addr} {F H : Hp} (hs : ∀ a o, F a = some o → H a = some o) : ∀ {xs : List V} {ps : List T3}, DenL K io F xs (ps.map dTrip) → Paired (Is3 K H) xs ps
  | [], [], _ => .nil
  | x :: xs, p :: ps, .cons a b => by
    refine .cons ?_ (den_tr hs b)
    cases a with
    | tup s1 r1 _ =>
      cases r1 with
      | cons a1 r1 => cases r1 with
        | cons b1 r1 => cases r1 with
          | cons c1 r1 =>
            cases r1
            cases a1
            cases b1
            cases c1
            exact ⟨_, rfl, SqT_mono hs s1.t⟩
theorem den_zip3 {K : PySem.W.Frag} {io : List Addr} {F : Hp} : ∀ {xs : List V} {ps : List T3}, DenL K io F xs (ps.map dTrip) → ∀ z ∈ xs.zip ps, Den K io F z.1 (dTrip z.2)
  | [], [], _, z, hz => by cases hz
  | x :: xs, p :: ps, .cons a b, z, hz => by
    rw [List.zip_cons_cons] at hz
    rcases List.mem_cons.mp hz with e | hz
    · subst e; exact a
    · exact den_zip3 b z hz
theorem den_of_zip3 {K : PySem.W.Frag} {io : List Addr} {F : Hp} : ∀ {xs : List V} {ps : List T3}, xs.length = ps.length → (∀ z ∈ xs.zip ps, Den K io F z.1 (dTrip z.2)) → DenL K io F xs (ps.map dTrip)
  | [], [], _, _ => .nil
  | x :: xs, p :: ps, hl, h => .cons (h (x, p) (by rw [List.zip_cons_cons]; exact List.mem_cons_self)) (den_of_zip3 (by simpa using hl) fun z hz => h z (by rw [List.zip_cons_cons]; exact List.mem_cons_of_mem _ hz))
theorem z_sort3 {K : PySem.W.Frag} {m : Bool} : RzL K (rSort3 K) (bSort3 m) where
  mo := fun ds s Q Q' h ⟨d, e1, ps, h1, q⟩ => ⟨d, e1, ps, h1, fun ps' h2 h3 => newL_mo h (q ps' h2 h3)⟩
  on := fun {H io F st vs ds Q} R n ⟨d, e1, ps, h1, q⟩ => by
    subst e1
    obtain ⟨v, rfl, n1⟩ := n.one
    obtain ⟨a, xs, rfl, hl, hx, hz⟩ := rd_lst R n1 h1
    rw [List.length_map] at hz
    refine ⟨a, xs, ps, rfl, .of hl, den_tr R.sub hx, fun ys qs p h2 h3 h4 h5 hp => ?_⟩
    exact lay_new R (den_of_zip3 h4 fun z hz => den_zip3 hx z (h5 z hz)) (by rw [List.length_map, h2.length_eq]; exact hz) (q qs h2 h3) p hp
end DL
namespace DL
open PySem PySem.Spec PyProof.Rows L2
/-- no wish looks on from here -/
instance (priority := low) : Bs := ⟨fun _ => none, [], fun _ => none⟩
def dInts (ns : List Int) : D := .tup (ns.map .int)
structure Wk where
  len : Int
  ahead : List Int
  able : List Int
def Wk.d (w : Wk) : D := .tup [.int w.len, dInts w.ahead, dInts w.able]
structure Ws where
  work : Int
  kind : Int
  day : Int
  weight : Int
  rank : Int
def Ws.d (w : Ws) : D := .tup [.int w.work, .int w.kind, .int w.day, .int w.weight, .int w.rank]
structure Sy where
  days : Int
  hands : List (List Int)
  works : List Wk
  wishes : List Ws
def Sy.d (s : Sy) : D := .tup [.int s.days, .tup (s.hands.map dInts), .tup (s.works.map Wk.d), .tup (s.wishes.map Ws.d)]
section
variable {st : Sto} {Q : DK} {env : En} {s : Sy} {w : Wk} {u : Ws} {ns : List Int}
theorem sy_ix0 : dIx s.d (.int 0) st Q = Q (.int s.days) st := by unfold Sy.d; rw [v_ixT]; simp only [at0, v_some]
theorem sy_ix1 : dIx s.d (.int 1) st Q = Q (.tup (s.hands.map dInts)) st := by unfold Sy.d; rw [v_ixT]; simp only [at1, v_some]
theorem sy_ix2 : dIx s.d (.int 2) st Q = Q (.tup (s.works.map Wk.d)) st := by unfold Sy.d; rw [v_ixT]; simp only [at2, v_some]
theorem sy_ix3 : dIx s.d (.int 3) st Q = Q (.tup (s.wishes.map Ws.d)) st := by unfold Sy.d; rw [v_ixT]; simp only [at3, v_some]
theorem sy_sl3 : dSl false s.d none (some 3) st Q = Q (.tup [.int s.days, .tup (s.hands.map dInts), .tup (s.works.map Wk.d)]) st := rfl
theorem sy_tp {gs : DGs} {Q : En → Sto → Prop} : gTp 4 gs s.d env st Q = gs [.int s.days, .tup (s.hands.map dInts), .tup (s.works.map Wk.d), .tup (s.wishes.map Ws.d)] env st Q := by unfold Sy.d; rw [v_gTp]; simp
theorem wk_ix0 : dIx w.d (.int 0) st Q = Q (.int w.len) st := by unfold Wk.d; rw [v_ixT]; simp only [at0, v_some]
theorem wk_ix1 : dIx w.d (.int 1) st Q = Q (dInts w.ahead) st := by unfold Wk.d; rw [v_ixT]; simp only [at1, v_some]
theorem wk_ix2 : dIx w.d (.int 2) st Q = Q (dInts w.able) st := by unfold Wk.d; rw [v_ixT]; simp only [at2, v_some]
theorem wk_tp {gs : DGs} {Q : En → Sto → Prop} : gTp 3 gs w.d env st Q = gs [.int w.len, dInts w.ahead, dInts w.able] env st Q := by unfold Wk.d; rw [v_gTp]; simp
theorem ws_tp {gs : DGs} {Q : En → Sto → Prop} : gTp 5 gs u.d env st Q = gs [.int u.work, .int u.kind, .int u.day, .int u.weight, .int u.rank] env st Q := by unfold Ws.d; rw [v_gTp]; simp
theorem ns_seq {R : GK} : seqI (dInts ns) st R = R (ns.map .int) (fun _ => True) st := rfl
theorem ns_len : bLen [dInts ns] st Q = Q (.int ns.length) st := by unfold dInts; rw [v_lenT, List.length_map]
theorem ns_ix {i : Int} : dIx (dInts ns) (.int i) st Q = ∃ d, atI (ns.map D.int) i = some d ∧ Q d st := v_ixT
theorem ns_rd : rd st (dInts ns) = dInts ns := rfl
theorem sy_rd : rd st s.d = s.d := rfl
theorem wk_rd : rd st w.d = w.d := rfl
theorem ws_rd : rd st u.d = u.d := rfl
end
section
variable {st : Sto} {Q : DK} {env : En} {ds : List D} {f : Bool → Bool} {c0 c1 : Cel} {i : Int}
theorem seqI_tup {R : GK} : seqI (.tup ds) st R = R ds (fun _ => True) st := rfl
theorem seqI_lst {R : GK} : seqI (.lst ds) st R = R ds (fun _ => True) st := rfl
theorem seqI_scr {R : GK} : seqI (.scr ds) st R = R ds (fun _ => True) st := rfl
theorem seqJ_tup {R : GK} : seqJ (.tup ds) st R = R ds (fun _ => True) st := rfl
theorem seqJ_lst {R : GK} : seqJ (.lst ds) st R = R ds (fun _ => True) st := rfl
theorem okL_ints : ∀ ns : List Int, D.okL (ns.map .int) = true
  | [] => rfl
  | _ :: r => by rw [List.map_cons]; simp only [D.okL, D.ok, okL_ints r, Bool.and_self]
theorem isE_eqvL : ∀ ds : List D, D.eqvL ds [] = ds.isEmpty
  | [] => by simp only [D.eqvL]; rfl
  | _ :: _ => by simp only [D.eqvL]; rfl
theorem v_eqN {a : D} (h : rd st a = .lst ds) : dEqB f a (.lst []) st Q = (D.okL ds = true ∧ Q (.bl (f ds.isEmpty)) st) := by
  rw [v_eqO (fun x e => by subst e; cases h)]
  unfold dEqO
  simp only [h, rd_lst', D.ok, D.okL, D.dep, D.depL, D.eqv, isE_eqvL, true_and]
  apply propext
  constructor
  · exact fun ⟨h1, _, q⟩ => ⟨h1, q⟩
  · exact fun ⟨h1, q⟩ => ⟨h1, by omega, q⟩
theorem v_eqNl : dEqB f (.lst ds) (.lst []) st Q = (D.okL ds = true ∧ Q (.bl (f ds.isEmpty)) st) := v_eqN rfl
theorem v_eqNt : dEqB f (.tup ds) (.tup []) st Q = (D.okL ds = true ∧ Q (.bl (f ds.isEmpty)) st) := by
  rw [v_eqO (a := .tup ds) (fun _ h => nomatch h)]
  unfold dEqO
  simp only [rd_tup', D.ok, D.okL, D.dep, D.depL, D.eqv, isE_eqvL, true_and]
  apply propext
  constructor
  · exact fun ⟨h1, _, q⟩ => ⟨h1, q⟩
  · exact fun ⟨h1, q⟩ => ⟨h1, by omega, q⟩
theorem rd_r0 : rd (.lst ds :: st) (.ref 0) = .lst ds := rfl
theorem rd_r1 : rd (c0 :: .lst ds :: st) (.ref 1) = .lst ds := rfl
theorem rd_r2 : rd (c0 :: c1 :: .lst ds :: st) (.ref 2) = .lst ds := rfl
theorem v_ixR {a : D} (h : rd st a = .lst ds) : dIx a (.int i) st Q = ∃ d, atI ds i = some d ∧ Q d st := propext ⟨fun ⟨_, e, q⟩ => by cases e; rw [h] at q; exact q, fun q => ⟨_, rfl, by rw [h]; exact q⟩⟩
theorem v_lenR {a : D} (h : rd st a = .lst ds) : bLen [a] st Q = Q (.int ds.length) st := v_len (by rw [h]; rfl)
theorem v_ix0 : dIx (.ref 0) (.int i) (.lst ds :: st) Q = ∃ d, atI ds i = some d ∧ Q d (.lst ds :: st) := v_ixR rfl
theorem v_ix1 : dIx (.ref 1) (.int i) (c0 :: .lst ds :: st) Q = ∃ d, atI ds i = some d ∧ Q d (c0 :: .lst ds :: st) := v_ixR rfl
theorem v_ix2 : dIx (.ref 2) (.int i) (c0 :: c1 :: .lst ds :: st) Q = ∃ d, atI ds i = some d ∧ Q d (c0 :: c1 :: .lst ds :: st) := v_ixR rfl
theorem v_eq0 : dEqB f (.ref 0) (.lst []) (.lst ds :: st) Q = (D.okL ds = true ∧ Q (.bl (f ds.isEmpty)) (.lst ds :: st)) := v_eqN rfl
theorem v_len0 : bLen [.ref 0] (.lst ds :: st) Q = Q (.int ds.length) (.lst ds :: st) := v_lenR rfl
theorem v_len1 : bLen [.ref 1] (c0 :: .lst ds :: st) Q = Q (.int ds.length) (c0 :: .lst ds :: st) := v_lenR rfl
theorem v_app0 {d : D} : mAppend (.ref 0) [d] (.lst ds :: st) Q = (ds.length < sizeLine ∧ Q .non (.lst (ds ++ [d]) :: st)) := v_app rfl
theorem v_app1 {d : D} : mAppend (.ref 1) [d] (c0 :: .lst ds :: st) Q = (ds.length < sizeLine ∧ Q .non (c0 :: .lst (ds ++ [d]) :: st)) := v_app rfl
theorem v_ex0 : (∃ x, D.lst ds = .lst x) = True := by simp
end
/-- increasing numbers below n -/
def Row (n : Int) (r : List Int) : Prop := r.Pairwise (· < ·) ∧ ∀ x ∈ r, 0 ≤ x ∧ x < n
structure Wk.Ok (w : Wk) (i hands length : Int) : Prop where
  len : 1 ≤ w.len ∧ w.len ≤ length
  ahead : Row i w.ahead
  able : Row hands w.able
  any : w.able ≠ []
structure Ws.Ok (w : Ws) (works days : Int) : Prop where
  work : 0 ≤ w.work ∧ w.work < works
  kind : 0 ≤ w.kind ∧ w.kind ≤ 1
  day : 0 ≤ w.day ∧ w.day ≤ days
  weight : 1 ≤ w.weight ∧ w.weight ≤ 100
  rank : 0 ≤ w.rank ∧ w.rank ≤ 3
structure Sy.Ok (s : Sy) (days hands works length wishes : Int) : Prop where
  days : 1 ≤ s.days ∧ s.days ≤ days
  hands : 1 ≤ s.hands.length ∧ s.hands.length ≤ hands
  rows : ∀ r ∈ s.hands, Row s.days r
  works : s.works.length ≤ works
  work : ∀ (i : Nat) (w : Wk), s.works[i]? = some w → w.Ok i s.hands.length length
  wishes : s.wishes.length ≤ wishes
  wish : ∀ w ∈ s.wishes, w.Ok s.works.length s.days
theorem Row.len {n : Int} : ∀ {r : List Int}, Row n r → (r.length : Int) ≤ max n 0 := by
  have key : ∀ (r : List Int) (lo : Int), r.Pairwise (· < ·) → (∀ x ∈ r, lo ≤ x ∧ x < n) → (r.length : Int) ≤ max (n - lo) 0 := fun r => by
    induction r with
    | nil => intro lo _ _; simp only [List.length_nil]; omega
    | cons a t ih =>
      intro lo hp hb
      rw [List.pairwise_cons] at hp
      have ha := hb a List.mem_cons_self
      have := ih (a + 1) hp.2 fun x hx => ⟨by have := hp.1 x hx; omega, (hb x (List.mem_cons_of_mem _ hx)).2⟩
      rw [List.length_cons]
      omega
  intro r h
  have := key r 0 h.1 h.2
  omega
structure FitN (k n : Nat) (d : D) : Prop where
  ok : d.ok = true
  sml : d.sml = true
  blk : d.blk ≤ n
  dep : d.dep ≤ k
theorem FitN.fit {k n : Nat} {d : D} (h : FitN k n d) (hk : k ≤ 60) (hn : n ≤ 1000000) : d.Fit := fit_mk h.ok h.sml (Nat.le_trans h.blk hn) (Nat.le_trans h.dep hk)
theorem FitN.mono {k n k' n' : Nat} {d : D} (h : FitN k n d) (hk : k ≤ k') (hn : n ≤ n') : FitN k' n' d := ⟨h.ok, h.sml, Nat.le_trans h.blk hn, Nat.le_trans h.dep hk⟩
structure FitL (k n : Nat) (ds : List D) : Prop where
  ok : D.okL ds = true
  sml : D.smlL ds = true
  blk : D.blkL ds ≤ n
  dep : D.depL ds ≤ k
theorem fitL_nil {k n : Nat} : FitL k n [] := ⟨rfl, rfl, Nat.zero_le _, Nat.zero_le _⟩
theorem fitL_cons {k n m : Nat} {d : D} {ds : List D} (h : FitN k n d) (t : FitL k m ds) : FitL k (n + 1 + m) (d :: ds) := by
  have h1 := h.blk
  have h2 := h.dep
  have h3 := t.blk
  have h4 := t.dep
  refine ⟨?_, ?_, ?_, ?_⟩
  · simp only [D.okL, h.ok, t.ok, Bool.and_self]
  · simp only [D.smlL, h.sml, t.sml, Bool.and_self]
  · simp only [D.blkL]; omega
  · simp only [D.depL]; omega
theorem fitL_map {α : Type} {k n : Nat} {enc : α → D} : ∀ {xs : List α}, (∀ x ∈ xs, FitN k n (enc x)) → FitL k (xs.length * (n + 1)) (xs.map enc)
  | [], _ => ⟨rfl, rfl, Nat.zero_le _, Nat.zero_le _⟩
  | x :: xs, h => by
    have h1 := fitL_cons (h x List.mem_cons_self) (fitL_map fun y hy => h y (List.mem_cons_of_mem _ hy))
    rw [List.map_cons, List.length_cons, Nat.succ_mul, Nat.add_comm]
    exact h1
theorem fit_tup {k n : Nat} {ds : List D} (h : FitL k n ds) : FitN (k + 1) n (.tup ds) := ⟨by simp only [D.ok, h.ok], by simp only [D.sml, h.sml], by simp only [D.blk]; exact h.blk, by simp only [D.dep]; have := h.dep; omega⟩
theorem fit_int {k n : Nat} {i : Int} (h : -1000000000 ≤ i ∧ i ≤ 100000000000) : FitN k n (.int i) := ⟨rfl, by simp only [D.sml, decide_eq_true_eq]; omega, Nat.zero_le _, Nat.zero_le _⟩
theorem fit_non {k n : Nat} : FitN k n .non := ⟨rfl, rfl, Nat.zero_le _, Nat.zero_le _⟩
def Dk (B : Int) (rest st : Sto) : Prop := ∃ (ds cs : List Int) (t : Int), st = .lst (ds.map .int) :: .lst (cs.map .int) :: .lst [.ref 0, .ref 1, .int t] :: rest ∧
  (∀ x ∈ ds, 0 ≤ x ∧ x < 2147483629) ∧ (∀ x ∈ cs, 0 ≤ x ∧ x < 2147483629) ∧ cs ≠ [] ∧ ds.length ≤ 2000 ∧ cs.length ≤ 2000 ∧ 0 ≤ t ∧ t ≤ B
theorem Dk.mono {B B' : Int} {rest st : Sto} (h : Dk B rest st) (hb : B ≤ B') : Dk B' rest st := by
  obtain ⟨ds, cs, t, e, h1, h2, h3, h4, h5, h6, h7⟩ := h
  exact ⟨ds, cs, t, e, h1, h2, h3, h4, h5, h6, by omega⟩
end DL
namespace DL.M
open PySem PySem.Spec PyProof.Rows L2
local macro_rules
  | `(tactic| simp? only [$as,*] $[$loc]?) => `(tactic| simp only [$as,*, v_eqE, wComp, wipeE, wFor, wIsi, iEnum, iZip, zipI_tup, zipI_lst, zipI_lt, zipI_tl, seqJ_tup, seqJ_lst, v_app0, v_app1, v_eqNl, v_eqNt, rd_r0, rd_r1, rd_r2, v_ix0, v_ix1, v_ix2, v_eq0, v_len0, v_len1, v_ex0, v_mulS, wRevA, v_revT, v_revL, wRgL1, wRgL2, wRgT1, wRgT2, v_rgx1, v_rgx2, sy_ix0, sy_ix1, sy_ix2, sy_ix3, sy_sl3, sy_tp, wk_ix0, wk_ix1, wk_ix2, wk_tp, ws_tp, ns_seq, ns_len, ns_ix, ns_rd, sy_rd, wk_rd, ws_rd, wSeq, wAsg, wRet, wIf, wDrop, wOp, wCons, wNil, wTup, wLst, wCB, wCall, wTest, wAnd, wOr, wNot, wNotV, wAndV, wOrV, wChain, wNeg, wC, wM, wSl, oNo, oPart, iSeq, seqI_tup, seqI_lst, seqI_scr, v_rg1, v_rg2, gNm, v_gTp, v_gCn, v_gNl, v_var0, v_varS, v_sub, v_mod, v_fdiv, v_pow, v_iadd, v_add, v_addT, v_addL, v_mul, v_lt, v_le, v_gt, v_ge, v_eqi, v_ixT, v_ixL, v_ixS, v_lenT, v_lenL, v_lenS, v_abs, v_min2, v_max2, v_intI, v_intB, v_tupl, v_tupT, v_bl, v_in, v_some, v_newT, v_newF, startE, rd_int', rd_bl', rd_str', rd_tup', rd_lst', rd_scr', rd_non', at0, at1, at2, at3, at4, List.map_cons, List.map_nil, List.length_cons, List.length_nil, List.length_map, List.replicate_succ, List.replicate_zero, Nat.reduceSub, Nat.reduceAdd, List.cons_append, List.nil_append, List.set_cons_zero, List.set_cons_succ, List.getElem?_cons_zero, List.getElem?_cons_succ, Bool.not_true, Bool.not_false, if_true, if_false, Bool.false_eq_true, reduceCtorEq, true_and, and_true, bodyEnds, Nat.zero_add, decide_eq_true_eq] $[$loc]?)
  | `(tactic| simp?! only [$as,*] $[$loc]?) => `(tactic| simp only [$as,*, v_eqE, wComp, wipeE, wFor, wIsi, iEnum, iZip, zipI_tup, zipI_lst, zipI_lt, zipI_tl, seqJ_tup, seqJ_lst, v_app0, v_app1, v_eqNl, v_eqNt, rd_r0, rd_r1, rd_r2, v_ix0, v_ix1, v_ix2, v_eq0, v_len0, v_len1, v_ex0, v_mulS, wRevA, v_revT, v_revL, wRgL1, wRgL2, wRgT1, wRgT2, v_rgx1, v_rgx2, sy_ix0, sy_ix1, sy_ix2, sy_ix3, sy_sl3, sy_tp, wk_ix0, wk_ix1, wk_ix2, wk_tp, ws_tp, ns_seq, ns_len, ns_ix, ns_rd, sy_rd, wk_rd, ws_rd, wAsg, wRet, wIf, wDrop, wOp, wCons, wNil, wTup, wLst, wCB, wCall, wTest, wAnd, wOr, wNot, wNotV, wAndV, wOrV, wChain, wNeg, wC, wM, wSl, oNo, oPart, iSeq, seqI_tup, seqI_lst, seqI_scr, v_rg1, v_rg2, gNm, v_gTp, v_gCn, v_gNl, v_var0, v_varS, v_sub, v_mod, v_fdiv, v_pow, v_iadd, v_add, v_addT, v_addL, v_mul, v_lt, v_le, v_gt, v_ge, v_eqi, v_ixT, v_ixL, v_ixS, v_lenT, v_lenL, v_lenS, v_abs, v_min2, v_max2, v_intI, v_intB, v_tupl, v_tupT, v_bl, v_in, v_some, v_newT, v_newF, startE, rd_int', rd_bl', rd_str', rd_tup', rd_lst', rd_scr', rd_non', at0, at1, at2, at3, at4, List.map_cons, List.map_nil, List.length_cons, List.length_nil, List.length_map, List.replicate_succ, List.replicate_zero, Nat.reduceSub, Nat.reduceAdd, List.cons_append, List.nil_append, List.set_cons_zero, List.set_cons_succ, List.getElem?_cons_zero, List.getElem?_cons_succ, Bool.not_true, Bool.not_false, if_true, if_false, Bool.false_eq_true, reduceCtorEq, true_and, and_true, bodyEnds, Nat.zero_add, decide_eq_true_eq] $[$loc]?)
def w_f_law_deck_1 : DT := wAnd (wTest (wOp dGe (wVar 3) (wOp dPow (wC (.int 10)) (wC (.int 18))))) (wTest (wOp dLt (wCB bLen (wCons (wVar 1) (wNil))) (wC (.int 900))))
def w_f_law_deck_2 : DS := wSeq (wDrop (wM mAppend (wVar 1) (wCons (wOp dMod (wVar 3) (wC (.int 2147483629))) (wNil)))) (wAsg (wOp dFdiv (wVar 3) (wC (.int 2147483629))) (gNm 3))
def w_f_law_deck_3 : DS := wSeq (wAsg (wCB bAbs (wCons (wVar 3) (wNil))) (gNm 3)) (wSeq (wDrop (wM mAppend (wVar 2) (wCons (wOp dMod (wVar 3) (wC (.int 2147483629))) (wNil)))) (wWhile w_f_law_deck_1 w_f_law_deck_2))
def w_f_law_deck : DS := wSeq (wAsg (wLst true (wNil)) (gNm 1)) (wSeq (wAsg (wLst true (wCons (wCB bLen (wCons (wVar 0) (wNil))) (wNil))) (gNm 2)) (wSeq (wFor (iSeq (wSl false (wVar 0) oNo (oPart (wC (.int 60))))) (gNm 3) w_f_law_deck_3) (wRet (wLst true (wCons (wVar 1) (wCons (wVar 2) (wCons (wC (.int 0)) (wNil))))))))
def S_f_law_deck : DL.Spec := ⟨1, List Int, fun ns => [.scr (ns.map .int)], fun ns st => ns.length ≤ 63 ∧ st = [], fun _ _ d st' => d = .ref 2 ∧ Dk 0 [] st'⟩
def goodM (ns : List Int) : Prop := ∀ x ∈ ns, 0 ≤ x ∧ x < 2147483629
theorem goodM.snoc {ns : List Int} {x : Int} (h : goodM ns) (h0 : 0 ≤ x) (h1 : x < 2147483629) : goodM (ns ++ [x]) := fun y hy => by
  rcases List.mem_append.mp hy with z | z
  · exact h y z
  · simp at z; subst z; exact ⟨h0, h1⟩
theorem cut60 (ns : List Int) : cutL (ns.map D.int) none (some 60) = (ns.take 60).map D.int := by
  have e1 : HT.sIx (ns.map D.int).length 0 none = 0 := rfl
  have e2 : HT.sIx (ns.map D.int).length (ns.map D.int).length (some 60) = min 60 ns.length := by rw [List.length_map]; exact HT.sIx_nat ns.length ns.length 60
  unfold cutL
  rw [e1, e2, List.drop_zero, Nat.sub_zero, List.map_take]
  rcases Nat.le_total 60 ns.length with h | h
  · rw [Nat.min_eq_left h]
  · rw [Nat.min_eq_right h, List.take_of_length_le (by rw [List.length_map]; omega), List.take_of_length_le (by rw [List.length_map]; omega)]
theorem vc_f_law_deck : ∀ g sto, (S_f_law_deck.args g).length = S_f_law_deck.n → S_f_law_deck.pre g sto → w_f_law_deck (bodyEnds (S_f_law_deck.post g sto)) (startE ["_law_script", "_law_digits", "_law_cells", "_law_cell"] (S_f_law_deck.args g)) sto := by
  rintro (ns : List Int) sto _ ⟨hl, rfl⟩
  have z3 : 3 ≤ sizeLine := by decide
  simp? only [w_f_law_deck, S_f_law_deck, wFor, dSl]
  refine ⟨Nat.zero_le _, by omega, ?_⟩
  have ec : cutL (ns.map D.int) none (some 60) = (ns.take 60).map D.int := cut60 ns
  rw [ec]
  refine forL_inv (fun i e s => ∃ x3 ds cs, e = [some (.scr (ns.map .int)), some (.ref 0), some (.ref 1), x3] ∧ s = [.lst (ds.map .int), .lst (cs.map .int)] ∧ goodM ds ∧ goodM cs ∧ ds.length ≤ 900 ∧ cs.length = i + 1) ?_ ?_ _ _ ?_
  · rintro i env st d ⟨x3, ds, cs, rfl, rfl, gd, gc, ld, lc⟩ hd R hR
    refine ⟨trivial, ?_⟩
    obtain ⟨hi, hd⟩ := List.getElem?_eq_some_iff.mp hd
    rw [List.getElem_map] at hd
    subst hd
    generalize (ns.take 60)[i]'_ = c0
    simp only [w_f_law_deck_3, v_eqE, wComp, wipeE, wFor, wIsi, iEnum, iZip, zipI_tup, zipI_lst, zipI_lt, zipI_tl, seqJ_tup, seqJ_lst, v_app0, v_app1, v_eqNl, v_eqNt, rd_r0, rd_r1, rd_r2, v_ix0, v_ix1, v_ix2, v_eq0, v_len0, v_len1, v_ex0, v_mulS, wRevA, v_revT, v_revL, wRgL1, wRgL2, wRgT1, wRgT2, v_rgx1, v_rgx2, sy_ix0, sy_ix1, sy_ix2, sy_ix3, sy_sl3, sy_tp, wk_ix0, wk_ix1, wk_ix2, wk_tp, ws_tp, ns_seq, ns_len, ns_ix, ns_rd, sy_rd, wk_rd, ws_rd, wSeq, wAsg, wRet, wIf, wDrop, wOp, wCons, wNil, wTup, wLst, wCB, wCall, wTest, wAnd, wOr, wNot, wNotV, wAndV, wOrV, wChain, wNeg, wC, wM, wSl, oNo, oPart, iSeq, seqI_tup, seqI_lst, seqI_scr, v_rg1, v_rg2, gNm, v_gTp, v_gCn, v_gNl, v_var0, v_varS, v_sub, v_mod, v_fdiv, v_pow, v_iadd, v_add, v_addT, v_addL, v_mul, v_lt, v_le, v_gt, v_ge, v_eqi, v_ixT, v_ixL, v_ixS, v_lenT, v_lenL, v_lenS, v_abs, v_min2, v_max2, v_intI, v_intB, v_tupl, v_tupT, v_bl, v_in, v_some, v_newT, v_newF, startE, rd_int', rd_bl', rd_str', rd_tup', rd_lst', rd_scr', rd_non', at0, at1, at2, at3, at4, List.map_cons, List.map_nil, List.length_cons, List.length_nil, List.length_map, List.replicate_succ, List.replicate_zero, Nat.reduceSub, Nat.reduceAdd, List.cons_append, List.nil_append, List.set_cons_zero, List.set_cons_succ, List.getElem?_cons_zero, List.getElem?_cons_succ, Bool.not_true, Bool.not_false, if_true, if_false, Bool.false_eq_true, reduceCtorEq, true_and, and_true, bodyEnds, Nat.zero_add, decide_eq_true_eq, wM, rd_r1, v_ex0, v_abs, v_app1, List.length_map]
    have hi' := hi
    rw [List.length_map, List.length_take] at hi'
    refine ⟨by decide, by rw [lc, sizeLine_eq]; omega, ?_⟩
    have hc : 0 ≤ (if c0 < 0 then -c0 else c0) := by split <;> omega
    generalize (if c0 < 0 then -c0 else c0) = c at hc
    obtain ⟨k, hk⟩ : ∃ k, k = c % 2147483629 := ⟨_, rfl⟩
    rw [← hk]
    have hm : 0 ≤ k ∧ k < 2147483629 := by omega
    refine ⟨fun m e s => ∃ c ds, m = Int.toNat c ∧ 0 ≤ c ∧ e = [some (.scr (ns.map .int)), some (.ref 0), some (.ref 1), some (.int c)] ∧ s = [.lst (ds.map .int), .lst ((cs ++ [k]).map .int)] ∧ goodM ds ∧ ds.length ≤ 900, ?_, ?_⟩
    · exact ⟨_, c, ds, rfl, hc, rfl, by simp, gd, ld⟩
    · rintro m e s ⟨c, ds, rfl, hc, rfl, rfl, gd, ld⟩
      simp? only [w_f_law_deck_1]
      refine ⟨by decide, ?_⟩
      by_cases hg : (10 : Int) ^ (18 : Int).toNat ≤ c
      · by_cases hl : (ds.length : Int) < 900
        · simp only [hg, hl, decide_true, v_eqE, wComp, wipeE, wFor, wIsi, iEnum, iZip, zipI_tup, zipI_lst, zipI_lt, zipI_tl, seqJ_tup, seqJ_lst, v_app0, v_app1, v_eqNl, v_eqNt, rd_r0, rd_r1, rd_r2, v_ix0, v_ix1, v_ix2, v_eq0, v_len0, v_len1, v_ex0, v_mulS, wRevA, v_revT, v_revL, wRgL1, wRgL2, wRgT1, wRgT2, v_rgx1, v_rgx2, sy_ix0, sy_ix1, sy_ix2, sy_ix3, sy_sl3, sy_tp, wk_ix0, wk_ix1, wk_ix2, wk_tp, ws_tp, ns_seq, ns_len, ns_ix, ns_rd, sy_rd, wk_rd, ws_rd, wSeq, wAsg, wRet, wIf, wDrop, wOp, wCons, wNil, wTup, wLst, wCB, wCall, wTest, wAnd, wOr, wNot, wNotV, wAndV, wOrV, wChain, wNeg, wC, wM, wSl, oNo, oPart, iSeq, seqI_tup, seqI_lst, seqI_scr, v_rg1, v_rg2, gNm, v_gTp, v_gCn, v_gNl, v_var0, v_varS, v_sub, v_mod, v_fdiv, v_pow, v_iadd, v_add, v_addT, v_addL, v_mul, v_lt, v_le, v_gt, v_ge, v_eqi, v_ixT, v_ixL, v_ixS, v_lenT, v_lenL, v_lenS, v_abs, v_min2, v_max2, v_intI, v_intB, v_tupl, v_tupT, v_bl, v_in, v_some, v_newT, v_newF, startE, rd_int', rd_bl', rd_str', rd_tup', rd_lst', rd_scr', rd_non', at0, at1, at2, at3, at4, List.map_cons, List.map_nil, List.length_cons, List.length_nil, List.length_map, List.replicate_succ, List.replicate_zero, Nat.reduceSub, Nat.reduceAdd, List.cons_append, List.nil_append, List.set_cons_zero, List.set_cons_succ, List.getElem?_cons_zero, List.getElem?_cons_succ, Bool.not_true, Bool.not_false, if_true, if_false, Bool.false_eq_true, reduceCtorEq, true_and, and_true, bodyEnds, Nat.zero_add, decide_eq_true_eq, w_f_law_deck_2, wM]
          refine ⟨by decide, by rw [sizeLine_eq]; omega, ⟨by decide, by decide⟩, _, ?_, c / 2147483629, ds ++ [c % 2147483629], rfl, by omega, rfl, by simp, gd.snoc (by omega) (by omega), by simp; omega⟩
          have : (10 : Int) ^ (18 : Int).toNat = 1000000000000000000 := by decide
          omega
        · simp? only [hg, hl, decide_true, decide_false]
          exact hR _ _ ⟨_, ds, cs ++ [k], rfl, rfl, gd, gc.snoc hm.1 hm.2, ld, by simp; omega⟩
      · simp? only [hg, decide_false]
        exact hR _ _ ⟨_, ds, cs ++ [k], rfl, rfl, gd, gc.snoc hm.1 hm.2, ld, by simp; omega⟩
  · rintro env st ⟨x3, ds, cs, rfl, rfl, gd, gc, ld, lc⟩
    refine ⟨trivial, ?_⟩
    simp? only [true_and]
    refine ⟨z3, ds, cs, 0, rfl, gd, gc, ?_, by omega, ?_, by decide, by decide⟩
    · intro e; rw [e] at lc; simp at lc
    · rw [List.length_map, List.length_take] at lc; omega
  · refine ⟨none, [], [((ns.length : Nat) : Int)], rfl, rfl, fun _ h => (nomatch h), ?_, by simp, rfl⟩
    intro x hx
    rw [List.mem_singleton] at hx
    rw [hx]
    omega
theorem v_pop0 {rest : Sto} {Q : DK} {x : D} {ds : List D} : mPopAt (.ref 0) [.int 0] (.lst (x :: ds) :: rest) Q = Q x (.lst ds :: rest) := by
  have e0 : ixN (x :: ds).length 0 = some 0 := by simp [ixN]
  apply propext
  constructor
  · rintro ⟨n, es, i, k, y, e1, e2, e3, _, _, e4, e5, q⟩
    cases e1
    cases e2
    cases e3
    rw [e0] at e4
    cases e4
    cases e5
    exact q
  · exact fun q => ⟨0, x :: ds, 0, 0, x, rfl, rfl, rfl, by decide, by decide, e0, rfl, q⟩
theorem v_gset2 {rest : Sto} {c0 c1 : Cel} {x y z d : D} {env : En} {Q : En → Sto → Prop} : gSet (wVar 0) (wC (.int 2)) d (some (.ref 2) :: env) (c0 :: c1 :: .lst [x, y, z] :: rest) Q = Q (some (.ref 2) :: env) (c0 :: c1 :: .lst [x, y, d] :: rest) := by
  apply propext
  constructor
  · rintro ⟨o, e0, n, es, i, k, e1, e2, e3, e4, q⟩
    cases e0
    cases e1
    cases e2
    cases e3
    cases e4
    exact q
  · exact fun q => ⟨_, rfl, 2, _, 2, 2, rfl, rfl, rfl, rfl, q⟩
def w_f_law_next : DS := wSeq (wIf (wTest (wOp dNe (wOp dIx (wVar 0) (wC (.int 0))) (wLst false (wNil)))) (wRet (wM mPopAt (wOp dIx (wVar 0) (wC (.int 0))) (wCons (wC (.int 0)) (wNil)))) ((fun D env st => D.nx env st))) (wSeq (wAsg (wOp dIx (wVar 0) (wC (.int 2))) (gNm 1)) (wSeq (wAsg (wOp dAdd (wVar 1) (wC (.int 1))) (gSet (wVar 0) (wC (.int 2)))) (wSeq (wAsg (wTup (wCons (wC (.int 48271)) (wCons (wC (.int 69621)) (wCons (wC (.int 16807)) (wCons (wC (.int 39373)) (wCons (wC (.int 30323)) (wCons (wC (.int 51749)) (wCons (wC (.int 44417)) (wCons (wC (.int 27449)) (wCons (wC (.int 63073)) (wCons (wC (.int 55001)) (wCons (wC (.int 33791)) (wCons (wC (.int 40009)) (wNil)))))))))))))) (gNm 2)) (wSeq (wAsg (wOp dAdd (wOp dIx (wOp dIx (wVar 0) (wC (.int 1))) (wOp dMod (wOp dAdd (wVar 1) (wC (.int 1))) (wCB bLen (wCons (wOp dIx (wVar 0) (wC (.int 1))) (wNil))))) (wOp dMul (wC (.int 7)) (wVar 1))) (gNm 3)) (wSeq (wAsg (wOp dMod (wOp dPow (wOp dAdd (wVar 3) (wOp dMul (wOp dIx (wVar 2) (wOp dMod (wVar 1) (wC (.int 12)))) (wOp dAdd (wVar 1) (wC (.int 1))))) (wC (.int 5))) (wC (.int 2147483647))) (gNm 4)) (wRet (wOp dMod (wOp dAdd (wVar 4) (wOp dMul (wOp dIx (wVar 2) (wOp dMod (wOp dAdd (wVar 1) (wC (.int 5))) (wC (.int 12)))) (wVar 3))) (wC (.int 2147483629)))))))))
def S_f_law_next : DL.Spec := ⟨1, Sto × Int, fun _ => [.ref 2], fun (r, B) st => Dk B r st ∧ B < 2 ^ 40, fun (r, B) _ d st' => ∃ x, d = .int x ∧ 0 ≤ x ∧ x < 2147483629 ∧ Dk (B + 1) r st'⟩
def primes : List Int := [48271, 69621, 16807, 39373, 30323, 51749, 44417, 27449, 63073, 55001, 33791, 40009]
theorem prime_at {i : Int} (h0 : 0 ≤ i) (h1 : i < 12) : ∃ p, atI (primes.map D.int) i = some (.int p) ∧ 0 ≤ p ∧ p < 100000 := by
  have key : ∀ k : Fin 12, ∃ p, primes[k.val]? = some p ∧ 0 ≤ p ∧ p < 100000 := by
    intro k
    have hk : k.val < primes.length := k.isLt
    have all : ∀ x ∈ primes, 0 ≤ x ∧ x < 100000 := by decide
    exact ⟨_, List.getElem?_eq_getElem hk, all _ (List.getElem_mem hk)⟩
  obtain ⟨p, h2, h3⟩ := key ⟨i.toNat, by omega⟩
  exact ⟨p, atI_map (atI_of h0 h2), h3⟩
theorem vc_f_law_next : ∀ g sto, (S_f_law_next.args g).length = S_f_law_next.n → S_f_law_next.pre g sto → w_f_law_next (bodyEnds (S_f_law_next.post g sto)) (startE ["_law_deck_here", "_law_at", "_law_primes", "_law_cell", "_law_mixed"] (S_f_law_next.args g)) sto := by
  rintro ⟨rest, B⟩ sto _ ⟨⟨ds, cs, t, rfl, gd, gc, ne, l1, l2, t0, t1⟩, hB⟩
  have z12 : 12 ≤ sizeLine := by decide
  simp? only [w_f_law_next, S_f_law_next, v_gset2]
  refine ⟨Nat.zero_le _, okL_ints _, ?_⟩
  cases ds with
  | cons x ds =>
    simp only [v_eqE, wComp, wipeE, wFor, wIsi, iEnum, iZip, zipI_tup, zipI_lst, zipI_lt, zipI_tl, seqJ_tup, seqJ_lst, v_app0, v_app1, v_eqNl, v_eqNt, rd_r0, rd_r1, rd_r2, v_ix0, v_ix1, v_ix2, v_eq0, v_len0, v_len1, v_ex0, v_mulS, wRevA, v_revT, v_revL, wRgL1, wRgL2, wRgT1, wRgT2, v_rgx1, v_rgx2, sy_ix0, sy_ix1, sy_ix2, sy_ix3, sy_sl3, sy_tp, wk_ix0, wk_ix1, wk_ix2, wk_tp, ws_tp, ns_seq, ns_len, ns_ix, ns_rd, sy_rd, wk_rd, ws_rd, wSeq, wAsg, wRet, wIf, wDrop, wOp, wCons, wNil, wTup, wLst, wCB, wCall, wTest, wAnd, wOr, wNot, wNotV, wAndV, wOrV, wChain, wNeg, wC, wM, wSl, oNo, oPart, iSeq, seqI_tup, seqI_lst, seqI_scr, v_rg1, v_rg2, gNm, v_gTp, v_gCn, v_gNl, v_var0, v_varS, v_sub, v_mod, v_fdiv, v_pow, v_iadd, v_add, v_addT, v_addL, v_mul, v_lt, v_le, v_gt, v_ge, v_eqi, v_ixT, v_ixL, v_ixS, v_lenT, v_lenL, v_lenS, v_abs, v_min2, v_max2, v_intI, v_intB, v_tupl, v_tupT, v_bl, v_in, v_some, v_newT, v_newF, startE, rd_int', rd_bl', rd_str', rd_tup', rd_lst', rd_scr', rd_non', at0, at1, at2, at3, at4, List.map_cons, List.map_nil, List.length_cons, List.length_nil, List.length_map, List.replicate_succ, List.replicate_zero, Nat.reduceSub, Nat.reduceAdd, List.cons_append, List.nil_append, List.set_cons_zero, List.set_cons_succ, List.getElem?_cons_zero, List.getElem?_cons_succ, Bool.not_true, Bool.not_false, if_true, if_false, Bool.false_eq_true, reduceCtorEq, true_and, and_true, bodyEnds, Nat.zero_add, decide_eq_true_eq, List.isEmpty, v_pop0]
    have := gd x List.mem_cons_self
    exact ⟨this.1, this.2, ds, cs, t, rfl, fun y hy => gd y (List.mem_cons_of_mem _ hy), gc, ne, by simp at l1; omega, l2, t0, by omega⟩
  | nil =>
    simp only [v_eqE, wComp, wipeE, wFor, wIsi, iEnum, iZip, zipI_tup, zipI_lst, zipI_lt, zipI_tl, seqJ_tup, seqJ_lst, v_app0, v_app1, v_eqNl, v_eqNt, rd_r0, rd_r1, rd_r2, v_ix0, v_ix1, v_ix2, v_eq0, v_len0, v_len1, v_ex0, v_mulS, wRevA, v_revT, v_revL, wRgL1, wRgL2, wRgT1, wRgT2, v_rgx1, v_rgx2, sy_ix0, sy_ix1, sy_ix2, sy_ix3, sy_sl3, sy_tp, wk_ix0, wk_ix1, wk_ix2, wk_tp, ws_tp, ns_seq, ns_len, ns_ix, ns_rd, sy_rd, wk_rd, ws_rd, wSeq, wAsg, wRet, wIf, wDrop, wOp, wCons, wNil, wTup, wLst, wCB, wCall, wTest, wAnd, wOr, wNot, wNotV, wAndV, wOrV, wChain, wNeg, wC, wM, wSl, oNo, oPart, iSeq, seqI_tup, seqI_lst, seqI_scr, v_rg1, v_rg2, gNm, v_gTp, v_gCn, v_gNl, v_var0, v_varS, v_sub, v_mod, v_fdiv, v_pow, v_iadd, v_add, v_addT, v_addL, v_mul, v_lt, v_le, v_gt, v_ge, v_eqi, v_ixT, v_ixL, v_ixS, v_lenT, v_lenL, v_lenS, v_abs, v_min2, v_max2, v_intI, v_intB, v_tupl, v_tupT, v_bl, v_in, v_some, v_newT, v_newF, startE, rd_int', rd_bl', rd_str', rd_tup', rd_lst', rd_scr', rd_non', at0, at1, at2, at3, at4, List.map_cons, List.map_nil, List.length_cons, List.length_nil, List.length_map, List.replicate_succ, List.replicate_zero, Nat.reduceSub, Nat.reduceAdd, List.cons_append, List.nil_append, List.set_cons_zero, List.set_cons_succ, List.getElem?_cons_zero, List.getElem?_cons_succ, Bool.not_true, Bool.not_false, if_true, if_false, Bool.false_eq_true, reduceCtorEq, true_and, and_true, bodyEnds, Nat.zero_add, decide_eq_true_eq, List.isEmpty, v_gset2]
    have hl : 0 < cs.length := List.length_pos_iff.mpr ne
    refine ⟨z12, by omega, ?_⟩
    obtain ⟨c, hc⟩ : ∃ c, cs[((t + 1) % (cs.length : Int)).toNat]? = some c := ⟨_, List.getElem?_eq_getElem (by
      have := Int.emod_lt_of_pos (t + 1) (show (0 : Int) < cs.length by omega)
      have := Int.emod_nonneg (t + 1) (show (cs.length : Int) ≠ 0 by omega)
      omega)⟩
    have hc1 := gc c (List.mem_of_getElem? hc)
    obtain ⟨p1, hp1, q1⟩ := prime_at (i := t % 12) (by omega) (by omega)
    obtain ⟨p2, hp2, q2⟩ := prime_at (i := (t + 5) % 12) (by omega) (by omega)
    simp only [primes, List.map_cons, List.map_nil] at hp1 hp2
    refine ⟨_, atI_map (atI_of (Int.emod_nonneg _ (by omega)) hc), ?_⟩
    simp? only [hp1, hp2]
    have m1 : p1 * (t + 1) ≤ 100000 * (2 ^ 40 + 1) := Int.mul_le_mul (by omega) (by omega) (by omega) (by decide)
    have m2 : 0 ≤ p1 * (t + 1) := Int.mul_nonneg q1.1 (by omega)
    refine ⟨.inl ⟨by decide, by decide⟩, by decide, .inl ⟨by omega, by omega⟩, ⟨by decide, by decide, ?_⟩, by decide, by decide, .inl ⟨by omega, by omega⟩, by decide, Int.emod_nonneg _ (by decide), Int.emod_lt_of_pos _ (by decide), [], cs, t + 1, rfl, gd, gc, ne, l1, l2, by omega, by omega⟩
    generalize p1 * (t + 1) = m at m1 m2
    omega
/-- the next number is asked -/
theorem next_use {B : Int} {rest st : Sto} {Q : DK} (h : Dk B rest st) (hb : B < 2 ^ 40) (q : ∀ x st', 0 ≤ x → x < 2147483629 → Dk (B + 1) rest st' → Q (.int x) st') :
    ∃ g, [D.ref 2] = S_f_law_next.args g ∧ (S_f_law_next.args g).length = S_f_law_next.n ∧ S_f_law_next.pre g st ∧ ∀ d s2, S_f_law_next.post g st d s2 → Q d s2 :=
  ⟨(rest, B), rfl, rfl, ⟨h, hb⟩, fun d s2 ⟨x, e, h0, h1, h2⟩ => by subst e; exact q x s2 h0 h1 h2⟩
theorem pick {α : Type} {xs : List α} {i : Int} (h0 : 0 ≤ i) (h1 : i < xs.length) : ∃ v, atI xs i = some v ∧ v ∈ xs := by
  have hl : i.toNat < xs.length := by omega
  exact ⟨_, atI_of h0 (List.getElem?_eq_getElem hl), List.getElem_mem hl⟩
theorem pickI {ns : List Int} {i : Int} (h0 : 0 ≤ i) (h1 : i < ns.length) : ∃ v, atI (ns.map D.int) i = some (.int v) ∧ v ∈ ns := by
  obtain ⟨v, h2, h3⟩ := pick h0 h1
  exact ⟨v, atI_map h2, h3⟩
def freeF (row : List Int) (a b : Int) : Bool := !(row.map fun day => if a ≤ day then decide (day < b) else false).any id
/-- the ways -/
def rowOf (s : Sy) (h : Int) : List Int := (atI s.hands h).getD []
def encP (p : Int × Int) : D := .tup [.int p.1, .int p.2]
def waysF (s : Sy) (w : Wk) : List (Int × Int) := (rangeI 0 (s.days - w.len + 1).toNat).foldl (fun acc b => w.able.foldl (fun acc h => if freeF (rowOf s h) b (b + w.len) = true then acc ++ [(b, h)] else acc) acc) []
def preWays (s : Sy) (i : Int) (w : Wk) : Prop := atI s.works i = some w ∧ (∀ h ∈ w.able, ∃ row, atI s.hands h = some row ∧ row.length ≤ 1000) ∧ 0 ≤ s.days ∧ s.days ≤ 1000 ∧ 0 ≤ w.len ∧ w.len ≤ 1000 ∧ w.able.length ≤ 1000
def S_f_law_ways : DL.Spec := ⟨2, Sy × Int × Wk, fun (s, i, _) => [s.d, .int i], fun (s, i, w) _ => preWays s i w, fun (s, _, w) st d st' => st' = st ∧ d = .tup ((waysF s w).map encP)⟩
theorem blw_encP (n : Nat) : ∀ ps : List (Int × Int), D.blwL n (ps.map encP) = true
  | [] => rfl
  | p :: r => by rw [List.map_cons]; simp only [D.blwL, encP, D.blw, Bool.true_and]; exact blw_encP n r
def w_f_law_ways_1 : DT := wTest (wChain dLe dLt (wVar 9) (wVar 11) (wOp dAdd (wVar 9) (wVar 5)))
def w_f_law_ways_2 : DS := wIf (wTest (wOp dEq (wComp false (iSeq (wOp dIx (wVar 3) (wVar 10))) (.nm 11) w_f_law_ways_1 (wVar 11) [11]) (wLst false (wNil)))) (wDrop (wM mAppend (wVar 8) (wCons (wTup (wCons (wVar 9) (wCons (wVar 10) (wNil)))) (wNil)))) ((fun D env st => D.nx env st))
def w_f_law_ways_3 : DS := wFor (iSeq (wVar 7)) (gNm 10) w_f_law_ways_2
def w_f_law_ways : DS := wSeq (wAsg (wSl false (wVar 0) oNo (oPart (wC (.int 3)))) (gTp 3 (gCn (gNm 2) (gCn (gNm 3) (gCn (gNm 4) gNl))))) (wSeq (wAsg (wOp dIx (wVar 4) (wVar 1)) (gTp 3 (gCn (gNm 5) (gCn (gNm 6) (gCn (gNm 7) gNl))))) (wSeq (wAsg (wLst true (wNil)) (gNm 8)) (wSeq (wFor (iRange1 (wCons (wOp dAdd (wOp dSub (wVar 2) (wVar 5)) (wC (.int 1))) (wNil))) (gNm 9) w_f_law_ways_3) (wRet (wCB bTuple (wCons (wVar 8) (wNil)))))))
def hit (a b day : Int) : Bool := if a ≤ day then decide (day < b) else false
theorem free_empty (a b : Int) : ∀ row : List Int, (row.filterMap fun day => if hit a b day = true then some (D.int day) else none).isEmpty = freeF row a b
  | [] => rfl
  | x :: r => by
    have ih := free_empty a b r
    unfold freeF at ih ⊢
    rw [List.filterMap_cons, List.map_cons, List.any_cons]
    have eh : hit a b x = if a ≤ x then decide (x < b) else false := rfl
    rw [← eh]
    cases hit a b x with
    | true => rfl
    | false => exact ih
theorem okL_hits (a b : Int) : ∀ row : List Int, D.okL (row.filterMap fun day => if hit a b day = true then some (D.int day) else none) = true
  | [] => rfl
  | x :: r => by
    rw [List.filterMap_cons]
    cases hit a b x with
    | true => simp only [if_true, D.okL, D.ok, Bool.true_and]; exact okL_hits a b r
    | false => exact okL_hits a b r
theorem vc_f_law_ways : ∀ g sto, (S_f_law_ways.args g).length = S_f_law_ways.n → S_f_law_ways.pre g sto → w_f_law_ways (bodyEnds (popEnds sto.length sto (S_f_law_ways.post g sto))) (startE ["_law_system_here", "_law_work_here", "_law_days", "_law_hands", "_law_works", "_law_length", "_law_ahead", "_law_able", "_law_found", "_law_start", "_law_hand", "_law_day"] (S_f_law_ways.args g)) sto := by
  rintro ⟨s, i, w⟩ sto _ ⟨hw, hrow, d0, d1, l0, l1, la⟩
  have z2 : 2 ≤ sizeLine := by decide
  simp? only [w_f_law_ways, S_f_law_ways, wFor]
  refine ⟨_, atI_map hw, ?_⟩
  (try simp? only [true_and])
  refine ⟨Nat.zero_le _, ⟨by omega, by omega⟩, ?_⟩
  rw [rangeD_eq]
  refine forL_fold D.int (fun acc b => w.able.foldl (fun acc h => if freeF (rowOf s h) b (b + w.len) = true then acc ++ [(b, h)] else acc) acc)
    (fun k acc e st => ∃ x y, e = [some s.d, some (.int i), some (.int s.days), some (.tup (s.hands.map dInts)), some (.tup (s.works.map Wk.d)), some (.int w.len), some (dInts w.ahead), some (dInts w.able), some (.ref sto.length), x, y, none] ∧ st = sto ++ [.lst (acc.map encP)] ∧ acc.length ≤ k * 1000) _ [] _ _ ?_ ?_ ⟨_, _, rfl, rfl, Nat.le_refl _⟩
  · rintro k acc b e st hk hb ⟨x, y, rfl, rfl, hl⟩ R hR
    have hbr := mem_rangeI.mp hb
    refine ⟨trivial, ?_⟩
    simp? only [w_f_law_ways_3, wFor]
    refine forL_fold D.int (fun acc h => if freeF (rowOf s h) b (b + w.len) = true then acc ++ [(b, h)] else acc)
      (fun j acc' e st => ∃ y, e = [some s.d, some (.int i), some (.int s.days), some (.tup (s.hands.map dInts)), some (.tup (s.works.map Wk.d)), some (.int w.len), some (dInts w.ahead), some (dInts w.able), some (.ref sto.length), some (.int b), y, none] ∧ st = sto ++ [.lst (acc'.map encP)] ∧ acc'.length ≤ acc.length + j) _ acc _ _ ?_ ?_ ⟨_, rfl, rfl, Nat.le_refl _⟩
    · rintro j acc' h e st hj hh ⟨y, rfl, rfl, hl'⟩ R2 hR2
      obtain ⟨row, hr, hrl⟩ := hrow h hh
      have er : rowOf s h = row := by unfold rowOf; rw [hr]; rfl
      refine ⟨trivial, ?_⟩
      simp? only [w_f_law_ways_2, wComp, wipeE]
      refine ⟨_, atI_map hr, ?_⟩
      (try simp? only [true_and])
      refine ⟨by (try simp only [List.length_map]); rw [sizeLine_eq]; omega, compL_map D.int (fun day => if hit b (b + w.len) day = true then some (.int day) else none) trivial row [] (fun x hx R hR => ?_) ?_⟩
      · simp? only [Tg.dg, w_f_law_ways_1]
        unfold hit at hR
        by_cases hx : b ≤ x
        · by_cases hx2 : x < b + w.len
          · simpa [hx, hx2] using hR
          · simpa [hx, hx2] using hR
        · simpa [hx] using hR
      · simp? only [true_and]
        refine ⟨Nat.zero_le _, okL_hits _ _ _, ?_⟩
        simp only [v_eqE, wComp, wipeE, wFor, wIsi, iEnum, iZip, zipI_tup, zipI_lst, zipI_lt, zipI_tl, seqJ_tup, seqJ_lst, v_app0, v_app1, v_eqNl, v_eqNt, rd_r0, rd_r1, rd_r2, v_ix0, v_ix1, v_ix2, v_eq0, v_len0, v_len1, v_ex0, v_mulS, wRevA, v_revT, v_revL, wRgL1, wRgL2, wRgT1, wRgT2, v_rgx1, v_rgx2, sy_ix0, sy_ix1, sy_ix2, sy_ix3, sy_sl3, sy_tp, wk_ix0, wk_ix1, wk_ix2, wk_tp, ws_tp, ns_seq, ns_len, ns_ix, ns_rd, sy_rd, wk_rd, ws_rd, wSeq, wAsg, wRet, wIf, wDrop, wOp, wCons, wNil, wTup, wLst, wCB, wCall, wTest, wAnd, wOr, wNot, wNotV, wAndV, wOrV, wChain, wNeg, wC, wM, wSl, oNo, oPart, iSeq, seqI_tup, seqI_lst, seqI_scr, v_rg1, v_rg2, gNm, v_gTp, v_gCn, v_gNl, v_var0, v_varS, v_sub, v_mod, v_fdiv, v_pow, v_iadd, v_add, v_addT, v_addL, v_mul, v_lt, v_le, v_gt, v_ge, v_eqi, v_ixT, v_ixL, v_ixS, v_lenT, v_lenL, v_lenS, v_abs, v_min2, v_max2, v_intI, v_intB, v_tupl, v_tupT, v_bl, v_in, v_some, v_newT, v_newF, startE, rd_int', rd_bl', rd_str', rd_tup', rd_lst', rd_scr', rd_non', at0, at1, at2, at3, at4, List.map_cons, List.map_nil, List.length_cons, List.length_nil, List.length_map, List.replicate_succ, List.replicate_zero, Nat.reduceSub, Nat.reduceAdd, List.cons_append, List.nil_append, List.set_cons_zero, List.set_cons_succ, List.getElem?_cons_zero, List.getElem?_cons_succ, Bool.not_true, Bool.not_false, if_true, if_false, Bool.false_eq_true, reduceCtorEq, true_and, and_true, bodyEnds, Nat.zero_add, decide_eq_true_eq, free_empty]
        rw [er] at hR2
        by_cases hf : freeF row b (b + w.len) = true
        · rw [if_pos hf] at hR2
          simp? only [hf, v_app (get_last _ _), set_last, rd_ref' (get_last _ _)]
          rw [rangeI_len] at hk
          refine ⟨z2, by rw [sizeLine_eq]; omega, hR2 _ _ ⟨_, rfl, by simp [encP], by simp; omega⟩⟩
        · rw [if_neg hf] at hR2
          simp? only [hf]
          exact hR2 _ _ ⟨_, rfl, rfl, by omega⟩
    · rintro e st ⟨y, rfl, rfl, hl'⟩
      refine ⟨trivial, hR _ _ ⟨_, _, rfl, rfl, ?_⟩⟩
      omega
  · rintro e st ⟨x, y, rfl, rfl, hl⟩
    refine ⟨trivial, ?_⟩
    simp? only [v_tupL (rd_ref' (get_last _ _))]
    exact ⟨sto, _, rfl, rfl, blw_encP _ _, fun i c h => .inl h, rfl, rfl⟩
theorem lways_use {s : Sy} {i : Int} {w : Wk} {st : Sto} {Q : DK} (h : preWays s i w) (q : Q (.tup ((waysF s w).map encP)) st) :
    ∃ g, [s.d, .int i] = S_f_law_ways.args g ∧ (S_f_law_ways.args g).length = S_f_law_ways.n ∧ S_f_law_ways.pre g st ∧ ∀ d s2, S_f_law_ways.post g st d s2 → Q d s2 :=
  ⟨(s, i, w), rfl, rfl, h, fun d s2 ⟨e1, e2⟩ => by subst e1; subst e2; exact q⟩
theorem deck_use {ns : List Int} {Q : DK} (h : ns.length ≤ 63) (q : ∀ st', Dk 0 [] st' → Q (.ref 2) st') :
    ∃ g, [D.scr (ns.map .int)] = S_f_law_deck.args g ∧ (S_f_law_deck.args g).length = S_f_law_deck.n ∧ S_f_law_deck.pre g [] ∧ ∀ d s2, S_f_law_deck.post g [] d s2 → Q d s2 :=
  ⟨ns, rfl, rfl, ⟨h, rfl⟩, fun d s2 ⟨e1, e2⟩ => by subst e1; exact q s2 e2⟩
theorem preWays_of {s : Sy} {a b c l e : Int} (o : s.Ok a b c l e) (ha : a ≤ 900) (hb : b ≤ 100) (hl : l ≤ 900) {i : Nat} (hi : i < s.works.length) : ∃ w, preWays s i w ∧ w.Ok i s.hands.length l := by
  have hw : s.works[i]? = some s.works[i] := List.getElem?_eq_getElem hi
  have ow := o.work i _ hw
  refine ⟨s.works[i], ⟨atI_of (by omega) (by rw [Int.toNat_natCast]; exact hw), fun h hh => ?_, by have := o.days; omega, by have := o.days; omega, by have := ow.len; omega, by have := ow.len; omega, ?_⟩, ow⟩
  · have hr := ow.able.2 h hh
    obtain ⟨row, h1, h2⟩ := pick (xs := s.hands) (i := h) hr.1 hr.2
    refine ⟨row, h1, ?_⟩
    have := (o.rows row h2).len
    have := o.days
    omega
  · have := ow.able.len
    have := o.hands
    omega
theorem p_ix0 {p : Int × Int} {st : Sto} {Q : DK} : dIx (encP p) (.int 0) st Q = Q (.int p.1) st := by unfold encP; rw [v_ixT]; simp only [at0, v_some]
theorem p_ix1 {p : Int × Int} {st : Sto} {Q : DK} : dIx (encP p) (.int 1) st Q = Q (.int p.2) st := by unfold encP; rw [v_ixT]; simp only [at1, v_some]
theorem any_ints {i : Int} : ∀ ns : List Int, (ns.map D.int).any (fun z => z.eqv (.int i)) = ns.any (· == i)
  | [] => rfl
  | n :: r => by rw [List.map_cons, List.any_cons, List.any_cons, any_ints r]; simp only [D.eqv]
theorem depL_ints : ∀ ns : List Int, D.depL (ns.map D.int) = 0
  | [] => rfl
  | n :: r => by rw [List.map_cons]; simp only [D.depL, D.dep, depL_ints r]; rfl
theorem v_inE {i : Int} {ns : List Int} {f : Bool → Bool} {st : Sto} {Q : DK} : dInB f (.int i) (dInts ns) st Q = Q (.bl (f (ns.any (· == i)))) st := by
  apply propext
  constructor
  · rintro ⟨ds, h, _, _, _, q⟩
    rcases h with h | h
    · cases h
    · cases h
      rw [← any_ints]
      exact q
  · intro q
    exact ⟨ns.map .int, .inr rfl, rfl, okL_ints ns, by rw [depL_ints]; exact Nat.zero_le _, by rw [← any_ints] at q; exact q⟩
theorem ok_encP (p : Int × Int) : (encP p).ok = true := rfl
theorem eqv_encP (p q : Int × Int) : (encP p).eqv (encP q) = (p == q) := by
  obtain ⟨a, b⟩ := p
  obtain ⟨c, d⟩ := q
  show D.eqv (.tup [.int a, .int b]) (.tup [.int c, .int d]) = _
  simp only [D.eqv, D.eqvL, Bool.and_true]
  rfl
theorem okL_encP : ∀ ps : List (Int × Int), D.okL (ps.map encP) = true
  | [] => rfl
  | p :: r => by rw [List.map_cons]; simp only [D.okL, ok_encP, okL_encP r, Bool.and_self]
theorem fm_filter {α : Type} {enc : α → D} (P : α → Bool) : ∀ xs : List α, (xs.filterMap fun x => if P x = true then some (enc x) else none) = (xs.filter P).map enc
  | [] => rfl
  | x :: r => by
    rw [List.filterMap_cons, List.filter_cons]
    cases P x with
    | true => simp only [if_true, List.map_cons]; rw [fm_filter P r]
    | false => exact fm_filter P r
theorem at_last {α : Type} {xs : List α} (h : xs ≠ []) : atI xs (-1) = some (xs.getLast h) := by
  have hl : 0 < xs.length := List.length_pos_iff.mpr h
  have e : ixN xs.length (-1) = some (xs.length - 1) := by
    unfold ixN
    rw [if_neg (by decide), if_pos (by omega)]
    congr 1
    omega
  unfold atI
  rw [e]
  show xs[xs.length - 1]? = _
  rw [List.getElem?_eq_getElem (by omega), List.getLast_eq_getElem]
def pureS (n : Nat) {G : Type} (args : G → List D) (pre : G → Prop) (val : G → D) : DL.Spec := ⟨n, G, args, fun g _ => pre g, fun g st d st' => st' = st ∧ d = val g⟩
theorem use_pure {n : Nat} {G : Type} {args : G → List D} {pre : G → Prop} {val : G → D} {a : List D} {st : Sto} {Q : DK} (g : G) (e : a = args g) (hl : (args g).length = n) (hp : pre g) (q : Q (val g) st) :
    ∃ g, a = (pureS n args pre val).args g ∧ ((pureS n args pre val).args g).length = (pureS n args pre val).n ∧ (pureS n args pre val).pre g st ∧ ∀ d s2, (pureS n args pre val).post g st d s2 → Q d s2 :=
  ⟨g, e, hl, hp, fun d s2 ⟨e1, e2⟩ => by subst e1; subst e2; exact q⟩
/-- a def that draws from the deck, at most c times -/
def deckS (n : Nat) (c : Int) {G : Type} (args : G → List D) (pre : G → Prop) (post : G → D → Prop) : DL.Spec :=
  ⟨n, Sto × Int × G, fun x => .ref 2 :: args x.2.2, fun x st => Dk x.2.1 x.1 st ∧ x.2.1 + c < 2 ^ 36 ∧ pre x.2.2, fun x _ d st' => post x.2.2 d ∧ Dk (x.2.1 + c) x.1 st'⟩
theorem use_deck {n : Nat} {c : Int} {G : Type} {args : G → List D} {pre : G → Prop} {post : G → D → Prop} {a : List D} {B : Int} {r st : Sto} {Q : DK} (g : G) (e : a = .ref 2 :: args g) (hl : (args g).length + 1 = n)
    (hD : Dk B r st) (hB : B + c < 2 ^ 36) (hp : pre g) (q : ∀ d st', post g d → Dk (B + c) r st' → Q d st') :
    ∃ g, a = (deckS n c args pre post).args g ∧ ((deckS n c args pre post).args g).length = (deckS n c args pre post).n ∧ (deckS n c args pre post).pre g st ∧ ∀ d s2, (deckS n c args pre post).post g st d s2 → Q d s2 :=
  ⟨(r, B, g), e, hl, ⟨hD, hB, hp⟩, fun d s2 ⟨e1, e2⟩ => q d s2 e1 e2⟩
section
variable {B B0 : Int} {rest ex st st' sto : Sto} {c c' : Cel}
theorem _root_.DL.Dk.len (h : Dk B rest st) : st.length = rest.length + 3 := by
  obtain ⟨ds, cs, t, rfl, _⟩ := h
  rfl
theorem _root_.DL.Dk.push (h : Dk B rest st) : Dk B (rest ++ [c]) (st ++ [c]) := by
  obtain ⟨ds, cs, t, rfl, r⟩ := h
  exact ⟨ds, cs, t, rfl, r⟩
theorem _root_.DL.Dk.top (h : Dk B (rest ++ [c]) st) : st[rest.length + 3]? = some c := by
  obtain ⟨ds, cs, t, rfl, r⟩ := h
  simp only [List.getElem?_cons_succ]
  exact get_last _ _
theorem _root_.DL.Dk.put (h : Dk B (rest ++ [c]) st) : Dk B (rest ++ [c']) (st.set (rest.length + 3) c') := by
  obtain ⟨ds, cs, t, rfl, r⟩ := h
  refine ⟨ds, cs, t, ?_, r⟩
  simp only [List.set_cons_succ, set_last]
theorem _root_.DL.Dk.pop (h : Dk B (rest ++ ex) st') : ∃ st1, st' = st1 ++ ex ∧ Dk B rest st1 := by
  obtain ⟨ds, cs, t, rfl, r⟩ := h
  exact ⟨_, rfl, ds, cs, t, rfl, r⟩
theorem blwL_ints (n : Nat) : ∀ ns : List Int, D.blwL n (ns.map .int) = true
  | [] => rfl
  | _ :: r => by rw [List.map_cons]; simp only [D.blwL, D.blw, Bool.true_and]; exact blwL_ints n r
theorem dk_pop {post : D → Sto → Prop} {d : D} (h0 : Dk B0 rest sto) (h : Dk B (rest ++ ex) st') (hb : d.blw sto.length = true) (q : ∀ st1, Dk B rest st1 → post d st1) : popEnds sto.length sto post d st' := by
  obtain ⟨st1, rfl, h1⟩ := h.pop
  refine ⟨st1, ex, rfl, by rw [h1.len, h0.len], hb, fun i c hc => ?_, q _ h1⟩
  have hlen := h0.len
  obtain ⟨ds, cs, t, rfl, _⟩ := h1
  obtain ⟨ds0, cs0, t0, rfl, _⟩ := h0
  match i, hc with
  | 0, hc => cases hc; exact .inr (by simp only [Cel.blw]; exact blwL_ints _ _)
  | 1, hc => cases hc; exact .inr (by simp only [Cel.blw]; exact blwL_ints _ _)
  | 2, hc => cases hc; refine .inr ?_; rw [hlen]; simp [Cel.blw, D.blwL, D.blw]
  | i + 3, hc => exact .inl hc
end
theorem compL_flt {α β : Type} {G : Sto → Prop} {t : Tg} {c : DT} {w : DE} {env : En} {Q : LK} {st : Sto} (enc : α → D) (P : α → Bool) (f : α → β) (enc' : β → D) (hG : G st) (xs : List α)
    (step : ∀ x ∈ xs, ∀ R : Option D → Sto → Prop, (if P x = true then R (some (enc' (f x))) st else R none st) → t.dg (enc x) env st fun e s => c e s fun b s1 => if b = true then w e s1 fun y s2 => R (some y) s2 else R none s1)
    (q : Q (((xs.filter P).map f).map enc') st) : wCompL G t c w env (xs.map enc) st [] Q := by
  refine compL_map enc (fun x => if P x = true then some (enc' (f x)) else none) hG xs [] (fun x hx R hR => step x hx R ?_) ?_
  · cases h : P x with
    | true => rw [h] at hR; exact hR
    | false => rw [h] at hR; exact hR
  · rw [List.nil_append, fm_filter, List.map_map] at *
    exact q
theorem compL_all {α β : Type} {G : Sto → Prop} {t : Tg} {c : DT} {w : DE} {env : En} {Q : LK} {st : Sto} (enc : α → D) (f : α → β) (enc' : β → D) (hG : G st) (xs : List α)
    (step : ∀ x ∈ xs, ∀ R : Option D → Sto → Prop, R (some (enc' (f x))) st → t.dg (enc x) env st fun e s => c e s fun b s1 => if b = true then w e s1 fun y s2 => R (some y) s2 else R none s1)
    (q : Q ((xs.map f).map enc') st) : wCompL G t c w env (xs.map enc) st [] Q := by
  refine compL_map enc (fun x => some (enc' (f x))) hG xs [] (fun x hx R hR => step x hx R hR) ?_
  rw [List.nil_append]
  have e : xs.filterMap (fun x => some (enc' (f x))) = (xs.map f).map enc' := by
    rw [List.map_map]; exact congrFun (List.filterMap_eq_map (f := enc' ∘ f)) xs
  rw [e]; exact q
theorem isE_map {α β : Type} (f : α → β) (xs : List α) : (xs.map f).isEmpty = xs.isEmpty := by cases xs <;> rfl
theorem isE_filter {α : Type} (P : α → Bool) : ∀ xs : List α, (xs.filter P).isEmpty = !xs.any P
  | [] => rfl
  | x :: r => by
    rw [List.filter_cons, List.any_cons]
    cases P x with
    | true => rfl
    | false => exact isE_filter P r
theorem pk2 {a b x : Int} : ∃ v : Int, atI [D.int a, .int b] (x % 2) = some (.int v) ∧ (v = a ∨ v = b) := by
  have h : x % 2 = 0 ∨ x % 2 = 1 := by omega
  rcases h with h | h
  · exact ⟨a, by rw [h]; rfl, .inl rfl⟩
  · exact ⟨b, by rw [h]; rfl, .inr rfl⟩
theorem pk3 {a b c x : Int} : ∃ v : Int, atI [D.int a, .int b, .int c] (x % 3) = some (.int v) ∧ (v = a ∨ v = b ∨ v = c) := by
  have h : x % 3 = 0 ∨ x % 3 = 1 ∨ x % 3 = 2 := by omega
  rcases h with h | h | h
  · exact ⟨a, by rw [h]; rfl, .inl rfl⟩
  · exact ⟨b, by rw [h]; rfl, .inr (.inl rfl)⟩
  · exact ⟨c, by rw [h]; rfl, .inr (.inr rfl)⟩
theorem modb (x : Int) {n : Int} (h : 0 < n) : 0 ≤ x % n ∧ x % n < n := ⟨Int.emod_nonneg _ (by omega), Int.emod_lt_of_pos _ h⟩
theorem seq_go {a k : DS} {A : DEnds} {env : En} {st : Sto} (h : a { nx := fun e s => k A e s, rt := A.rt, bk := A.bk, ct := A.ct } env st) : wSeq a k A env st := h
/-- what holds behind a statement, whichever way -/
theorem seq_cut {a k : DS} {A : DEnds} {env : En} {st : Sto} (J : En → Sto → Prop) (h : ∀ K : En → Sto → Prop, (∀ e s, J e s → K e s) → a { nx := K, rt := A.rt, bk := A.bk, ct := A.ct } env st) (hk : ∀ e s, J e s → k A e s) : wSeq a k A env st := h _ hk
theorem enum_map {α : Type} (enc : α → D) (xs : List α) : enumD (xs.map enc) = xs.zipIdx.map fun x => .tup [.int (x.2 : Nat), enc x.1] := by
  unfold enumD
  rw [List.zipIdx_map, List.map_map]
  rfl
theorem enum_at {α : Type} {enc : α → D} {xs : List α} {i : Nat} {d : D} (h : (enumD (xs.map enc))[i]? = some d) : ∃ x, xs[i]? = some x ∧ d = .tup [.int (i : Nat), enc x] := by
  unfold enumD at h
  rw [List.getElem?_map, List.getElem?_zipIdx, List.getElem?_map] at h
  cases e : xs[i]? with
  | none => rw [e] at h; cases h
  | some x => rw [e] at h; cases h; exact ⟨x, rfl, by simp⟩
@[simp] theorem enum_len (ds : List D) : (enumD ds).length = ds.length := by unfold enumD; rw [List.length_map, List.length_zipIdx]
theorem v_mulT {x : List D} {k : Int} {st : Sto} {Q : DK} : dMul (.tup x) (.int k) st Q = (-(2 ^ 63) ≤ k ∧ k ≤ 1000 ∧ x.length ≤ 1000 ∧ Q (.tup (List.replicate k.toNat x).flatten) st) := rfl
theorem flat_one {α : Type} (x : α) : ∀ n : Nat, (List.replicate n [x]).flatten = List.replicate n x
  | 0 => rfl
  | n + 1 => by rw [List.replicate_succ, List.flatten_cons, flat_one x n, List.replicate_succ]; rfl
theorem v_slT {ds : List D} {a b : Option Int} {m : Bool} {st : Sto} {Q : DK} : dSl m (.tup ds) a b st Q = Q (.tup (cutL ds a b)) st := rfl
def kindsX : List Str := ["TooMany", "NoPlan", "NoRoom", "NotEven", "NoDeed", "NoText"]
theorem eqvL_bls : ∀ bs cs : List Bool, D.eqvL (bs.map .bl) (cs.map .bl) = (bs == cs)
  | [], [] => rfl
  | [], _ :: _ => rfl
  | _ :: _, [] => rfl
  | b :: bs, c :: cs => by
    rw [List.map_cons, List.map_cons]
    simp only [D.eqvL, D.eqv, eqvL_bls bs cs]
    rfl
theorem okL_bls : ∀ bs : List Bool, D.okL (bs.map .bl) = true
  | [] => rfl
  | b :: bs => by rw [List.map_cons]; simp only [D.okL, D.ok, okL_bls bs, Bool.and_self]
theorem depL_bls : ∀ bs : List Bool, D.depL (bs.map .bl) = 0
  | [] => rfl
  | b :: bs => by rw [List.map_cons]; simp only [D.depL, D.dep, depL_bls bs]; rfl
theorem v_eqBls {bs cs : List Bool} {f : Bool → Bool} {st : Sto} {Q : DK} (q : Q (.bl (f (bs == cs))) st) : dEqB f (.lst (bs.map .bl)) (.lst (cs.map .bl)) st Q := by
  refine .inr ⟨?_, ?_, ?_, ?_⟩
  · show (D.lst (bs.map .bl)).ok = true
    simp only [D.ok, okL_bls]
  · show (D.lst (cs.map .bl)).ok = true
    simp only [D.ok, okL_bls]
  · show min (D.lst (bs.map .bl)).dep (D.lst (cs.map .bl)).dep ≤ 60
    simp only [D.dep, depL_bls]
    decide
  · have e : (rd st (.lst (bs.map .bl))).eqv (rd st (.lst (cs.map .bl))) = (bs == cs) := by
      show (D.lst (bs.map .bl)).eqv (D.lst (cs.map .bl)) = _
      simp only [D.eqv, eqvL_bls]
    rw [e]
    exact q
def w_f_law_is_kind_1 : DE := wOp dEq (wVar 3) (wVar 1)
def w_f_law_is_kind (a : Addr) (e : Exc) : DS := wSeq (wIf (wOr (wNot (wTest (wIsP a e (fun c : Str => c == ("WishError" : Str) || ("WishError" : Str) == ("WishError" : Str)) (wVar 0)))) (wNot (wTest (wIsP a e (fun _ => ("ValueError" : String) == "ValueError") (wVar 0))))) (wRet (wC (.bl false))) ((fun D env st => D.nx env st))) (wSeq (wAsg (wLst false (wCons (wIsP a e (fun c : Str => c == ("TooMany" : Str) || ("TooMany" : Str) == ("WishError" : Str)) (wVar 0)) (wCons (wIsP a e (fun c : Str => c == ("NoPlan" : Str) || ("NoPlan" : Str) == ("WishError" : Str)) (wVar 0)) (wCons (wIsP a e (fun c : Str => c == ("NoRoom" : Str) || ("NoRoom" : Str) == ("WishError" : Str)) (wVar 0)) (wNil))))) (gNm 2)) (wSeq (wAsg (wOp dAdd (wVar 2) (wLst false (wCons (wIsP a e (fun c : Str => c == ("NotEven" : Str) || ("NotEven" : Str) == ("WishError" : Str)) (wVar 0)) (wCons (wIsP a e (fun c : Str => c == ("NoDeed" : Str) || ("NoDeed" : Str) == ("WishError" : Str)) (wVar 0)) (wCons (wIsP a e (fun c : Str => c == ("NoText" : Str) || ("NoText" : Str) == ("WishError" : Str)) (wVar 0)) (wNil)))))) (gNm 2)) (wRet (wOp dEq (wVar 2) (wComp false (iRange1 (wCons (wC (.int 6)) (wNil))) (.nm 3) wYes w_f_law_is_kind_1 [3])))))
noncomputable def S_f_law_is_kind (a : Addr) (e : Exc) : DL.Spec := pureS 2 (fun k : Nat => [rawD a, .int (k : Nat)]) (fun k => k < 6 ∧ e.cls ∈ kindsX) (fun k => .bl (kindsX[k]? == some e.cls))
theorem vc_f_law_is_kind : ∀ (a : Addr) (e : Exc) g sto, ((S_f_law_is_kind a e).args g).length = (S_f_law_is_kind a e).n → (S_f_law_is_kind a e).pre g sto → w_f_law_is_kind a e (bodyEnds ((S_f_law_is_kind a e).post g sto)) (startE ["_law_error", "_law_at", "_law_kinds", "_law_k"] ((S_f_law_is_kind a e).args g)) sto := by
  rintro a ⟨c, fs⟩ (k : Nat) sto _ ⟨(hk6 : k < 6), (hkc : c ∈ kindsX)⟩
  have z3 : 3 ≤ sizeLine := by decide
  have z6 : 6 ≤ sizeLine := by decide
  have hc : c ∈ errNames := by
    have := hkc
    simp only [kindsX, List.mem_cons, List.not_mem_nil, or_false] at this
    rcases this with rfl | rfl | rfl | rfl | rfl | rfl <;> decide
  simp?! only [w_f_law_is_kind, S_f_law_is_kind, pureS, startE, wComp, wipeE]
  refine seq_go ?_
  simp?! only [wIsP]
  refine ⟨hc, ?_⟩
  rw [if_neg (by rw [show ((Str.ofString "WishError" : Str) == Str.ofString "WishError") = true from by decide, Bool.or_true]; decide)]
  refine ⟨hc, ?_⟩
  rw [if_neg (by decide)]
  refine seq_go ?_
  simp?! only [wIsP]
  refine ⟨hc, hc, hc, z3, ?_⟩
  refine seq_go ?_
  simp?! only [wIsP]
  refine ⟨hc, hc, hc, z3, ?_⟩
  refine ⟨z6, ⟨by decide, by decide⟩, by rw [rangeD_len]; exact z6, ?_⟩
  rw [rangeD_eq]
  refine compL_all D.int (fun x : Int => x == (k : Int)) D.bl trivial _ (fun x hx R hR => ?_) ?_
  · simp? only [Tg.dg, wYes, w_f_law_is_kind_1, v_eqi]
    exact hR
  · rw [show [D.bl (c == ("TooMany" : Str) || ("TooMany" : Str) == ("WishError" : Str)), D.bl (c == ("NoPlan" : Str) || ("NoPlan" : Str) == ("WishError" : Str)), D.bl (c == ("NoRoom" : Str) || ("NoRoom" : Str) == ("WishError" : Str)), D.bl (c == ("NotEven" : Str) || ("NotEven" : Str) == ("WishError" : Str)), D.bl (c == ("NoDeed" : Str) || ("NoDeed" : Str) == ("WishError" : Str)), D.bl (c == ("NoText" : Str) || ("NoText" : Str) == ("WishError" : Str))] = [c == ("TooMany" : Str) || ("TooMany" : Str) == ("WishError" : Str), c == ("NoPlan" : Str) || ("NoPlan" : Str) == ("WishError" : Str), c == ("NoRoom" : Str) || ("NoRoom" : Str) == ("WishError" : Str), c == ("NotEven" : Str) || ("NotEven" : Str) == ("WishError" : Str), c == ("NoDeed" : Str) || ("NoDeed" : Str) == ("WishError" : Str), c == ("NoText" : Str) || ("NoText" : Str) == ("WishError" : Str)].map D.bl from rfl]
    refine v_eqBls ?_
    refine ⟨rfl, congrArg D.bl ?_⟩
    have e6 : rangeI 0 (Int.toNat 6) = [0, 1, 2, 3, 4, 5] := by decide
    rw [e6]
    show _ = (kindsX[k]? == some c)
    simp only [kindsX, List.mem_cons, List.not_mem_nil, or_false] at hkc
    have hk : k = 0 ∨ k = 1 ∨ k = 2 ∨ k = 3 ∨ k = 4 ∨ k = 5 := by omega
    rcases hk with rfl | rfl | rfl | rfl | rfl | rfl <;> rcases hkc with rfl | rfl | rfl | rfl | rfl | rfl <;> rfl
def encR (r : List (Int × Int)) : D := .tup (r.map encP)
def wkAt (s : Sy) (i : Nat) : Wk := (s.works[i]?).getD ⟨0, [], []⟩
def Good (s : Sy) : Prop := s.Ok 900 100 100 900 100
theorem good_of {s : Sy} {a b c l e : Int} (o : s.Ok a b c l e) (ha : a ≤ 900) (hb : b ≤ 100) (hc : c ≤ 100) (hl : l ≤ 900) (he : e ≤ 100) : Good s :=
  ⟨by have := o.days; omega, by have := o.hands; omega, o.rows, by have := o.works; omega, fun i w h => by have := o.work i w h; exact ⟨by have := this.len; omega, this.ahead, this.able, this.any⟩, by have := o.wishes; omega, o.wish⟩
abbrev S30 (s : Sy) : Prop := s.Ok 30 5 100 900 100
theorem s30_of {s : Sy} {a b c l e : Int} (o : s.Ok a b c l e) (ha : a ≤ 30) (hb : b ≤ 5) (hc : c ≤ 100) (hl : l ≤ 900) (he : e ≤ 100) : S30 s :=
  ⟨by have := o.days; omega, by have := o.hands; omega, o.rows, by have := o.works; omega, fun i w h => by have := o.work i w h; exact ⟨by have := this.len; omega, this.ahead, this.able, this.any⟩, by have := o.wishes; omega, o.wish⟩
structure SubF (f g : List (List (Int × Int))) : Prop where
  len : f.length = g.length
  sub : ∀ (i : Nat) r, f[i]? = some r → ∃ r', g[i]? = some r' ∧ r.Sublist r'
theorem SubF.refl (f : List (List (Int × Int))) : SubF f f := ⟨rfl, fun i r h => ⟨r, h, .refl _⟩⟩
theorem SubF.trans {f g h : List (List (Int × Int))} (a : SubF f g) (b : SubF g h) : SubF f h :=
  ⟨a.len.trans b.len, fun i r e => by obtain ⟨r1, e1, s1⟩ := a.sub i r e; obtain ⟨r2, e2, s2⟩ := b.sub i r1 e1; exact ⟨r2, e2, s1.trans s2⟩⟩
theorem SubF.nil : SubF [] [] := ⟨rfl, fun _ _ h => by simp at h⟩
theorem SubF.snoc {f g : List (List (Int × Int))} {r r' : List (Int × Int)} (a : SubF f g) (b : r.Sublist r') : SubF (f ++ [r]) (g ++ [r']) := by
  refine ⟨by rw [List.length_append, List.length_append, a.len]; rfl, fun i x h => ?_⟩
  by_cases hi : i < f.length
  · rw [List.getElem?_append_left hi] at h
    rw [List.getElem?_append_left (by rw [← a.len]; exact hi)]
    exact a.sub i x h
  · rw [List.getElem?_append_right (by omega)] at h
    rw [List.getElem?_append_right (by rw [← a.len]; omega), ← a.len]
    have e0 : i - f.length = 0 := by
      have := (List.getElem?_eq_some_iff.mp h).1
      rw [List.length_singleton] at this
      omega
    rw [e0] at h ⊢
    cases h
    exact ⟨r', rfl, b⟩
theorem take_snoc {α : Type} {xs : List α} {i : Nat} {x : α} (h : xs[i]? = some x) : xs.take (i + 1) = xs.take i ++ [x] := by
  rw [List.take_add_one, h]; rfl
theorem fitL_get {α : Type} {k n : Nat} {enc : α → D} {xs : List α} (h : ∀ (i : Nat) x, xs[i]? = some x → FitN k n (enc x)) : FitL k (xs.length * (n + 1)) (xs.map enc) :=
  fitL_map fun x hx => by
    obtain ⟨i, hi, rfl⟩ := List.getElem_of_mem hx
    exact h i _ (List.getElem?_eq_getElem hi)
def behF (one : Int) (w1 w2 : Wk) (p q : Int × Int) : Bool := if w2.ahead.any (· == one) = true then decide (q.1 < p.1 + w1.len) else false
def clF (i j : Int) (w1 w2 : Wk) (p q : Int × Int) : Bool := (p.2 == q.2 && decide (p.1 < q.1 + w2.len) && decide (q.1 < p.1 + w1.len)) || behF i w1 w2 p q || behF j w2 w1 q p
abbrev P2 := Int × Int
def isSq (st : Sto) (a : D) (ds : List D) : Prop := rd st a = .lst ds ∨ rd st a = .tup ds
theorem v_ixQ {st : Sto} {a : D} {ds : List D} {i : Int} {Q : DK} (h : isSq st a ds) : dIx a (.int i) st Q = ∃ d, atI ds i = some d ∧ Q d st := by
  apply propext
  constructor
  · rintro ⟨_, e, q⟩
    cases e
    rcases h with h | h <;> (rw [h] at q; exact q)
  · intro q
    refine ⟨_, rfl, ?_⟩
    rcases h with h | h <;> (rw [h]; exact q)
theorem v_lenQ {st : Sto} {a : D} {ds : List D} {Q : DK} (h : isSq st a ds) : bLen [a] st Q = Q (.int ds.length) st := by
  rcases h with h | h
  · exact v_len (by rw [h]; rfl)
  · exact v_len (by rw [h]; rfl)
theorem cut_take {α : Type} (xs : List α) (i : Nat) : cutL xs none (some (i : Int)) = xs.take i := by
  unfold cutL
  rw [show HT.sIx xs.length 0 none = 0 from rfl, HT.sIx_nat, List.drop_zero, Nat.sub_zero]
  rcases Nat.le_total i xs.length with h | h
  · rw [Nat.min_eq_left h]
  · rw [Nat.min_eq_right h, List.take_of_length_le (by omega), List.take_of_length_le h]
theorem cut_drop {α : Type} (xs : List α) (i : Nat) : cutL xs (some (i : Int)) none = xs.drop i := by
  unfold cutL
  rw [show HT.sIx xs.length xs.length none = xs.length from rfl, HT.sIx_nat]
  rcases Nat.le_total i xs.length with h | h
  · rw [Nat.min_eq_left h, List.take_of_length_le (by rw [List.length_drop]; omega)]
  · rw [Nat.min_eq_right h, Nat.sub_self, List.take_zero, List.drop_of_length_le h]
def putL (ds : List D) (i : Nat) (x : D) : List D := ds.take i ++ x :: ds.drop (i + 1)
theorem putL_set {ds : List D} {i : Nat} {x : D} (h : i < ds.length) : putL ds i x = ds.set i x := by
  unfold putL
  rw [List.set_eq_take_append_cons_drop, if_pos h]
def S_f_law_put : DL.Spec := pureS 3 (fun (x : List D × Nat × D) => [.tup x.1, .int (x.2.1 : Nat), x.2.2]) (fun x => x.2.1 ≤ x.1.length ∧ x.1.length ≤ 1000000) (fun x => .tup (putL x.1 x.2.1 x.2.2))
theorem put_use {ds : List D} {i : Nat} {x : D} {st : Sto} {Q : DK} (h : i < ds.length ∧ ds.length ≤ 1000000) (q : Q (.tup (ds.set i x)) st) :
    ∃ g, [D.tup ds, .int (i : Nat), x] = S_f_law_put.args g ∧ (S_f_law_put.args g).length = S_f_law_put.n ∧ S_f_law_put.pre g st ∧ ∀ d s2, S_f_law_put.post g st d s2 → Q d s2 :=
  ⟨(ds, i, x), rfl, rfl, ⟨by show i ≤ ds.length; omega, h.2⟩, fun d s2 ⟨e, h2⟩ => by subst e; rw [h2]; show Q (.tup (putL ds i x)) _; rw [putL_set h.1]; exact q⟩
def w_f_law_put : DS := wRet (wOp dAdd (wOp dAdd (wSl false (wVar 0) oNo (oPart (wVar 1))) (wTup (wCons (wVar 2) (wNil)))) (wSl false (wVar 0) (oPart (wOp dAdd (wVar 1) (wC (.int 1)))) oNo))
theorem vc_f_law_put : ∀ g sto, (S_f_law_put.args g).length = S_f_law_put.n → S_f_law_put.pre g sto → w_f_law_put (bodyEnds (S_f_law_put.post g sto)) (startE ["_law_row", "_law_at", "_law_thing"] (S_f_law_put.args g)) sto := by
  rintro ⟨ds, i, x⟩ sto _ ⟨hi, hl⟩
  dsimp only at hi hl
  have z1 : 1 ≤ sizeLine := by decide
  have e1 : ((i : Int) + 1) = ((i + 1 : Nat) : Int) := by omega
  simp? only [w_f_law_put, S_f_law_put, pureS, v_slT, cut_take, e1, cut_drop]
  refine ⟨z1, ?_, ?_, ?_⟩
  · rw [List.length_take, sizeLine_eq]; omega
  · rw [List.length_append, List.length_take, List.length_drop, sizeLine_eq, List.length_singleton]; omega
  · unfold putL; rw [List.append_assoc]; rfl
def w_f_law_clash : DS := wSeq (wAsg (wOp dAdd (wOp dIx (wVar 2) (wC (.int 0))) (wOp dIx (wOp dIx (wOp dIx (wVar 0) (wC (.int 2))) (wVar 1)) (wC (.int 0)))) (gNm 5)) (wSeq (wAsg (wOp dAdd (wOp dIx (wVar 4) (wC (.int 0))) (wOp dIx (wOp dIx (wOp dIx (wVar 0) (wC (.int 2))) (wVar 3)) (wC (.int 0)))) (gNm 6)) (wSeq (wIf (wAnd (wTest (wOp dEq (wOp dIx (wVar 2) (wC (.int 1))) (wOp dIx (wVar 4) (wC (.int 1))))) (wAnd (wTest (wOp dLt (wOp dIx (wVar 2) (wC (.int 0))) (wVar 6))) (wTest (wOp dLt (wOp dIx (wVar 4) (wC (.int 0))) (wVar 5))))) (wRet (wC (.bl true))) ((fun D env st => D.nx env st))) (wSeq (wIf (wAnd (wTest (wOp dIn (wVar 1) (wOp dIx (wOp dIx (wOp dIx (wVar 0) (wC (.int 2))) (wVar 3)) (wC (.int 1))))) (wTest (wOp dLt (wOp dIx (wVar 4) (wC (.int 0))) (wVar 5)))) (wRet (wC (.bl true))) ((fun D env st => D.nx env st))) (wRet (wAndV (wOp dIn (wVar 3) (wOp dIx (wOp dIx (wOp dIx (wVar 0) (wC (.int 2))) (wVar 1)) (wC (.int 1)))) (wOp dLt (wOp dIx (wVar 2) (wC (.int 0))) (wVar 6)))))))
def S_f_law_clash : DL.Spec := pureS 5 (fun (x : Sy × Int × P2 × Int × P2 × Wk × Wk) => [x.1.d, .int x.2.1, encP x.2.2.1, .int x.2.2.2.1, encP x.2.2.2.2.1]) (fun x => atI x.1.works x.2.1 = some x.2.2.2.2.2.1 ∧ atI x.1.works x.2.2.2.1 = some x.2.2.2.2.2.2) (fun x => .bl (clF x.2.1 x.2.2.2.1 x.2.2.2.2.2.1 x.2.2.2.2.2.2 x.2.2.1 x.2.2.2.2.1))
theorem vc_f_law_clash : ∀ g sto, (S_f_law_clash.args g).length = S_f_law_clash.n → S_f_law_clash.pre g sto → w_f_law_clash (bodyEnds (S_f_law_clash.post g sto)) (startE ["_law_system_here", "_law_one", "_law_way", "_law_other", "_law_other_way", "_law_end", "_law_other_end"] (S_f_law_clash.args g)) sto := by
  rintro ⟨s, i, p, j, q, w1, w2⟩ sto _ ⟨h1, h2⟩
  dsimp only at h1 h2
  simp? only [w_f_law_clash, S_f_law_clash, pureS, p_ix0, p_ix1, atI_map h1, atI_map h2, v_inE]
  have e3 : clF i j w1 w2 p q = ((p.2 == q.2 && decide (p.1 < q.1 + w2.len) && decide (q.1 < p.1 + w1.len)) || (if w2.ahead.any (· == i) = true then decide (q.1 < p.1 + w1.len) else false) || if w1.ahead.any (· == j) = true then decide (p.1 < q.1 + w2.len) else false) := rfl
  rw [e3]
  have r0 : sto = sto := rfl
  generalize w2.ahead.any (· == i) = b1
  generalize w1.ahead.any (· == j) = b2
  by_cases a1 : p.2 = q.2 <;> by_cases a2 : p.1 < q.1 + w2.len <;> by_cases a3 : q.1 < p.1 + w1.len <;> cases b1 <;> cases b2 <;> simp [a1, a2, a3]
def w_f_law_goes_1 : DT := wTest (wCall S_f_law_clash (wCons (wVar 0) (wCons (wVar 4) (wCons (wOp dIx (wVar 1) (wVar 4)) (wCons (wVar 2) (wCons (wVar 3) (wNil)))))))
def w_f_law_goes : DS := wRet (wOp dEq (wComp false (iRange1 (wCons (wCB bLen (wCons (wVar 1) (wNil))) (wNil))) (.nm 4) w_f_law_goes_1 (wVar 4) [4]) (wLst false (wNil)))
def goesF (s : Sy) (ps : List P2) (i : Nat) (p : P2) : Bool := !(rangeI 0 ps.length).any fun k => clF k i (wkAt s k.toNat) (wkAt s i) ((ps[k.toNat]?).getD (0, 0)) p
theorem goes_iff {s : Sy} {ps : List P2} {i : Nat} {p : P2} : goesF s ps i p = true ↔ ∀ (k : Nat) q, ps[k]? = some q → clF k i (wkAt s k) (wkAt s i) q p = false := by
  unfold goesF
  rw [Bool.not_eq_true', List.any_eq_false]
  constructor
  · intro h k q hq
    have hk := (List.getElem?_eq_some_iff.mp hq).1
    have := h (k : Int) (mem_rangeI.mpr (by omega))
    rw [Int.toNat_natCast, hq] at this
    simpa using this
  · intro h k hk
    have hb := mem_rangeI.mp hk
    obtain ⟨j, rfl⟩ : ∃ j : Nat, k = j := ⟨k.toNat, by omega⟩
    have hj : j < ps.length := by omega
    rw [Int.toNat_natCast, List.getElem?_eq_getElem hj]
    have := h j _ (List.getElem?_eq_getElem hj)
    simpa using this
theorem wk_at {s : Sy} {i : Nat} (h : i < s.works.length) : atI s.works (i : Int) = some (wkAt s i) := by
  refine atI_of (by omega) ?_
  rw [Int.toNat_natCast]
  unfold wkAt
  rw [List.getElem?_eq_getElem h]
  rfl
def S_f_law_goes : DL.Spec := ⟨4, Sy × D × List P2 × Nat × P2, fun x => [x.1.d, x.2.1, .int (x.2.2.2.1 : Nat), encP x.2.2.2.2], fun x st => isSq st x.2.1 (x.2.2.1.map encP) ∧ x.2.2.1.length ≤ x.1.works.length ∧ x.2.2.2.1 < x.1.works.length ∧ x.1.works.length ≤ 1000, fun x st d st' => st' = st ∧ d = .bl (goesF x.1 x.2.2.1 x.2.2.2.1 x.2.2.2.2)⟩
theorem vc_f_law_goes : ∀ g sto, (S_f_law_goes.args g).length = S_f_law_goes.n → S_f_law_goes.pre g sto → w_f_law_goes (bodyEnds (S_f_law_goes.post g sto)) (startE ["_law_system", "_law_ways_here", "_law_work_here", "_law_way", "_law_one"] (S_f_law_goes.args g)) sto := by
  rintro ⟨s, a, ps, i, p⟩ sto _ ⟨hq, hp, hi, hs⟩
  dsimp only at hq hp hi hs
  simp? only [w_f_law_goes, S_f_law_goes, wComp, wipeE, v_lenQ hq, rangeD_len, List.length_map]
  refine ⟨⟨by omega, by omega⟩, by rw [sizeLine_eq]; omega, ?_⟩
  rw [rangeD_eq]
  refine compL_flt D.int (fun k => clF k i (wkAt s k.toNat) (wkAt s i) ((ps[k.toNat]?).getD (0, 0)) p) id D.int trivial _ (fun k hk R hR => ?_) ?_
  · have hb := mem_rangeI.mp hk
    obtain ⟨j, rfl⟩ : ∃ j : Nat, k = j := ⟨k.toNat, by omega⟩
    have hj : j < ps.length := by omega
    rw [Int.toNat_natCast, List.getElem?_eq_getElem hj] at hR
    simp? only [Tg.dg, w_f_law_goes_1, v_ixQ hq]
    refine ⟨_, atI_map (atI_of (by omega) (List.getElem?_eq_getElem (show (j : Int).toNat < ps.length by omega))), ?_⟩
    exact use_pure (s, (j : Int), ps[(j : Int).toNat], (i : Int), p, wkAt s j, wkAt s i) rfl rfl ⟨wk_at (s := s) (by omega), wk_at (s := s) hi⟩ ⟨_, rfl, hR⟩
  · simp only [List.map_id, isE_map, isE_filter, v_eqE, wComp, wipeE, wFor, wIsi, iEnum, iZip, zipI_tup, zipI_lst, zipI_lt, zipI_tl, seqJ_tup, seqJ_lst, v_app0, v_app1, v_eqNl, v_eqNt, rd_r0, rd_r1, rd_r2, v_ix0, v_ix1, v_ix2, v_eq0, v_len0, v_len1, v_ex0, v_mulS, wRevA, v_revT, v_revL, wRgL1, wRgL2, wRgT1, wRgT2, v_rgx1, v_rgx2, sy_ix0, sy_ix1, sy_ix2, sy_ix3, sy_sl3, sy_tp, wk_ix0, wk_ix1, wk_ix2, wk_tp, ws_tp, ns_seq, ns_len, ns_ix, ns_rd, sy_rd, wk_rd, ws_rd, wSeq, wAsg, wRet, wIf, wDrop, wOp, wCons, wNil, wTup, wLst, wCB, wCall, wTest, wAnd, wOr, wNot, wNotV, wAndV, wOrV, wChain, wNeg, wC, wM, wSl, oNo, oPart, iSeq, seqI_tup, seqI_lst, seqI_scr, v_rg1, v_rg2, gNm, v_gTp, v_gCn, v_gNl, v_var0, v_varS, v_sub, v_mod, v_fdiv, v_pow, v_iadd, v_add, v_addT, v_addL, v_mul, v_lt, v_le, v_gt, v_ge, v_eqi, v_ixT, v_ixL, v_ixS, v_lenT, v_lenL, v_lenS, v_abs, v_min2, v_max2, v_intI, v_intB, v_tupl, v_tupT, v_bl, v_in, v_some, v_newT, v_newF, startE, rd_int', rd_bl', rd_str', rd_tup', rd_lst', rd_scr', rd_non', at0, at1, at2, at3, at4, List.map_cons, List.map_nil, List.length_cons, List.length_nil, List.length_map, List.replicate_succ, List.replicate_zero, Nat.reduceSub, Nat.reduceAdd, List.cons_append, List.nil_append, List.set_cons_zero, List.set_cons_succ, List.getElem?_cons_zero, List.getElem?_cons_succ, Bool.not_true, Bool.not_false, if_true, if_false, Bool.false_eq_true, reduceCtorEq, true_and, and_true, bodyEnds, Nat.zero_add, decide_eq_true_eq, Int.toNat_natCast]
    exact ⟨Nat.zero_le _, okL_ints _, rfl⟩
theorem ways_flat (s : Sy) (w : Wk) : waysF s w = (rangeI 0 (s.days - w.len + 1).toNat).flatMap fun b => (w.able.filter fun h => freeF (rowOf s h) b (b + w.len)).map fun h => (b, h) := by
  have inner : ∀ (b : Int) (hs : List Int) (acc : List P2), hs.foldl (fun acc h => if freeF (rowOf s h) b (b + w.len) = true then acc ++ [(b, h)] else acc) acc = acc ++ (hs.filter fun h => freeF (rowOf s h) b (b + w.len)).map fun h => (b, h) := fun b hs => by
    induction hs with
    | nil => intro acc; simp
    | cons h r ih =>
      intro acc
      rw [List.foldl_cons, ih, List.filter_cons]
      cases freeF (rowOf s h) b (b + w.len) with
      | true => simp
      | false => simp
  have outer : ∀ (bs : List Int) (acc : List P2), bs.foldl (fun acc b => w.able.foldl (fun acc h => if freeF (rowOf s h) b (b + w.len) = true then acc ++ [(b, h)] else acc) acc) acc = acc ++ bs.flatMap fun b => (w.able.filter fun h => freeF (rowOf s h) b (b + w.len)).map fun h => (b, h) := fun bs => by
    induction bs with
    | nil => intro acc; simp
    | cons b r ih => intro acc; rw [List.foldl_cons, ih, inner, List.flatMap_cons, List.append_assoc]
  unfold waysF
  rw [outer, List.nil_append]
theorem mem_ways {s : Sy} {w : Wk} {p : P2} : p ∈ waysF s w ↔ (0 ≤ p.1 ∧ p.1 < (s.days - w.len + 1).toNat) ∧ p.2 ∈ w.able ∧ freeF (rowOf s p.2) p.1 (p.1 + w.len) = true := by
  rw [ways_flat]
  simp only [List.mem_flatMap, List.mem_map, List.mem_filter]
  constructor
  · rintro ⟨b, hb, h, ⟨h1, h2⟩, rfl⟩
    have := mem_rangeI.mp hb
    exact ⟨by dsimp only; omega, h1, h2⟩
  · rintro ⟨h1, h2, h3⟩
    exact ⟨p.1, mem_rangeI.mpr (by omega), p.2, ⟨h2, h3⟩, rfl⟩
theorem free_iff {row : List Int} {a b : Int} : freeF row a b = true ↔ ∀ d ∈ row, ¬(a ≤ d ∧ d < b) := by
  unfold freeF
  rw [Bool.not_eq_true', List.any_eq_false]
  constructor
  · intro h d hd ⟨h1, h2⟩
    refine h _ (List.mem_map_of_mem hd) ?_
    simp [h1, h2]
  · intro h x hx
    obtain ⟨d, hd, rfl⟩ := List.mem_map.mp hx
    have := h d hd
    by_cases h1 : a ≤ d
    · simp [h1]; omega
    · simp [h1]
def S_f_law_same : DL.Spec := ⟨2, D × D, fun (a, b) => [a, b], fun (a, b) st => (rd st a).Fit ∧ (rd st b).Fit, fun (a, b) st d st' => st' = st ∧ d = .bl ((rd st a).rep == (rd st b).rep)⟩
def w_f_law_same : DS := wRet (wOp dEq (wCB bRepr (wCons (wVar 0) (wNil))) (wCB bRepr (wCons (wVar 1) (wNil))))
theorem vc_f_law_same : ∀ g sto, (S_f_law_same.args g).length = S_f_law_same.n → S_f_law_same.pre g sto → w_f_law_same (bodyEnds (S_f_law_same.post g sto)) (startE ["_law_found", "_law_due"] (S_f_law_same.args g)) sto := by
  rintro ⟨a, b⟩ sto _ ⟨h1, h2⟩
  simp? only [w_f_law_same, S_f_law_same, v_repr]
  exact ⟨h1, h2, v_eqs ⟨rfl, rfl⟩⟩
theorem same_use {a b : D} {st : Sto} {Q : DK} (ha : (rd st a).Fit) (hb : (rd st b).Fit) (q : Q (.bl ((rd st a).rep == (rd st b).rep)) st) :
    ∃ g, [a, b] = S_f_law_same.args g ∧ (S_f_law_same.args g).length = S_f_law_same.n ∧ S_f_law_same.pre g st ∧ ∀ d s2, S_f_law_same.post g st d s2 → Q d s2 :=
  ⟨(a, b), rfl, rfl, ⟨ha, hb⟩, fun d s2 ⟨e1, e2⟩ => by subst e1; subst e2; exact q⟩
def D.isNum : D → Bool
  | .int _ => true
  | _ => false
def fromF (d : D) (a b : Int) : Bool := match d with
  | .int i => if a ≤ i then decide (i ≤ b) else false
  | _ => false
theorem noRef_of {d : D} (h : d.blw 0 = true) : d.noRef := by
  cases d with
  | ref n => simp [D.blw] at h
  | fn => simp [D.blw] at h
  | exc => simp [D.blw] at h
  | _ => trivial
def w_p_is_number : DS := wRet (wAndV (wIsi "int" (wVar 0)) (wNotV (wIsi "bool" (wVar 0))))
def S_p_is_number : DL.Spec := pureS 1 (fun d : D => [d]) D.noRef (fun d => .bl (D.isNum d))
theorem vc_p_is_number : ∀ g sto, (S_p_is_number.args g).length = S_p_is_number.n → S_p_is_number.pre g sto → w_p_is_number (bodyEnds (S_p_is_number.post g sto)) (startE ["thing"] (S_p_is_number.args g)) sto := by
  rintro (d : D) sto _ (h : d.noRef)
  simp? only [w_p_is_number, S_p_is_number, pureS, wIsi]
  refine ⟨h, ?_⟩
  cases d with
  | ref n => exact h.elim
  | fn => exact h.elim
  | exc => exact h.elim
  | _ => simp [D.isa, D.ty, D.isNum, D.noRef]
def w_p_is_from : DS := wRet (wAndV (wCall S_p_is_number (wCons (wVar 0) (wNil))) (wChain dLe dLe (wVar 1) (wVar 0) (wVar 2)))
def S_p_is_from : DL.Spec := pureS 3 (fun x : D × Int × Int => [x.1, .int x.2.1, .int x.2.2]) (fun x => x.1.noRef) (fun x => .bl (fromF x.1 x.2.1 x.2.2))
theorem vc_p_is_from : ∀ g sto, (S_p_is_from.args g).length = S_p_is_from.n → S_p_is_from.pre g sto → w_p_is_from (bodyEnds (S_p_is_from.post g sto)) (startE ["thing", "low", "high"] (S_p_is_from.args g)) sto := by
  rintro ⟨d, a, b⟩ sto _ h
  simp? only [w_p_is_from, S_p_is_from, pureS]
  refine use_pure d rfl rfl h ?_
  cases d with
  | int i =>
    simp? only [D.isNum, fromF]
    by_cases h : a ≤ i
    · simp [h]
    · simp [h]
  | _ => simp [D.isNum, fromF]
def D.p2 : D → Option P2
  | .tup [.int a, .int b] => some (a, b)
  | _ => none
theorem p2_enc (p : P2) : D.p2 (encP p) = some p := rfl
theorem p2_some {d : D} {p : P2} (h : D.p2 d = some p) : d = encP p := by
  unfold D.p2 at h
  split at h
  · cases h; rfl
  · cases h
def okP (s : Sy) (w : Wk) (p : P2) : Bool := (if 0 ≤ p.1 then decide (p.1 ≤ s.days - w.len) else false) && (if 0 ≤ p.2 then decide (p.2 ≤ s.hands.length - 1) else false) && w.able.any (· == p.2) && freeF (rowOf s p.2) p.1 (p.1 + w.len)
def wayD (s : Sy) (w : Wk) (d : D) : Bool := match D.p2 d with
  | some p => okP s w p
  | none => false
theorem blw_items {ds : List D} {n : Nat} (h : D.blw n (.tup ds) = true) : ∀ d ∈ ds, d.blw n = true := by
  simp only [D.blw] at h
  induction ds with
  | nil => intro d hd; cases hd
  | cons x r ih =>
    simp only [D.blwL, Bool.and_eq_true] at h
    intro d hd
    rcases List.mem_cons.mp hd with z | z
    · subst z; exact h.1
    · exact ih h.2 d z
noncomputable def tr (P : Prop) : Bool := @decide P (Classical.propDecidable P)
theorem tr_true {P : Prop} (h : P) : tr P = true := @decide_eq_true P (Classical.propDecidable P) h
theorem tr_false {P : Prop} (h : ¬P) : tr P = false := @decide_eq_false P (Classical.propDecidable P) h
theorem tr_iff {P : Prop} : tr P = true ↔ P := @decide_eq_true_iff P (Classical.propDecidable P)
theorem tr_eq {P : Prop} {b : Bool} (h : b = true ↔ P) : b = tr P := by
  cases b with
  | true => exact (tr_true (h.mp rfl)).symm
  | false => exact (tr_false fun p => Bool.false_ne_true (h.mpr p)).symm
structure IsPlan (s : Sy) (ps : List P2) : Prop where
  len : ps.length = s.works.length
  way : ∀ (i : Nat) p, ps[i]? = some p → okP s (wkAt s i) p = true
  ok : ∀ (j k : Nat) q p, j < k → ps[j]? = some q → ps[k]? = some p → clF j k (wkAt s j) (wkAt s k) q p = false
noncomputable def planD (s : Sy) (d : D) : Bool := tr (∃ ps, d = encR ps ∧ IsPlan s ps)
theorem enum_at' {ds : List D} {i : Nat} {d : D} (h : (enumD ds)[i]? = some d) : ∃ x, ds[i]? = some x ∧ d = .tup [.int (i : Nat), x] := by
  have := enum_at (enc := id) (xs := ds) (i := i) (d := d) (by rw [List.map_id]; exact h)
  exact this
theorem map_at_encP {ps : List P2} {i : Nat} {d : D} (h : (ps.map encP)[i]? = some d) : ∃ p, ps[i]? = some p ∧ d = encP p := by
  rw [List.getElem?_map] at h
  cases e : ps[i]? with
  | none => rw [e] at h; cases h
  | some p => rw [e] at h; cases h; exact ⟨p, rfl, rfl⟩
theorem encP_inj {a b : P2} (h : encP a = encP b) : a = b := by
  have := congrArg D.p2 h
  rw [p2_enc, p2_enc] at this
  exact Option.some.inj this
theorem encR_inj {a b : List P2} (h : encR a = encR b) : a = b := by
  unfold encR at h
  injection h with h
  exact (List.map_inj_right fun _ _ e => encP_inj e).mp h
theorem planD_enc (s : Sy) (ps : List P2) : planD s (encR ps) = tr (IsPlan s ps) := by
  unfold planD
  by_cases h : IsPlan s ps
  · rw [tr_true h, tr_true ⟨ps, rfl, h⟩]
  · rw [tr_false h, tr_false fun ⟨qs, e, hq⟩ => h (by rw [encR_inj e]; exact hq)]
theorem okP_iff {s : Sy} {w : Wk} {p : P2} : okP s w p = true ↔ (0 ≤ p.1 ∧ p.1 ≤ s.days - w.len) ∧ (0 ≤ p.2 ∧ p.2 ≤ s.hands.length - 1) ∧ w.able.any (· == p.2) = true ∧ ∀ d ∈ rowOf s p.2, ¬(p.1 ≤ d ∧ d < p.1 + w.len) := by
  unfold okP
  rw [Bool.and_eq_true, Bool.and_eq_true, Bool.and_eq_true, free_iff]
  constructor
  · rintro ⟨⟨⟨h1, h2⟩, h3⟩, h4⟩
    refine ⟨?_, ?_, h3, h4⟩
    · by_cases h : 0 ≤ p.1
      · rw [if_pos h] at h1; exact ⟨h, of_decide_eq_true h1⟩
      · rw [if_neg h] at h1; cases h1
    · by_cases h : 0 ≤ p.2
      · rw [if_pos h] at h2; exact ⟨h, of_decide_eq_true h2⟩
      · rw [if_neg h] at h2; cases h2
  · rintro ⟨⟨h1, h2⟩, ⟨h3, h4⟩, h5, h6⟩
    refine ⟨⟨⟨?_, ?_⟩, h5⟩, h6⟩
    · rw [if_pos h1]; exact decide_eq_true h2
    · rw [if_pos h3]; exact decide_eq_true h4
def w_f_law_is_from : DS := wRet (wAndV (wIsi "int" (wVar 0)) (wAndV (wNotV (wIsi "bool" (wVar 0))) (wChain dLe dLe (wVar 1) (wVar 0) (wVar 2))))
def S_f_law_is_from : DL.Spec := pureS 3 (fun x : D × Int × Int => [x.1, .int x.2.1, .int x.2.2]) (fun x => x.1.noRef) (fun x => .bl (fromF x.1 x.2.1 x.2.2))
theorem vc_f_law_is_from : ∀ g sto, (S_f_law_is_from.args g).length = S_f_law_is_from.n → S_f_law_is_from.pre g sto → w_f_law_is_from (bodyEnds (S_f_law_is_from.post g sto)) (startE ["_law_thing", "_law_low", "_law_high"] (S_f_law_is_from.args g)) sto := by
  rintro ⟨d, a, b⟩ sto _ h
  have h' : d.noRef := h
  simp? only [w_f_law_is_from, S_f_law_is_from, pureS, wIsi]
  refine ⟨h, ?_⟩
  cases d with
  | int i =>
    simp [fromF, D.isa, D.ty, v_le, D.noRef]
    by_cases h : a ≤ i
    · simp [h]
    · simp [h]; omega
  | ref n => exact h'.elim
  | fn => exact h'.elim
  | exc => exact h'.elim
  | _ => simp [fromF, D.isa, D.ty, D.noRef]
theorem v_inP' {p : P2} {ps : List P2} {f : Bool → Bool} {st : Sto} {Q : DK} : dInB f (encP p) (.tup (ps.map encP)) st Q = Q (.bl (f (ps.any (· == p)))) st := by
  have e : (ps.map encP).any (fun z => z.eqv (rd st (encP p))) = ps.any (· == p) := by
    rw [List.any_map]
    congr 1
    funext x
    exact eqv_encP x p
  apply propext
  constructor
  · rintro ⟨ds, h, _, _, _, q⟩
    rcases h with h | h
    · cases h
    · cases h
      rw [← e]; exact q
  · intro q
    refine ⟨ps.map encP, .inr rfl, rfl, okL_encP ps, Nat.le_trans (Nat.min_le_right _ _) (show D.dep (.tup [.int p.1, .int p.2]) ≤ 60 by simp [D.dep, D.depL]), ?_⟩
    rw [e]; exact q
theorem ways_okP {s : Sy} (hs : S30 s) {i : Nat} {w : Wk} (hw : s.works[i]? = some w) (p : P2) : (waysF s w).any (· == p) = okP s w p := by
  have ow := hs.work i w hw
  rw [Bool.eq_iff_iff, okP_iff, List.any_eq_true]
  constructor
  · rintro ⟨q, hq, e⟩
    have := beq_iff_eq.mp e
    subst this
    have hm := mem_ways.mp hq
    have ha := ow.able.2 _ hm.2.1
    exact ⟨by omega, by omega, List.any_eq_true.mpr ⟨_, hm.2.1, beq_self_eq_true _⟩, free_iff.mp hm.2.2⟩
  · rintro ⟨h1, h2, h3, h4⟩
    obtain ⟨x, hx, e⟩ := List.any_eq_true.mp h3
    have := beq_iff_eq.mp e
    subst this
    exact ⟨p, mem_ways.mpr ⟨by omega, hx, free_iff.mpr h4⟩, beq_self_eq_true _⟩
def w_f_law_is_way : DS := wSeq (wIf (wOr (wNot (wTest (wIsi "tuple" (wVar 2)))) (wTest (wOp dNe (wCB bLen (wCons (wVar 2) (wNil))) (wC (.int 2))))) (wRet (wC (.bl false))) ((fun D env st => D.nx env st))) (wSeq (wIf (wOr (wNot (wTest (wCall S_f_law_is_from (wCons (wOp dIx (wVar 2) (wC (.int 0))) (wCons (wC (.int 0)) (wCons (wC (.int 29)) (wNil))))))) (wNot (wTest (wCall S_f_law_is_from (wCons (wOp dIx (wVar 2) (wC (.int 1))) (wCons (wC (.int 0)) (wCons (wC (.int 4)) (wNil)))))))) (wRet (wC (.bl false))) ((fun D env st => D.nx env st))) (wRet (wOp dIn (wVar 2) (wCall S_f_law_ways (wCons (wVar 0) (wCons (wVar 1) (wNil)))))))
def S_f_law_is_way : DL.Spec := pureS 3 (fun x : Sy × Nat × D => [x.1.d, .int (x.2.1 : Nat), x.2.2]) (fun x => S30 x.1 ∧ x.2.1 < x.1.works.length ∧ x.2.2.blw 0 = true) (fun x => .bl (wayD x.1 (wkAt x.1 x.2.1) x.2.2))
theorem wk_get {s : Sy} {i : Nat} (h : i < s.works.length) : s.works[i]? = some (wkAt s i) := by
  unfold wkAt; rw [List.getElem?_eq_getElem h]; rfl
theorem good30 {s : Sy} (hs : S30 s) : Good s := good_of hs (by omega) (by omega) (by omega) (by omega) (by omega)
theorem vc_f_law_is_way : ∀ g sto, (S_f_law_is_way.args g).length = S_f_law_is_way.n → S_f_law_is_way.pre g sto → w_f_law_is_way (bodyEnds (S_f_law_is_way.post g sto)) (startE ["_law_system_here", "_law_work_here", "_law_thing"] (S_f_law_is_way.args g)) sto := by
  rintro ⟨s, i, d⟩ sto _ ⟨hs, hi, hb⟩
  dsimp only at hs hi hb
  simp? only [w_f_law_is_way, S_f_law_is_way, pureS, wIsi]
  refine ⟨noRef_of hb, ?_⟩
  have hdays := hs.days
  have hhands := hs.hands
  have ow := hs.work i _ (wk_get hi)
  have hl := ow.len
  cases d with
  | tup ds =>
    simp? only [D.isa, D.ty]
    match ds, hb with
    | [], _ => simp [wayD, D.p2]
    | [x], _ => simp [wayD, D.p2]
    | x :: y :: z :: r, _ =>
      simp [wayD, D.p2]
      intro h
      omega
    | [x, y], hb =>
      have hx := blw_items hb x (by simp)
      have hy := blw_items hb y (by simp)
      simp? only [true_and]
      rw [if_neg (by decide)]
      refine use_pure (x, 0, 29) rfl rfl (noRef_of hx) ?_
      (try simp? only [true_and])
      have no : (∀ p : P2, D.tup [x, y] ≠ encP p) → wayD s (wkAt s i) (.tup [x, y]) = false := fun h => by
        unfold wayD
        cases e : D.p2 (.tup [x, y]) with
        | none => rfl
        | some p => exact absurd (p2_some e) (h p)
      have key : ∀ a b : Int, x = .int a → y = .int b → wayD s (wkAt s i) (.tup [x, y]) = okP s (wkAt s i) (a, b) := fun a b e1 e2 => by subst e1; subst e2; rfl
      have out : ∀ {a b : Int}, (a < 0 ∨ 29 < a ∨ b < 0 ∨ 4 < b) → okP s (wkAt s i) (a, b) = false := fun {a b} h => by
        cases e : okP s (wkAt s i) (a, b) with
        | false => rfl
        | true => have := okP_iff.mp e; dsimp only at this; omega
      have frm : ∀ (z : D) (hi : Int), fromF z 0 hi = false → ∀ a, z = .int a → a < 0 ∨ hi < a := fun z hi h a e => by
        subst e
        simp only [fromF] at h
        by_cases h0 : 0 ≤ a
        · rw [if_pos h0] at h; have := of_decide_eq_false h; omega
        · omega
      have frm2 : ∀ (z : D) (hi : Int), fromF z 0 hi = true → ∃ a, z = .int a := fun z hi h => by
        cases z with
        | int a => exact ⟨a, rfl⟩
        | _ => simp [fromF] at h
      have isn : (∀ a b, ¬(x = .int a ∧ y = .int b)) → ∀ p : P2, D.tup [x, y] ≠ encP p := fun h p e => by
        unfold encP at e
        injection e with e
        injection e with e1 e
        injection e with e2 _
        exact h _ _ ⟨e1, e2⟩
      have bad : (∀ a b, x = .int a → y = .int b → okP s (wkAt s i) (a, b) = false) → wayD s (wkAt s i) (.tup [x, y]) = false := fun h => by
        by_cases hh : ∃ a b, x = .int a ∧ y = .int b
        · obtain ⟨a, b, e1, e2⟩ := hh
          rw [key a b e1 e2]; exact h a b e1 e2
        · exact no (isn fun a b hab => hh ⟨a, b, hab⟩)
      cases hx1 : fromF x 0 29 with
      | false =>
        (try simp? only [true_and])
        rw [bad fun a b e1 e2 => out (by have := frm x 29 hx1 a e1; omega)]
      | true =>
        (try simp? only [true_and])
        refine use_pure (y, 0, 4) rfl rfl (noRef_of hy) ?_
        cases hy1 : fromF y 0 4 with
        | false =>
          (try simp? only [true_and])
          rw [bad fun a b e1 e2 => out (by have := frm y 4 hy1 b e2; omega)]
        | true =>
          obtain ⟨a, rfl⟩ := frm2 _ _ hx1
          obtain ⟨b, rfl⟩ := frm2 _ _ hy1
          (try simp? only [true_and])
          obtain ⟨w, pw, _⟩ := preWays_of (good30 hs) (by omega) (by omega) (by omega) (i := i) hi
          have ew : w = wkAt s i := by have := pw.1; rw [wk_at hi] at this; exact (Option.some.inj this).symm
          subst ew
          refine lways_use pw ?_
          show dInB (fun b => b) (encP (a, b)) _ _ _
          rw [v_inP', ways_okP hs (wk_get hi), key a b rfl rfl]
          exact ⟨rfl, rfl⟩
  | ref n => simp [D.blw] at hb
  | fn => simp [D.blw] at hb
  | exc => simp [D.blw] at hb
  | _ => simp [D.isa, D.ty, wayD, D.p2]
def w_f_law_is_plan_1 : DS := wIf (wOr (wNot (wTest (wCall S_f_law_is_way (wCons (wVar 0) (wCons (wVar 2) (wCons (wVar 3) (wNil))))))) (wNot (wTest (wCall S_f_law_goes (wCons (wVar 0) (wCons (wSl false (wVar 1) oNo (oPart (wVar 2))) (wCons (wVar 2) (wCons (wVar 3) (wNil))))))))) (wRet (wC (.bl false))) ((fun D env st => D.nx env st))
def w_f_law_is_plan : DS := wSeq (wIf (wOr (wNot (wTest (wIsi "tuple" (wVar 1)))) (wTest (wOp dNe (wCB bLen (wCons (wVar 1) (wNil))) (wCB bLen (wCons (wOp dIx (wVar 0) (wC (.int 2))) (wNil)))))) (wRet (wC (.bl false))) ((fun D env st => D.nx env st))) (wSeq (wFor (iEnum (wVar 1)) (gTp 2 (gCn (gNm 2) (gCn (gNm 3) gNl))) w_f_law_is_plan_1) (wRet (wC (.bl true))))
noncomputable def S_f_law_is_plan : DL.Spec := pureS 2 (fun x : Sy × D => [x.1.d, x.2]) (fun x => S30 x.1 ∧ x.2.blw 0 = true) (fun x => .bl (planD x.1 x.2))
theorem vc_f_law_is_plan : ∀ g sto, (S_f_law_is_plan.args g).length = S_f_law_is_plan.n → S_f_law_is_plan.pre g sto → w_f_law_is_plan (bodyEnds (S_f_law_is_plan.post g sto)) (startE ["_law_system_here", "_law_thing", "_law_work_here", "_law_way"] (S_f_law_is_plan.args g)) sto := by
  rintro ⟨s, d⟩ sto _ ⟨hs, hb⟩
  dsimp only at hs hb
  have hw := hs.works
  simp? only [w_f_law_is_plan, S_f_law_is_plan, pureS, wIsi, wFor]
  refine ⟨noRef_of hb, ?_⟩
  cases d with
  | tup ds =>
    simp? only [D.isa, D.ty]
    rw [if_neg (by decide)]
    by_cases hl : ds.length = s.works.length
    · have e1 : (!((ds.length : Int) == (s.works.length : Int))) = false := by rw [hl]; simp
      simp? only [e1]
      refine forL_inv (fun i e st => ∃ x3 x4 ps, e = [some s.d, some (.tup ds), x3, x4] ∧ st = sto ∧ ds.take i = ps.map encP ∧ (∀ (i : Nat) p, ps[i]? = some p → okP s (wkAt s i) p = true) ∧ (∀ (j k : Nat) q p, j < k → ps[j]? = some q → ps[k]? = some p → clF j k (wkAt s j) (wkAt s k) q p = false)) ?_ ?_ _ _ ⟨_, _, [], rfl, rfl, rfl, fun i p h => by simp at h, fun j k q p _ h => by simp at h⟩
      · rintro i e st d ⟨x3, x4, ps, rfl, rfl, ht, hway, hok⟩ he R hR
        obtain ⟨x, hx, rfl⟩ := enum_at' he
        have hil := (List.getElem?_eq_some_iff.mp hx).1
        have hpl : ps.length = i := by
          have := congrArg List.length ht
          rw [List.length_take, List.length_map] at this
          omega
        refine ⟨trivial, ?_⟩
        simp? only [w_f_law_is_plan_1]
        refine use_pure (s, i, x) rfl rfl ⟨hs, by show i < s.works.length; omega, blw_items hb x (List.mem_of_getElem? hx)⟩ ?_
        (try simp? only [true_and])
        cases hwd : wayD s (wkAt s i) x with
        | false =>
          (try simp? only [true_and])
          refine congrArg D.bl (tr_false ?_).symm
          rintro ⟨qs, e, hp⟩
          cases e
          obtain ⟨p, hp1, rfl⟩ := map_at_encP hx
          have := hp.way i p hp1
          simp only [wayD, p2_enc] at hwd
          rw [this] at hwd
          cases hwd
        | true =>
          (try simp? only [true_and])
          obtain ⟨p, rfl, hp⟩ : ∃ p, x = encP p ∧ okP s (wkAt s i) p = true := by
            unfold wayD at hwd
            cases e : D.p2 x with
            | none => rw [e] at hwd; cases hwd
            | some p => rw [e] at hwd; exact ⟨p, p2_some e, hwd⟩
          have htk : ∀ qs : List P2, ds = qs.map encP → ps = qs.take i := fun qs e => by
            rw [e, ← List.map_take] at ht
            exact ((List.map_inj_right fun _ _ h => encP_inj h).mp ht).symm
          simp? only [v_slT, cut_take, ht]
          refine ⟨(s, .tup (ps.map encP), ps, i, p), rfl, rfl, ⟨.inr rfl, by show ps.length ≤ s.works.length; omega, by show i < s.works.length; omega, by show s.works.length ≤ 1000; omega⟩, ?_⟩
          rintro _ _ ⟨rfl, rfl⟩
          refine ⟨_, rfl, ?_⟩
          dsimp only
          cases hg : goesF s ps i p with
          | true =>
            have hg2 := goes_iff.mp hg
            (try simp? only [true_and])
            refine hR _ _ ⟨_, _, ps ++ [p], rfl, rfl, ?_, fun j q hq => ?_, fun j k q p' hjk hq hp' => ?_⟩
            · rw [take_snoc hx, ht, List.map_append]; rfl
            · by_cases hj : j < ps.length
              · rw [List.getElem?_append_left hj] at hq; exact hway j q hq
              · rw [List.getElem?_append_right (by omega)] at hq
                have e0 : j - ps.length = 0 := by have := (List.getElem?_eq_some_iff.mp hq).1; rw [List.length_singleton] at this; omega
                rw [e0] at hq
                cases hq
                rwa [show j = i by omega]
            · by_cases hk : k < ps.length
              · rw [List.getElem?_append_left hk] at hp'
                rw [List.getElem?_append_left (by omega)] at hq
                exact hok j k q p' hjk hq hp'
              · rw [List.getElem?_append_right (by omega)] at hp'
                have e0 : k - ps.length = 0 := by have := (List.getElem?_eq_some_iff.mp hp').1; rw [List.length_singleton] at this; omega
                rw [e0] at hp'
                cases hp'
                rw [List.getElem?_append_left (by omega)] at hq
                rw [show k = i by omega]
                exact hg2 j q hq
          | false =>
            (try simp? only [true_and])
            refine congrArg D.bl (tr_false ?_).symm
            rintro ⟨qs, e, hp2⟩
            cases e
            have : goesF s ps i p = true := goes_iff.mpr fun k q hq => by
              rw [htk qs rfl, List.getElem?_take] at hq
              split at hq
              · rename_i hki
                obtain ⟨p', hp', e⟩ := map_at_encP hx
                cases encP_inj e
                exact hp2.ok k i q p hki hq hp'
              · cases hq
            rw [this] at hg
            cases hg
      · rintro e st ⟨x3, x4, ps, rfl, rfl, ht, hway, hok⟩
        rw [enum_len, List.take_length] at ht
        refine ⟨trivial, rfl, ?_⟩
        congr 1
        symm
        exact tr_true ⟨ps, by rw [ht]; rfl, by rw [← hl, ht, List.length_map], hway, hok⟩
    · have e1 : (!((ds.length : Int) == (s.works.length : Int))) = true := by
        rw [Bool.not_eq_true', beq_eq_false_iff_ne]; omega
      simp? only [e1]
      congr 1
      symm
      refine tr_false ?_
      rintro ⟨ps, e, hp⟩
      cases e
      have := hp.len
      rw [List.length_map] at hl
      exact hl this
  | ref n => simp [D.blw] at hb
  | fn => simp [D.blw] at hb
  | exc => simp [D.blw] at hb
  | _ =>
    simp? only [D.isa, D.ty]
    congr 1
    symm
    exact tr_false fun ⟨ps, e, _⟩ => by simp [encR] at e
section
variable {st : Sto} {Q : DK} {u : Ws}
theorem ws_ix0 : dIx u.d (.int 0) st Q = Q (.int u.work) st := by unfold Ws.d; rw [v_ixT]; simp only [at0, v_some]
theorem ws_ix1 : dIx u.d (.int 1) st Q = Q (.int u.kind) st := by unfold Ws.d; rw [v_ixT]; simp only [at1, v_some]
theorem ws_ix2 : dIx u.d (.int 2) st Q = Q (.int u.day) st := by unfold Ws.d; rw [v_ixT]; simp only [at2, v_some]
theorem ws_ix3 : dIx u.d (.int 3) st Q = Q (.int u.weight) st := by unfold Ws.d; rw [v_ixT]; simp only [at3, v_some]
theorem ws_ix4 : dIx u.d (.int 4) st Q = Q (.int u.rank) st := by unfold Ws.d; rw [v_ixT]; simp only [at4, v_some]
end
def keptF (s : Sy) (u : Ws) (p : P2) : Bool := if (u.kind == 0) = true then decide (u.day ≤ p.1) else decide (p.1 + (wkAt s u.work.toNat).len ≤ u.day)
theorem wk_of {s : Sy} {u : Ws} {d : Int} (h : u.Ok s.works.length d) : atI s.works u.work = some (wkAt s u.work.toNat) := by
  have := h.work
  have e := wk_at (s := s) (i := u.work.toNat) (by omega)
  rwa [Int.toNat_of_nonneg this.1] at e
def wayOf (ps : List P2) (u : Ws) : P2 := (ps[u.work.toNat]?).getD (0, 0)
theorem way_ix {s : Sy} {u : Ws} {d : Int} {ps : List P2} (h : u.Ok s.works.length d) (hl : ps.length = s.works.length) : atI (ps.map encP) u.work = some (encP (wayOf ps u)) := by
  have := h.work
  refine atI_map ?_
  unfold atI ixN wayOf
  rw [if_pos this.1, if_pos (by omega)]
  show ps[u.work.toNat]? = _
  rw [List.getElem?_eq_getElem (by omega)]
  rfl
def w_f_law_kept : DS := wSeq (wIf (wTest (wOp dEq (wOp dIx (wVar 1) (wC (.int 1))) (wC (.int 0)))) (wRet (wOp dGe (wOp dIx (wVar 2) (wC (.int 0))) (wOp dIx (wVar 1) (wC (.int 2))))) ((fun D env st => D.nx env st))) (wRet (wOp dLe (wOp dAdd (wOp dIx (wVar 2) (wC (.int 0))) (wOp dIx (wOp dIx (wOp dIx (wVar 0) (wC (.int 2))) (wOp dIx (wVar 1) (wC (.int 0)))) (wC (.int 0)))) (wOp dIx (wVar 1) (wC (.int 2)))))
def S_f_law_kept : DL.Spec := pureS 3 (fun x : Sy × Ws × P2 => [x.1.d, x.2.1.d, encP x.2.2]) (fun x => x.2.1.Ok x.1.works.length x.1.days) (fun x => .bl (keptF x.1 x.2.1 x.2.2))
theorem vc_f_law_kept : ∀ g sto, (S_f_law_kept.args g).length = S_f_law_kept.n → S_f_law_kept.pre g sto → w_f_law_kept (bodyEnds (S_f_law_kept.post g sto)) (startE ["_law_system", "_law_wish_here", "_law_way"] (S_f_law_kept.args g)) sto := by
  rintro ⟨s, u, p⟩ sto _ (hu : u.Ok s.works.length s.days)
  simp? only [w_f_law_kept, S_f_law_kept, pureS, ws_ix0, ws_ix1, ws_ix2, p_ix0]
  cases h : u.kind == 0 with
  | true => simp? only [keptF, h]
  | false =>
    (try simp? only [true_and])
    refine ⟨_, atI_map (wk_of hu), ?_⟩
    simp? only [keptF, h]
theorem cut_last {α : Type} (xs : List α) : cutL xs none (some (-1)) = xs.dropLast := by
  have e : HT.sIx xs.length xs.length (some (-1)) = xs.length - 1 := by
    show (if (-1 : Int) < 0 then ((-1 : Int) + (xs.length : Int)).toNat else min (-1 : Int).toNat xs.length) = xs.length - 1
    rw [if_pos (by decide)]
    omega
  unfold cutL
  rw [show HT.sIx xs.length 0 none = 0 from rfl, e, List.drop_zero, Nat.sub_zero, List.dropLast_eq_take]
theorem len_blk : ∀ ds : List D, ds.length ≤ D.blkL ds
  | [] => Nat.zero_le _
  | d :: r => by simp only [D.blkL, List.length_cons]; have := len_blk r; omega
theorem item_blk : ∀ {ds : List D} {d : D}, d ∈ ds → d.blk ≤ D.blkL ds
  | [], _, h => by cases h
  | x :: r, d, h => by
    simp only [D.blkL]
    rcases List.mem_cons.mp h with rfl | h
    · omega
    · have := item_blk h; omega
structure Any (d : D) : Prop where
  blw : d.blw 0 = true
  blk : d.blk ≤ 1000000
theorem Any.noRef {d : D} (h : Any d) : d.noRef := noRef_of h.blw
theorem Any.item {ds : List D} (h : Any (.tup ds)) {d : D} (hd : d ∈ ds) : Any d := ⟨blw_items h.blw d hd, by have := item_blk hd; have h2 := h.blk; simp only [D.blk] at h2; omega⟩
theorem Any.len {ds : List D} (h : Any (.tup ds)) : ds.length ≤ 1000000 := by have := len_blk ds; have h2 := h.blk; simp only [D.blk] at h2; omega
theorem isa_tup {d : D} : (∃ ds, d = .tup ds) ∨ (d.isa "tuple" = false ∧ ∀ ds, d ≠ .tup ds) := by
  cases d with
  | tup ds => exact .inl ⟨ds, rfl⟩
  | _ => exact .inr ⟨rfl, fun ds h => nomatch h⟩
theorem isa_tupT {ds : List D} : D.isa "tuple" (.tup ds) = true := rfl
theorem fromF_iff {d : D} {a b : Int} : fromF d a b = true ↔ ∃ i, d = .int i ∧ a ≤ i ∧ i ≤ b := by
  cases d with
  | int i =>
    simp only [fromF]
    by_cases h : a ≤ i
    · rw [if_pos h, decide_eq_true_iff]
      exact ⟨fun h2 => ⟨i, rfl, h, h2⟩, fun ⟨j, e, _, h2⟩ => by cases e; exact h2⟩
    · rw [if_neg h]
      exact ⟨fun h => (nomatch h), fun ⟨j, e, h2, _⟩ => by cases e; exact absurd h2 h⟩
  | _ => exact ⟨fun h => (nomatch h), fun ⟨j, e, _⟩ => nomatch e⟩
theorem blwL_rows (n : Nat) : ∀ rs : List (List Int), D.blwL n (rs.map dInts) = true
  | [] => rfl
  | r :: rs => by rw [List.map_cons]; simp only [D.blwL, dInts, D.blw, blwL_ints, blwL_rows n rs, Bool.and_self]
theorem blw_wk (n : Nat) (w : Wk) : w.d.blw n = true := by simp only [Wk.d, dInts, D.blw, D.blwL, blwL_ints, Bool.and_self]
theorem blw_ws (n : Nat) (w : Ws) : w.d.blw n = true := by simp only [Ws.d, D.blw, D.blwL, Bool.and_self]
theorem blwL_of {n : Nat} : ∀ {ds : List D}, (∀ d ∈ ds, d.blw n = true) → D.blwL n ds = true
  | [], _ => rfl
  | d :: r, h => by simp only [D.blwL, h d List.mem_cons_self, blwL_of fun x hx => h x (List.mem_cons_of_mem _ hx), Bool.and_self]
theorem blwL_works (n : Nat) (ws : List Wk) : D.blwL n (ws.map Wk.d) = true := blwL_of fun d hd => by
  obtain ⟨w, _, rfl⟩ := List.mem_map.mp hd; exact blw_wk n w
theorem blwL_wishes (n : Nat) (ws : List Ws) : D.blwL n (ws.map Ws.d) = true := blwL_of fun d hd => by
  obtain ⟨w, _, rfl⟩ := List.mem_map.mp hd; exact blw_ws n w
theorem blw_sy (n : Nat) (s : Sy) : s.d.blw n = true := by simp only [Sy.d, D.blw, D.blwL, blwL_rows, blwL_works, blwL_wishes, Bool.and_self]
structure EvOk (s : Sy) : Prop where
  s30 : S30 s
  one : ∀ u ∈ s.wishes, u.kind = 1
def lenA (s : Sy) : Int := (wkAt s 0).len
def roomF (s : Sy) (day : Int) : Int := s.hands.length * (day / lenA s)
def lowF (a b : Ws) : Bool := if a.rank < b.rank then true else (if (a.rank == b.rank) = true then decide (b.weight ≤ a.weight) else false)
def kpF (s : Sy) (ps : List P2) (u : Ws) : Bool := keptF s u (wayOf ps u)
def kpL (s : Sy) (ps : List P2) : List Ws := s.wishes.filter (kpF s ps)
def leftL (s : Sy) (ps : List P2) : List Nat := (s.wishes.zipIdx.filter fun x => !kpF s ps x.1).map (·.2)
def cntF (ks : List Ws) (u : Ws) (day : Int) : Nat := (ks.filter fun a => if lowF a u = true then decide (a.day ≤ day) else false).length
def wsAt (s : Sy) (k : Nat) : Ws := (s.wishes[k]?).getD ⟨0, 0, 0, 0, 0⟩
def dayOkF (s : Sy) (ks : List Ws) (k : Nat) (day : Int) : Bool := ((cntF ks (wsAt s k) day : Nat) : Int) == roomF s day
def pairD (s : Sy) (ks : List Ws) (k : Nat) : D → Bool
  | .tup [a, b] => if fromF a k k = true then (if fromF b (wsAt s k).day s.days = true then (match b with
    | .int day => dayOkF s ks k day
    | _ => false) else false) else false
  | _ => false
theorem ws_at {s : Sy} {k : Nat} (h : k < s.wishes.length) : atI s.wishes (k : Int) = some (wsAt s k) ∧ wsAt s k ∈ s.wishes := by
  have e : s.wishes[k]? = some (wsAt s k) := by unfold wsAt; rw [List.getElem?_eq_getElem h]; rfl
  exact ⟨atI_of (by omega) (by rw [Int.toNat_natCast]; exact e), List.mem_of_getElem? e⟩
theorem dIn_ints {i : Int} {ns : List Int} {f : Bool → Bool} {st : Sto} {Q : DK} (q : Q (.bl (f (ns.any (· == i)))) st) : dInB f (.int i) (.lst (ns.map .int)) st Q :=
  ⟨ns.map .int, .inl rfl, rfl, okL_ints ns, by rw [depL_ints]; exact Nat.zero_le _, by rw [← any_ints] at q; exact q⟩
def w_p_room_up_to : DS := wRet (wOp dMul (wCB bLen (wCons (wOp dIx (wVar 0) (wC (.int 1))) (wNil))) (wOp dFdiv (wVar 1) (wOp dIx (wOp dIx (wOp dIx (wVar 0) (wC (.int 2))) (wC (.int 0))) (wC (.int 0)))))
def S_p_room_up_to : DL.Spec := pureS 2 (fun x : Sy × Int => [x.1.d, .int x.2]) (fun x => S30 x.1 ∧ 0 < x.1.works.length ∧ 0 ≤ x.2 ∧ x.2 ≤ 1000) (fun x => .int (roomF x.1 x.2))
theorem lenA_pos {s : Sy} (hs : S30 s) (h : 0 < s.works.length) : 0 < lenA s ∧ lenA s ≤ 900 := by
  have := (hs.work 0 _ (wk_get h)).len
  unfold lenA
  omega
theorem div_le {a b : Int} (h : 0 ≤ a) (hb : 0 < b) : 0 ≤ a / b ∧ a / b ≤ a := ⟨Int.ediv_nonneg h (by omega), Int.ediv_le_self _ h⟩
theorem vc_p_room_up_to : ∀ g sto, (S_p_room_up_to.args g).length = S_p_room_up_to.n → S_p_room_up_to.pre g sto → w_p_room_up_to (bodyEnds (S_p_room_up_to.post g sto)) (startE ["system", "day"] (S_p_room_up_to.args g)) sto := by
  rintro ⟨s, day⟩ sto _ ⟨hs, hw, h0, h1⟩
  dsimp only at hs hw h0 h1
  have hl := lenA_pos hs hw
  have hh := hs.hands
  have hd := div_le h0 hl.1
  have hat : atI s.works 0 = some (wkAt s 0) := wk_at (i := 0) hw
  simp? only [w_p_room_up_to, S_p_room_up_to, pureS, atI_map hat]
  unfold lenA at hl hd
  refine ⟨⟨by omega, by omega⟩, .inl ⟨by omega, by omega⟩, rfl⟩
def w_f_law_room : DS := wRet (wOp dMul (wCB bLen (wCons (wOp dIx (wVar 0) (wC (.int 1))) (wNil))) (wOp dFdiv (wVar 1) (wOp dIx (wOp dIx (wOp dIx (wVar 0) (wC (.int 2))) (wC (.int 0))) (wC (.int 0)))))
def S_f_law_room : DL.Spec := pureS 2 (fun x : Sy × Int => [x.1.d, .int x.2]) (fun x => S30 x.1 ∧ 0 < x.1.works.length ∧ 0 ≤ x.2 ∧ x.2 ≤ 1000) (fun x => .int (roomF x.1 x.2))
theorem vc_f_law_room : ∀ g sto, (S_f_law_room.args g).length = S_f_law_room.n → S_f_law_room.pre g sto → w_f_law_room (bodyEnds (S_f_law_room.post g sto)) (startE ["_law_system", "_law_day"] (S_f_law_room.args g)) sto := fun g sto a b => vc_p_room_up_to g sto a b
def w_p_is_no_lower : DS := wRet (wOrV (wOp dLt (wOp dIx (wVar 0) (wC (.int 4))) (wOp dIx (wVar 1) (wC (.int 4)))) (wAndV (wOp dEq (wOp dIx (wVar 0) (wC (.int 4))) (wOp dIx (wVar 1) (wC (.int 4)))) (wOp dGe (wOp dIx (wVar 0) (wC (.int 3))) (wOp dIx (wVar 1) (wC (.int 3))))))
def S_p_is_no_lower : DL.Spec := pureS 2 (fun x : Ws × Ws => [x.1.d, x.2.d]) (fun _ => True) (fun x => .bl (lowF x.1 x.2))
theorem vc_p_is_no_lower : ∀ g sto, (S_p_is_no_lower.args g).length = S_p_is_no_lower.n → S_p_is_no_lower.pre g sto → w_p_is_no_lower (bodyEnds (S_p_is_no_lower.post g sto)) (startE ["wish", "other"] (S_p_is_no_lower.args g)) sto := by
  rintro ⟨a, b⟩ sto _ _
  simp? only [w_p_is_no_lower, S_p_is_no_lower, pureS, ws_ix3, ws_ix4]
  unfold lowF
  by_cases h : a.rank < b.rank
  · simp? only [h]
  · simp? only [h]
    cases h2 : a.rank == b.rank with
    | true => simp? only [h2]
    | false => simp? only [h2]
def w_p_holds_full_1 : DT := wAnd (wTest (wCall S_p_is_no_lower (wCons (wVar 6) (wCons (wVar 4) (wNil))))) (wTest (wOp dLe (wOp dIx (wVar 6) (wC (.int 2))) (wVar 5)))
def w_p_holds_full : DS := wSeq (wAsg (wOp dIx (wOp dIx (wVar 0) (wC (.int 3))) (wVar 2)) (gNm 4)) (wSeq (wIf (wOr (wNot (wTest (wIsi "tuple" (wVar 3)))) (wOr (wTest (wOp dNe (wCB bLen (wCons (wVar 3) (wNil))) (wC (.int 2)))) (wNot (wTest (wCall S_p_is_from (wCons (wOp dIx (wVar 3) (wC (.int 0))) (wCons (wVar 2) (wCons (wVar 2) (wNil))))))))) (wRet (wC (.bl false))) ((fun D env st => D.nx env st))) (wSeq (wAsg (wOp dIx (wVar 3) (wC (.int 1))) (gNm 5)) (wSeq (wIf (wNot (wTest (wCall S_p_is_from (wCons (wVar 5) (wCons (wOp dIx (wVar 4) (wC (.int 2))) (wCons (wOp dIx (wVar 0) (wC (.int 0))) (wNil))))))) (wRet (wC (.bl false))) ((fun D env st => D.nx env st))) (wRet (wOp dEq (wCB bLen (wCons (wComp false (iSeq (wVar 1)) (.nm 6) w_p_holds_full_1 (wVar 6) [6]) (wNil))) (wCall S_p_room_up_to (wCons (wVar 0) (wCons (wVar 5) (wNil)))))))))
def S_p_holds_full : DL.Spec := pureS 4 (fun x : Sy × List Ws × Nat × D => [x.1.d, .lst (x.2.1.map Ws.d), .int x.2.2.1, x.2.2.2]) (fun x => S30 x.1 ∧ x.2.1.length ≤ 1000 ∧ x.2.2.1 < x.1.wishes.length ∧ x.2.2.2.blw 0 = true) (fun x => .bl (pairD x.1 x.2.1 x.2.2.1 x.2.2.2))
theorem vc_p_holds_full : ∀ g sto, (S_p_holds_full.args g).length = S_p_holds_full.n → S_p_holds_full.pre g sto → w_p_holds_full (bodyEnds (S_p_holds_full.post g sto)) (startE ["system", "kept", "place", "pair", "wish", "day", "one"] (S_p_holds_full.args g)) sto := by
  rintro ⟨s, ks, k, d⟩ sto _ ⟨hs, hks, hk, hd⟩
  dsimp only at hs hks hk hd
  obtain ⟨hat, hmem⟩ := ws_at hk
  have hu := hs.wish _ hmem
  have hdays := hs.days
  have huw := hu.work
  simp? only [w_p_holds_full, S_p_holds_full, pureS, atI_map hat, wComp, wipeE]
  refine ⟨noRef_of hd, ?_⟩
  rcases isa_tup (d := d) with ⟨ds, rfl⟩ | ⟨h1, h2⟩
  · simp? only [isa_tupT]
    by_cases hl : ds.length = 2
    · obtain ⟨a, b, rfl⟩ : ∃ a b, ds = [a, b] := by
        match ds, hl with
        | [a, b], _ => exact ⟨a, b, rfl⟩
      have ha := noRef_of (blw_items hd a (by simp))
      have hb := noRef_of (blw_items hd b (by simp))
      have e2 : (((2 : Nat) : Int) == 2) = true := rfl
      simp? only [List.length_cons, List.length_nil]
      rw [if_neg (by simp)]
      refine use_pure (a, (k : Int), (k : Int)) rfl rfl ha ?_
      dsimp only
      cases h3 : fromF a k k with
      | false => simp? only [pairD, h3]
      | true =>
        simp? only [ws_ix2]
        refine use_pure (b, (wsAt s k).day, s.days) rfl rfl hb ?_
        dsimp only
        cases h4 : fromF b (wsAt s k).day s.days with
        | false => simp? only [pairD, h3, h4]
        | true =>
          obtain ⟨day, rfl, h5, h6⟩ := fromF_iff.mp h4
          have hdd := hu.day
          simp? only [ws_ix2, List.length_map]
          refine ⟨by rw [sizeLine_eq]; omega, ?_⟩
          refine compL_flt Ws.d (fun a => if lowF a (wsAt s k) = true then decide (a.day ≤ day) else false) id Ws.d trivial _ (fun x hx R hR => ?_) ?_
          · simp? only [Tg.dg, w_p_holds_full_1, ws_ix2]
            refine use_pure (x, wsAt s k) rfl rfl trivial ?_
            dsimp only
            cases h7 : lowF x (wsAt s k) with
            | true =>
              simp? only [h7] at hR ⊢
              exact hR
            | false =>
              simp? only [h7] at hR ⊢
              exact hR
          · rw [List.map_id]
            (try simp? only [true_and])
            refine use_pure (s, day) rfl rfl ⟨hs, by show 0 < s.works.length; omega, by show 0 ≤ day; omega, by show day ≤ 1000; omega⟩ ?_
            (try simp? only [true_and])
            simp? only [pairD, h3, h4, dayOkF, cntF]
    · have e2 : (((ds.length : Nat) : Int) == 2) = false := by rw [beq_eq_false_iff_ne]; omega
      have e3 : pairD s ks k (.tup ds) = false := by
        match ds, hl with
        | [], _ => rfl
        | [_], _ => rfl
        | [a, b], h => exact absurd rfl h
        | _ :: _ :: _ :: _, _ => rfl
      simp? only [e2, e3]
  · have e : pairD s ks k d = false := by
      cases d with
      | tup ds => exact absurd rfl (h2 ds)
      | _ => rfl
    simp? only [h1, e]
def w_f_law_even_wish : DS := wSeq (wAsg (wOp dIx (wLst false (wCons (wC (.int 1)) (wCons (wC (.int 2)) (wCons (wC (.int 4)) (wNil))))) (wOp dMod (wCall S_f_law_next (wCons (wVar 0) (wNil))) (wC (.int 3)))) (gNm 3)) (wSeq (wAsg (wOp dIx (wLst false (wCons (wOp dAdd (wC (.int 1)) (wOp dMod (wCall S_f_law_next (wCons (wVar 0) (wNil))) (wC (.int 3)))) (wCons (wOp dAdd (wC (.int 1)) (wOp dMod (wCall S_f_law_next (wCons (wVar 0) (wNil))) (wC (.int 100)))) (wNil)))) (wOp dMod (wCall S_f_law_next (wCons (wVar 0) (wNil))) (wC (.int 2)))) (gNm 4)) (wRet (wTup (wCons (wVar 1) (wCons (wC (.int 1)) (wCons (wOp dMod (wCall S_f_law_next (wCons (wVar 0) (wNil))) (wOp dAdd (wVar 2) (wC (.int 1)))) (wCons (wVar 4) (wCons (wOp dMod (wCall S_f_law_next (wCons (wVar 0) (wNil))) (wVar 3)) (wNil)))))))))
def S_f_law_even_wish : DL.Spec := deckS 3 10 (fun x : Int × Int => [.int x.1, .int x.2]) (fun x => 0 ≤ x.2) fun x d => ∃ u : Ws, d = u.d ∧ u.work = x.1 ∧ u.kind = 1 ∧ (0 ≤ u.day ∧ u.day ≤ x.2) ∧ (1 ≤ u.weight ∧ u.weight ≤ 100) ∧ (0 ≤ u.rank ∧ u.rank ≤ 3)
theorem vc_f_law_even_wish : ∀ g sto, (S_f_law_even_wish.args g).length = S_f_law_even_wish.n → S_f_law_even_wish.pre g sto → w_f_law_even_wish (bodyEnds (S_f_law_even_wish.post g sto)) (startE ["_law_deck_here", "_law_work", "_law_days", "_law_ranks", "_law_weight"] (S_f_law_even_wish.args g)) sto := by
  rintro ⟨rest, B, n, h⟩ sto _ ⟨hD, hB, h0⟩
  dsimp only at hD hB h0
  have z2 : 2 ≤ sizeLine := by decide
  have z3 : 3 ≤ sizeLine := by decide
  have z5 : 5 ≤ sizeLine := by decide
  simp? only [w_f_law_even_wish, S_f_law_even_wish, deckS]
  refine ⟨z3, next_use hD (by omega) fun x1 st1 a1 b1 hD => ?_⟩
  obtain ⟨p, hp, hp2⟩ := pk3 (a := 1) (b := 2) (c := 4) (x := x1)
  simp? only [hp]
  refine ⟨by decide, next_use hD (by omega) fun x2 st2 a2 b2 hD => ?_⟩
  (try simp? only [true_and])
  refine ⟨by decide, next_use hD (by omega) fun x3 st3 a3 b3 hD => ?_⟩
  (try simp? only [true_and])
  refine ⟨by decide, z2, next_use hD (by omega) fun x4 st4 a4 b4 hD => ?_⟩
  obtain ⟨q, hq, hq2⟩ := pk2 (a := 1 + x2 % 3) (b := 1 + x3 % 100) (x := x4)
  have hq0 : 1 ≤ q ∧ q ≤ 100 := by omega
  simp? only [hq]
  refine ⟨by decide, next_use hD (by omega) fun x5 st5 a5 b5 hD => ?_⟩
  have m5 := modb x5 (show (0 : Int) < h + 1 by omega)
  (try simp? only [true_and])
  refine ⟨by omega, next_use hD (by omega) fun x6 st6 a6 b6 hD => ?_⟩
  have m6 := modb x6 (show (0 : Int) < p by omega)
  (try simp? only [true_and])
  exact ⟨by omega, z5, ⟨⟨n, 1, x5 % (h + 1), q, x6 % p⟩, rfl, rfl, rfl, ⟨m5.1, by show x5 % (h + 1) ≤ h; omega⟩, hq0, m6.1, by show x6 % p ≤ 3; omega⟩, hD.mono (by omega)⟩
def w_f_law_even_1 : DS := wIf (wTest (wOp dGt (wOp dMod (wCall S_f_law_next (wCons (wVar 0) (wNil))) (wC (.int 5))) (wC (.int 0)))) (wDrop (wM mAppend (wVar 11) (wCons (wCall S_f_law_even_wish (wCons (wVar 0) (wCons (wOp dMod (wOp dAdd (wOp dMul (wVar 12) (wOp dIx (wLst false (wCons (wC (.int 1)) (wCons (wOp dSub (wVar 9) (wC (.int 1))) (wNil)))) (wOp dMod (wVar 10) (wC (.int 2))))) (wVar 10)) (wVar 9)) (wCons (wVar 5) (wNil))))) (wNil)))) ((fun D env st => D.nx env st))
def w_f_law_even : DS := wSeq (wAsg (wOp dAdd (wC (.int 1)) (wOp dMod (wCall S_f_law_next (wCons (wVar 0) (wNil))) (wVar 1))) (gNm 5)) (wSeq (wAsg (wRgT1 (wOp dAdd (wC (.int 1)) (wOp dMod (wCall S_f_law_next (wCons (wVar 0) (wNil))) (wVar 2)))) (gNm 6)) (wSeq (wAsg (wOp dAdd (wC (.int 1)) (wOp dMod (wCall S_f_law_next (wCons (wVar 0) (wNil))) (wVar 4))) (gNm 7)) (wSeq (wAsg (wOp dMul (wCB bLen (wCons (wVar 6) (wNil))) (wOp dFdiv (wVar 5) (wVar 7))) (gNm 8)) (wSeq (wAsg (wCB bMin2 (wCons (wVar 3) (wCons (wOp dIx (wLst false (wCons (wVar 8) (wCons (wOp dMod (wCall S_f_law_next (wCons (wVar 0) (wNil))) (wOp dAdd (wVar 8) (wC (.int 1)))) (wCons (wOp dAdd (wVar 8) (wC (.int 1))) (wNil))))) (wOp dIx (wLst false (wCons (wC (.int 0)) (wCons (wC (.int 1)) (wCons (wC (.int 0)) (wCons (wC (.int 1)) (wCons (wC (.int 0)) (wCons (wC (.int 2)) (wNil)))))))) (wOp dMod (wCall S_f_law_next (wCons (wVar 0) (wNil))) (wC (.int 6))))) (wNil)))) (gNm 9)) (wSeq (wAsg (wCall S_f_law_next (wCons (wVar 0) (wNil))) (gNm 10)) (wSeq (wAsg (wLst true (wNil)) (gNm 11)) (wSeq (wFor (iRange1 (wCons (wVar 9) (wNil))) (gNm 12) w_f_law_even_1) (wRet (wTup (wCons (wVar 5) (wCons (wOp dMul (wTup (wCons (wTup (wNil)) (wNil))) (wCB bLen (wCons (wVar 6) (wNil)))) (wCons (wOp dMul (wTup (wCons (wTup (wCons (wVar 7) (wCons (wTup (wNil)) (wCons (wVar 6) (wNil))))) (wNil))) (wVar 9)) (wCons (wCB bTuple (wCons (wVar 11) (wNil))) (wNil))))))))))))))
structure EvSy (s : Sy) : Prop where
  hands : ∀ r ∈ s.hands, r = []
  works : ∃ l, ∀ w ∈ s.works, w = ⟨l, [], rangeI 0 s.hands.length⟩
  kind : ∀ u ∈ s.wishes, u.kind = 1
  nd : (s.wishes.map (·.work)).Nodup
theorem turn_ne {n v x i k : Int} (hv : v = 1 ∨ v = n - 1) (h0 : 0 ≤ k) (h1 : k < i) (h2 : i < n) : (i * v + x) % n ≠ (k * v + x) % n := by
  intro e
  have h3 := Int.emod_emod_of_dvd (i * v + x) (Int.dvd_refl n)
  have d1 : n ∣ (i * v + x) - (k * v + x) := Int.dvd_of_emod_eq_zero (by rw [Int.sub_emod, e, Int.sub_self, Int.zero_emod])
  have d2 : n ∣ i - k := by
    rcases hv with hv | hv
    · subst hv
      rw [show i * 1 + x - (k * 1 + x) = i - k by omega] at d1
      exact d1
    · subst hv
      have e2 : i * (n - 1) + x - (k * (n - 1) + x) = n * (i - k) - (i - k) := by
        rw [Int.mul_sub, Int.mul_sub, Int.mul_sub, Int.mul_comm n i, Int.mul_comm n k]
        omega
      rw [e2] at d1
      have := Int.dvd_sub (Int.dvd_mul_right n (i - k)) d1
      rwa [show n * (i - k) - (n * (i - k) - (i - k)) = i - k by omega] at this
  have := Int.le_of_dvd (by omega) d2
  omega
def S_f_law_even : DL.Spec := deckS 5 1000 (fun x : Int × Int × Int × Int => [.int x.1, .int x.2.1, .int x.2.2.1, .int x.2.2.2]) (fun x => (1 ≤ x.1 ∧ x.1 ≤ 30) ∧ (1 ≤ x.2.1 ∧ x.2.1 ≤ 5) ∧ (0 ≤ x.2.2.1 ∧ x.2.2.1 ≤ 12) ∧ (1 ≤ x.2.2.2 ∧ x.2.2.2 ≤ 10)) fun x d => ∃ s : Sy, d = s.d ∧ s.Ok x.1 x.2.1 x.2.2.1 x.2.2.2 12 ∧ EvSy s
theorem row_range (n : Nat) : Row n (rangeI 0 n) := by
  unfold rangeI Row
  refine ⟨?_, fun x hx => ?_⟩
  · rw [List.pairwise_map]
    exact List.pairwise_lt_range.imp fun h => by omega
  · obtain ⟨i, hi, rfl⟩ := List.mem_map.mp hx
    rw [List.mem_range] at hi
    omega
theorem vc_f_law_even : ∀ g sto, (S_f_law_even.args g).length = S_f_law_even.n → S_f_law_even.pre g sto → w_f_law_even (bodyEnds (popEnds sto.length sto (S_f_law_even.post g sto))) (startE ["_law_deck_here", "_law_days", "_law_hands", "_law_works", "_law_length", "_law_many", "_law_able", "_law_size", "_law_room", "_law_count", "_law_turn", "_law_wishes", "_law_k"] (S_f_law_even.args g)) sto := by
  rintro ⟨rest, B, a, b, c, l⟩ sto _ ⟨hD, hB, ha, hb, hc, hl⟩
  have hD0 := hD
  dsimp only at hD0 hD hB ha hb hc hl
  have z1 : 1 ≤ sizeLine := by decide
  have z2 : 2 ≤ sizeLine := by decide
  have z3 : 3 ≤ sizeLine := by decide
  have z4 : 4 ≤ sizeLine := by decide
  have z6 : 6 ≤ sizeLine := by decide
  simp? only [w_f_law_even, S_f_law_even, deckS, wFor]
  refine next_use hD (by omega) fun x1 st1 a1 b1 hD => ?_
  have m1 := modb x1 (show (0 : Int) < a by omega)
  (try simp? only [true_and])
  obtain ⟨dd, ed⟩ : ∃ dd, dd = 1 + x1 % a := ⟨_, rfl⟩
  simp only [← ed]
  refine ⟨by omega, next_use hD (by omega) fun x2 st2 a2 b2 hD => ?_⟩
  have m2 := modb x2 (show (0 : Int) < b by omega)
  (try simp? only [true_and])
  obtain ⟨h, eh⟩ : ∃ h : Nat, 1 + x2 % b = (h : Int) := ⟨(1 + x2 % b).toNat, by omega⟩
  have erg : rgD 0 (h : Int) = (rangeI 0 h).map D.int := by unfold rgD rangeI; rw [List.map_map, Int.sub_zero, Int.toNat_natCast]; rfl
  have erl : (rangeI 0 h).length = h := by unfold rangeI; rw [List.length_map, List.length_range]
  rw [eh, erg]
  refine ⟨by omega, ⟨by decide, by decide, by omega, by omega⟩, next_use hD (by omega) fun x3 st3 a3 b3 hD => ?_⟩
  have m3 := modb x3 (show (0 : Int) < l by omega)
  (try simp? only [true_and])
  obtain ⟨z, ez⟩ : ∃ z, z = 1 + x3 % l := ⟨_, rfl⟩
  simp only [← ez, erl]
  have hdv : 0 ≤ dd / z ∧ dd / z ≤ dd := ⟨Int.ediv_nonneg (by omega) (by omega), Int.ediv_le_self _ (by omega)⟩
  obtain ⟨rm, er⟩ : ∃ rm, rm = (h : Int) * (dd / z) := ⟨_, rfl⟩
  have hrm : 0 ≤ rm ∧ rm ≤ 150 := by
    rw [er]
    have : (h : Int) * (dd / z) ≤ 5 * 30 := Int.mul_le_mul (by omega) (by omega) (by omega) (by omega)
    exact ⟨Int.mul_nonneg (by omega) hdv.1, by omega⟩
  simp only [← er]
  refine ⟨by omega, ⟨by omega, by omega⟩, .inl ⟨by omega, by omega⟩, next_use hD (by omega) fun x4 st4 a4 b4 hD => ?_⟩
  have m4 := modb x4 (show (0 : Int) < rm + 1 by omega)
  (try simp? only [true_and])
  refine ⟨by omega, z3, z6, next_use hD (by omega) fun x5 st5 a5 b5 hD => ?_⟩
  (try simp? only [true_and])
  have hk : ∃ k : Int, atI [D.int 0, .int 1, .int 0, .int 1, .int 0, .int 2] (x5 % 6) = some (.int k) ∧ 0 ≤ k ∧ k < 3 := by
    obtain ⟨k, h1, h2⟩ := pickI (ns := [0, 1, 0, 1, 0, 2]) (i := x5 % 6) (by omega) (by simp; omega)
    refine ⟨k, h1, ?_⟩
    simp only [List.mem_cons, List.not_mem_nil, or_false] at h2
    omega
  obtain ⟨k, hk, hk0, hk3⟩ := hk
  obtain ⟨cv, hcv, hcv2⟩ := pickI (ns := [rm, x4 % (rm + 1), rm + 1]) (i := k) hk0 (by simp; omega)
  have hcv0 : 0 ≤ cv := by
    simp only [List.mem_cons, List.not_mem_nil, or_false] at hcv2
    omega
  simp only [List.map_cons, List.map_nil] at hcv
  simp? only [hk, hcv]
  obtain ⟨n, en⟩ : ∃ n : Nat, (if cv < c then cv else c) = (n : Int) := ⟨(if cv < c then cv else c).toNat, by split <;> omega⟩
  rw [en]
  have hn : (n : Int) ≤ c := by rw [← en]; split <;> omega
  refine ⟨by decide, next_use hD (by omega) fun x6 st6 a6 b6 hD => ?_⟩
  (try simp? only [true_and])
  refine ⟨Nat.zero_le _, ⟨by omega, by omega⟩, ?_⟩
  rw [Int.toNat_natCast, hD.len]
  obtain ⟨v, hv, hv2⟩ := pk2 (a := 1) (b := (n : Int) - 1) (x := x6)
  refine forL_inv (fun i e st => ∃ x12 us, e = [some (.ref 2), some (.int a), some (.int b), some (.int c), some (.int l), some (.int dd), some (.tup ((rangeI 0 h).map D.int)), some (.int z), some (.int rm), some (.int n), some (.int x6), some (.ref (rest.length + 3)), x12] ∧ List.length us ≤ i ∧ ((∀ u ∈ us, Ws.Ok u n dd ∧ u.kind = 1) ∧ (us.map (·.work)).Nodup ∧ ∀ u ∈ us, ∃ k : Nat, k < i ∧ u.work = ((k : Int) * v + x6) % n) ∧ Dk (B + 10 + i * 20) (rest ++ [.lst (us.map Ws.d)]) st) ?_ ?_ _ _ ⟨_, [], rfl, Nat.zero_le _, ⟨(fun _ h => nomatch h), List.nodup_nil, (fun _ h => nomatch h)⟩, hD.push.mono (by omega)⟩
  · rintro i e st d ⟨x12, us, rfl, hul, ⟨hus, hnd, huk⟩, hD⟩ he R hR
    obtain ⟨hi, rfl⟩ := rangeD_at he
    refine ⟨trivial, ?_⟩
    simp? only [w_f_law_even_1]
    refine next_use hD (by omega) fun y st y0 y1 hD => ?_
    (try simp? only [true_and])
    refine ⟨by decide, ?_⟩
    by_cases hy : 0 < y % 5
    · rw [if_pos hy]
      have hvv : 0 ≤ v ∧ v ≤ 12 := by omega
      have hmul : 0 ≤ (i : Int) * v ∧ (i : Int) * v ≤ 12 * 12 := ⟨Int.mul_nonneg (by omega) hvv.1, Int.mul_le_mul (by omega) (by omega) (by omega) (by omega)⟩
      simp? only [rd_ref' hD.top, hv, Int.zero_add]
      have m7 := modb ((i : Int) * v + x6) (show (0 : Int) < n by omega)
      refine ⟨z2, by decide, .inl ⟨by omega, by omega⟩, by omega, ?_⟩
      refine use_deck (((i : Int) * v + x6) % n, dd) rfl rfl hD (by omega) (by show 0 ≤ dd; omega) fun d st hd hD => ?_
      obtain ⟨u, rfl, g1, g2, g3, g4, g5⟩ := hd
      dsimp only at g1 g3
      simp? only [v_app hD.top]
      refine ⟨by rw [sizeLine_eq]; omega, ?_⟩
      refine hR _ _ ⟨_, us ++ [u], rfl, by rw [List.length_append, List.length_singleton]; omega, ⟨fun w hw => ?_, ?_, fun w hw => ?_⟩, ?_⟩
      · rcases List.mem_append.mp hw with hw | hw
        · exact hus w hw
        · rw [List.mem_singleton] at hw
          subst hw
          exact ⟨⟨by omega, by omega, g3, g4, g5⟩, g2⟩
      · rw [List.map_append, List.nodup_append]
        refine ⟨hnd, by simp, fun y hy z hz e => ?_⟩
        rw [List.map_cons, List.map_nil, List.mem_singleton] at hz
        obtain ⟨w, hw, rfl⟩ := List.mem_map.mp hy
        obtain ⟨k, hk, ek⟩ := huk w hw
        rw [hz, g1, ek] at e
        exact turn_ne hv2 (by omega) (by omega) (by omega) e.symm
      · rcases List.mem_append.mp hw with hw | hw
        · obtain ⟨k, hk, ek⟩ := huk w hw
          exact ⟨k, by omega, ek⟩
        · rw [List.mem_singleton] at hw
          subst hw
          exact ⟨i, by omega, g1⟩
      · rw [List.map_append]
        exact hD.put.mono (by omega)
    · rw [if_neg hy]
      exact hR _ _ ⟨_, us, rfl, by omega, ⟨hus, hnd, fun u hu => by obtain ⟨k, hk, ek⟩ := huk u hu; exact ⟨k, by omega, ek⟩⟩, hD.mono (by omega)⟩
  · rintro e st ⟨x12, us, rfl, hul, ⟨hus, hnd, huk⟩, hD⟩
    rw [rangeD_len] at hul hD
    refine ⟨trivial, ?_⟩
    simp? only [v_mulT, v_tupL (rd_ref' hD.top), flat_one, List.length_map, erl, Int.toNat_natCast]
    refine ⟨Nat.zero_le _, z1, by omega, by omega, (show 1 ≤ 1000 by decide), Nat.zero_le _, z3, z1, by omega, by omega, (show 1 ≤ 1000 by decide), z4, ?_⟩
    let wk : Wk := ⟨z, [], rangeI 0 h⟩
    let S : Sy := ⟨dd, List.replicate h [], List.replicate n wk, us⟩
    have hS : S.Ok a b c l 12 := by
      have e1 : S.hands.length = h := List.length_replicate
      have e2 : S.works.length = n := List.length_replicate
      refine ⟨⟨by show 1 ≤ dd; omega, by show dd ≤ a; omega⟩, ⟨by rw [e1]; omega, by rw [e1]; omega⟩, fun r hr => ?_, by rw [e2]; exact hn, fun i w hw => ?_, by show (us.length : Int) ≤ 12; omega, fun u hu => by rw [e2]; exact (hus u hu).1⟩
      · rw [List.eq_of_mem_replicate hr]
        exact ⟨.nil, fun _ h => nomatch h⟩
      · have := List.eq_of_mem_replicate (List.mem_of_getElem? hw)
        subst this
        refine ⟨⟨by show 1 ≤ z; omega, by show z ≤ l; omega⟩, ⟨.nil, fun _ h => nomatch h⟩, by rw [e1]; exact row_range h, ?_⟩
        intro e
        have e3 : (rangeI 0 h).length = 0 := by rw [show rangeI 0 h = [] from e]; rfl
        omega
    have hE : EvSy S := ⟨fun r hr => List.eq_of_mem_replicate hr, ⟨z, fun w hw => by rw [List.eq_of_mem_replicate hw]; show wk = ⟨z, [], rangeI 0 (List.replicate h ([] : List Int)).length⟩; rw [List.length_replicate]⟩, fun u hu => (hus u hu).2, hnd⟩
    have eS : S.d = .tup [.int dd, .tup (List.replicate h (.tup [])), .tup (List.replicate n (.tup [.int z, .tup [], .tup ((rangeI 0 h).map D.int)])), .tup (us.map Ws.d)] := by
      show D.tup [.int dd, .tup ((List.replicate h ([] : List Int)).map dInts), .tup ((List.replicate n wk).map Wk.d), .tup (us.map Ws.d)] = _
      rw [List.map_replicate, List.map_replicate]
      rfl
    rw [← eS]
    exact dk_pop hD0 hD (blw_sy _ S) fun st1 h1 => ⟨⟨S, rfl, hS, hE⟩, h1.mono (by omega)⟩
def natE (k : Nat) : D := .int (k : Nat)
def PapIs (s : Sy) (ps : List P2) (fs : List D) : Prop := IsPlan s ps ∧ fs.length = (leftL s ps).length ∧ ∀ x ∈ (leftL s ps).zip fs, pairD s (kpL s ps) x.1 x.2 = true
noncomputable def paperD (s : Sy) (d : D) : Bool := tr (∃ ps fs, d = .tup [encR ps, .tup fs] ∧ PapIs s ps fs)
theorem paper_enc {s : Sy} {ps : List P2} {fs : List D} : paperD s (.tup [encR ps, .tup fs]) = tr (PapIs s ps fs) := by
  unfold paperD
  congr 1
  refine propext ⟨?_, fun h => ⟨ps, fs, rfl, h⟩⟩
  rintro ⟨ps2, fs2, e, h⟩
  simp only [D.tup.injEq, List.cons.injEq, and_true] at e
  have e1 := encR_inj e.1
  subst e1
  rw [e.2]
  exact h
theorem zip_map2 (ks : List Nat) (fs : List D) : zipD (ks.map natE) fs = (ks.zip fs).map fun x => .tup [natE x.1, x.2] := by
  unfold zipD
  induction ks generalizing fs with
  | nil => rfl
  | cons k r ih =>
    cases fs with
    | nil => rfl
    | cons f fs => rw [List.map_cons, List.zipWith_cons_cons, List.zip_cons_cons, List.map_cons, ih]
theorem zx_mem {s : Sy} {x : Ws × Nat} (h : x ∈ s.wishes.zipIdx) : x.1 ∈ s.wishes ∧ x.2 < s.wishes.length ∧ s.wishes[x.2]? = some x.1 := by
  have e := List.mem_zipIdx_iff_getElem?.mp h
  exact ⟨List.mem_of_getElem? e, (List.getElem?_eq_some_iff.mp e).1, e⟩
theorem left_lt {s : Sy} {ps : List P2} {k : Nat} (h : k ∈ leftL s ps) : k < s.wishes.length := by
  unfold leftL at h
  obtain ⟨x, hx, rfl⟩ := List.mem_map.mp h
  exact (zx_mem (List.mem_filter.mp hx).1).2.1
theorem left_le (s : Sy) (ps : List P2) : (leftL s ps).length ≤ s.wishes.length := by
  unfold leftL
  rw [List.length_map]
  refine Nat.le_trans (List.length_filter_le _ _) ?_
  rw [List.length_zipIdx]
  exact Nat.le_refl _
def fullsF (s : Sy) (ps : List P2) (k : Nat) : List Int := (rangeI (wsAt s k).day (s.days + 1 - (wsAt s k).day).toNat).filter fun d => dayOkF s (kpL s ps) k d
def cntB (s : Sy) (ps : List P2) (u : Ws) (day : Int) (a : Ws) : Bool := (if lowF a u = true then decide (a.day ≤ day) else false) && kpF s ps a
theorem cnt_eq {s : Sy} {ps : List P2} {u : Ws} {day : Int} : cntF (kpL s ps) u day = s.wishes.countP (cntB s ps u day) := by
  unfold cntF kpL cntB
  rw [List.filter_filter, List.countP_eq_length_filter]
theorem fold_filter {α : Type} {p : α → Bool} : ∀ (xs acc : List α), xs.foldl (fun acc d => if p d = true then acc ++ [d] else acc) acc = acc ++ xs.filter p
  | [], acc => by simp
  | x :: r, acc => by
    rw [List.foldl_cons, List.filter_cons]
    cases h : p x with
    | true => rw [if_pos rfl, if_pos rfl, fold_filter r, List.append_assoc]; rfl
    | false => rw [if_neg Bool.false_ne_true, if_neg Bool.false_ne_true, fold_filter r]
def w_f_law_full_days_1 : DS := wSeq (wAsg (wOrV (wOp dLt (wOp dIx (wVar 7) (wC (.int 4))) (wOp dIx (wVar 3) (wC (.int 4)))) (wAndV (wOp dEq (wOp dIx (wVar 7) (wC (.int 4))) (wOp dIx (wVar 3) (wC (.int 4)))) (wOp dGe (wOp dIx (wVar 7) (wC (.int 3))) (wOp dIx (wVar 3) (wC (.int 3)))))) (gNm 8)) (wIf (wAnd (wTest (wVar 8)) (wAnd (wTest (wOp dLe (wOp dIx (wVar 7) (wC (.int 2))) (wVar 5))) (wTest (wCall S_f_law_kept (wCons (wVar 0) (wCons (wVar 7) (wCons (wOp dIx (wVar 1) (wOp dIx (wVar 7) (wC (.int 0)))) (wNil)))))))) (wAsg (wOp dAdd (wVar 6) (wC (.int 1))) (gNm 6)) ((fun D env st => D.nx env st)))
def w_f_law_full_days_2 : DS := wSeq (wAsg (wC (.int 0)) (gNm 6)) (wSeq (wFor (iSeq (wOp dIx (wVar 0) (wC (.int 3)))) (gNm 7) w_f_law_full_days_1) (wIf (wTest (wOp dEq (wVar 6) (wCall S_f_law_room (wCons (wVar 0) (wCons (wVar 5) (wNil)))))) (wDrop (wM mAppend (wVar 4) (wCons (wVar 5) (wNil)))) ((fun D env st => D.nx env st))))
def w_f_law_full_days : DS := wSeq (wAsg (wOp dIx (wOp dIx (wVar 0) (wC (.int 3))) (wVar 2)) (gNm 3)) (wSeq (wAsg (wLst true (wNil)) (gNm 4)) (wSeq (wFor (iRange2 (wCons (wOp dIx (wVar 3) (wC (.int 2))) (wCons (wOp dAdd (wOp dIx (wVar 0) (wC (.int 0))) (wC (.int 1))) (wNil)))) (gNm 5) w_f_law_full_days_2) (wRet (wFrz 4))))
def S_f_law_full_days : DL.Spec := pureS 3 (fun x : Sy × List P2 × Nat => [x.1.d, encR x.2.1, .int x.2.2]) (fun x => EvOk x.1 ∧ x.2.2 < x.1.wishes.length ∧ x.2.1.length = x.1.works.length) (fun x => .lst ((fullsF x.1 x.2.1 x.2.2).map .int))
theorem vc_f_law_full_days : ∀ g sto, (S_f_law_full_days.args g).length = S_f_law_full_days.n → S_f_law_full_days.pre g sto → w_f_law_full_days (bodyEnds (popEnds sto.length sto (S_f_law_full_days.post g sto))) (startE ["_law_system", "_law_plan", "_law_place", "_law_wish", "_law_found", "_law_day", "_law_many", "_law_one", "_law_high"] (S_f_law_full_days.args g)) sto := by
  rintro ⟨s, ps, k⟩ sto _ ⟨hs, hk, hpl⟩
  dsimp only at hs hk hpl
  have h30 := hs.s30
  have hwl := h30.works
  have hul := h30.wishes
  have hdd := h30.days
  obtain ⟨hat, hmem⟩ := ws_at hk
  have hu := h30.wish _ hmem
  have huw := hu.work
  have hud := hu.day
  have hw0 : 0 < s.works.length := by omega
  simp? only [w_f_law_full_days, S_f_law_full_days, pureS, atI_map hat, ws_ix2, wFor]
  refine ⟨Nat.zero_le _, by omega, ?_⟩
  rw [rangeD_eq]
  refine forL_fold D.int (fun acc d => if dayOkF s (kpL s ps) k d = true then acc ++ [d] else acc)
    (fun i acc e st => ∃ x5 x6 x7 x8, e = [some s.d, some (encR ps), some (.int (k : Nat)), some (wsAt s k).d, some (.ref sto.length), x5, x6, x7, x8] ∧ st = sto ++ [.lst (acc.map .int)] ∧ acc.length ≤ i) _ [] _ _ ?_ ?_ ⟨_, _, _, _, rfl, rfl, Nat.le_refl _⟩
  · rintro i acc day e st hi hb ⟨x5, x6, x7, x8, rfl, rfl, hl⟩ R hR
    have hbr := mem_rangeI.mp hb
    rw [rangeI_len] at hi
    refine ⟨trivial, ?_⟩
    simp?! only [w_f_law_full_days_2, wFor]
    refine seq_go ?_
    (try simp?! only [true_and])
    refine seq_cut (fun e st => ∃ x7 x8, e = [some s.d, some (encR ps), some (.int (k : Nat)), some (wsAt s k).d, some (.ref sto.length), some (.int day), some (.int (cntF (kpL s ps) (wsAt s k) day : Nat)), x7, x8] ∧ st = sto ++ [.lst (acc.map .int)]) (fun K hK => ?_) ?_
    · (try simp?! only [true_and])
      refine forL_inv (fun j e st => ∃ v x7 x8, e = [some s.d, some (encR ps), some (.int (k : Nat)), some (wsAt s k).d, some (.ref sto.length), some (.int day), some (.int v), x7, x8] ∧ v = (((s.wishes.take j).countP (cntB s ps (wsAt s k) day) : Nat) : Int) ∧ st = sto ++ [.lst (acc.map .int)]) ?_ ?_ _ _ ⟨0, _, _, rfl, rfl, rfl⟩
      · rintro j e st d ⟨v, x7, x8, rfl, hv, rfl⟩ he R2 hR2
        rw [List.getElem?_map] at he
        cases ha : s.wishes[j]? with
        | none => rw [ha] at he; cases he
        | some a =>
          rw [ha] at he
          cases he
          have ham := List.mem_of_getElem? ha
          have hau := h30.wish _ ham
          refine ⟨trivial, ?_⟩
          have hst : (((s.wishes.take (j + 1)).countP (cntB s ps (wsAt s k) day) : Nat) : Int) = v + (if cntB s ps (wsAt s k) day a = true then 1 else 0) := by
            rw [List.take_add_one, List.countP_append, ha, hv]
            show ((_ + List.countP _ [a] : Nat) : Int) = _
            rw [List.countP_singleton]
            split <;> simp
          have yes : cntB s ps (wsAt s k) day a = true → ∀ x7 x8, R2 [some s.d, some (encR ps), some (.int (k : Nat)), some (wsAt s k).d, some (.ref sto.length), some (.int day), some (.int (v + 1)), x7, x8] (sto ++ [.lst (acc.map .int)]) := fun h x7 x8 => hR2 _ _ ⟨v + 1, _, _, rfl, by rw [hst, if_pos h], rfl⟩
          have no : cntB s ps (wsAt s k) day a = false → ∀ x7 x8, R2 [some s.d, some (encR ps), some (.int (k : Nat)), some (wsAt s k).d, some (.ref sto.length), some (.int day), some (.int v), x7, x8] (sto ++ [.lst (acc.map .int)]) := fun h x7 x8 => hR2 _ _ ⟨v, _, _, rfl, by rw [hst, if_neg (by rw [h]; exact Bool.false_ne_true), Int.add_zero], rfl⟩
          simp?! only [w_f_law_full_days_1]
          refine seq_cut (fun e st => e = [some s.d, some (encR ps), some (.int (k : Nat)), some (wsAt s k).d, some (.ref sto.length), some (.int day), some (.int v), some a.d, some (.bl (lowF a (wsAt s k)))] ∧ st = sto ++ [.lst (acc.map .int)]) (fun K hK => ?_) ?_
          · simp?! only [ws_ix3, ws_ix4]
            unfold lowF at hK
            by_cases h : a.rank < (wsAt s k).rank
            · simp? only [h] at hK ⊢
              exact hK _ _ ⟨rfl, rfl⟩
            · simp? only [h] at hK ⊢
              cases h2 : a.rank == (wsAt s k).rank with
              | true => simp? only [h2] at hK ⊢; exact hK _ _ ⟨rfl, rfl⟩
              | false => simp? only [h2] at hK ⊢; exact hK _ _ ⟨rfl, rfl⟩
          rintro e st ⟨rfl, rfl⟩
          (try simp?! only [true_and])
          cases h1 : lowF a (wsAt s k) with
          | false =>
            (try simp? only [true_and])
            exact no (by unfold cntB; rw [h1]; rfl) _ _
          | true =>
            simp? only [ws_ix2]
            by_cases h2 : a.day ≤ day
            · rw [if_pos h2]
              simp? only [ws_ix0, encR, way_ix hau hpl]
              refine use_pure (s, a, wayOf ps a) rfl rfl hau ?_
              (try simp? only [true_and])
              have e3 : cntB s ps (wsAt s k) day a = keptF s a (wayOf ps a) := by unfold cntB kpF; rw [h1, if_pos rfl, decide_eq_true h2, Bool.true_and]
              cases h3 : keptF s a (wayOf ps a) with
              | true => rw [if_pos rfl]; exact yes (by rw [e3, h3]) _ _
              | false => rw [if_neg Bool.false_ne_true]; exact no (by rw [e3, h3]) _ _
            · rw [if_neg h2]
              exact no (by unfold cntB; rw [h1, if_pos rfl, decide_eq_false h2]; rfl) _ _
      · rintro e st ⟨v, x7, x8, rfl, hv, rfl⟩
        rw [List.length_map, List.take_length, ← cnt_eq] at hv
        rw [hv]
        exact ⟨trivial, hK _ _ ⟨_, _, rfl, rfl⟩⟩
    rintro e st ⟨x7, x8, rfl, rfl⟩
    (try simp?! only [true_and])
    refine use_pure (s, day) rfl rfl ⟨h30, hw0, by show 0 ≤ day; omega, by show day ≤ 1000; omega⟩ ?_
    dsimp only
    (try simp? only [true_and])
    cases h : dayOkF s (kpL s ps) k day with
    | true =>
      rw [h, if_pos rfl] at hR
      unfold dayOkF at h
      rw [if_pos h]
      simp? only [v_app (get_last _ _), set_last, rd_ref' (get_last _ _)]
      exact ⟨by rw [sizeLine_eq]; (try rw [List.length_map]); omega, hR _ _ ⟨_, _, _, _, rfl, by rw [List.map_append]; rfl, by rw [List.length_append, List.length_singleton]; omega⟩⟩
    | false =>
      rw [h, if_neg Bool.false_ne_true] at hR
      unfold dayOkF at h
      rw [if_neg (by rw [h]; exact Bool.false_ne_true)]
      exact hR _ _ ⟨_, _, _, _, rfl, rfl, by omega⟩
  · rintro e st ⟨x5, x6, x7, x8, rfl, rfl, hl⟩
    refine ⟨trivial, ?_⟩
    simp? only [wFrz]
    refine ⟨_, _, rfl, get_last _ _, ?_⟩
    rw [set_last, fold_filter, List.nil_append]
    exact ⟨sto, _, rfl, rfl, by simp only [D.blw, blwL_ints], fun i c h => .inl h, rfl, rfl⟩
theorem anyI_mem {f : List Int} {i : Int} : f.any (· == i) = true ↔ i ∈ f := by
  rw [List.any_eq_true]
  exact ⟨fun ⟨x, h, e⟩ => by rw [beq_iff_eq] at e; rwa [← e], fun h => ⟨i, h, beq_self_eq_true _⟩⟩
theorem fulls_any {s : Sy} {ps : List P2} {k : Nat} {day : Int} : (fullsF s ps k).any (· == day) = (decide ((wsAt s k).day ≤ day ∧ day ≤ s.days) && dayOkF s (kpL s ps) k day) := by
  rw [Bool.eq_iff_iff, anyI_mem]
  unfold fullsF
  rw [List.mem_filter, mem_rangeI, Bool.and_eq_true, decide_eq_true_iff]
  refine and_congr_left fun _ => ?_
  omega
def w_f_law_is_pair : DS := wSeq (wIf (wOr (wNot (wTest (wIsi "tuple" (wVar 3)))) (wOr (wTest (wOp dNe (wCB bLen (wCons (wVar 3) (wNil))) (wC (.int 2)))) (wNot (wTest (wCall S_f_law_is_from (wCons (wOp dIx (wVar 3) (wC (.int 0))) (wCons (wVar 2) (wCons (wVar 2) (wNil))))))))) (wRet (wC (.bl false))) ((fun D env st => D.nx env st))) (wRet (wAndV (wCall S_f_law_is_from (wCons (wOp dIx (wVar 3) (wC (.int 1))) (wCons (wC (.int 0)) (wCons (wOp dIx (wVar 0) (wC (.int 0))) (wNil))))) (wOp dIn (wOp dIx (wVar 3) (wC (.int 1))) (wCall S_f_law_full_days (wCons (wVar 0) (wCons (wVar 1) (wCons (wVar 2) (wNil))))))))
def S_f_law_is_pair : DL.Spec := pureS 4 (fun x : Sy × List P2 × Nat × D => [x.1.d, encR x.2.1, .int x.2.2.1, x.2.2.2]) (fun x => (EvOk x.1 ∧ x.2.2.1 < x.1.wishes.length ∧ x.2.1.length = x.1.works.length) ∧ x.2.2.2.blw 0 = true) (fun x => .bl (pairD x.1 (kpL x.1 x.2.1) x.2.2.1 x.2.2.2))
theorem vc_f_law_is_pair : ∀ g sto, (S_f_law_is_pair.args g).length = S_f_law_is_pair.n → S_f_law_is_pair.pre g sto → w_f_law_is_pair (bodyEnds (S_f_law_is_pair.post g sto)) (startE ["_law_system", "_law_plan", "_law_place", "_law_pair"] (S_f_law_is_pair.args g)) sto := by
  rintro ⟨s, ps, k, d⟩ sto _ ⟨⟨hs, hk, hpl⟩, hd⟩
  dsimp only at hs hk hpl hd
  have h30 := hs.s30
  have hud := (h30.wish _ (ws_at hk).2).day
  simp? only [w_f_law_is_pair, S_f_law_is_pair, pureS]
  refine ⟨noRef_of hd, ?_⟩
  rcases isa_tup (d := d) with ⟨ds, rfl⟩ | ⟨h1, h2⟩
  · simp? only [isa_tupT]
    by_cases hl : ds.length = 2
    · obtain ⟨a, b, rfl⟩ : ∃ a b, ds = [a, b] := by
        match ds, hl with
        | [a, b], _ => exact ⟨a, b, rfl⟩
      have ha := noRef_of (blw_items hd a (by simp))
      have hb := noRef_of (blw_items hd b (by simp))
      (try simp? only [true_and])
      rw [if_neg (by simp)]
      refine use_pure (a, (k : Int), (k : Int)) rfl rfl ha ?_
      dsimp only
      cases h3 : fromF a k k with
      | false => simp? only [pairD, h3]
      | true =>
        (try simp? only [true_and])
        refine use_pure (b, 0, s.days) rfl rfl hb ?_
        dsimp only
        cases h4 : fromF b 0 s.days with
        | false =>
          have h5 : fromF b (wsAt s k).day s.days = false := by
            rw [Bool.eq_false_iff]
            intro h5
            obtain ⟨day, rfl, h6, h7⟩ := fromF_iff.mp h5
            have : fromF (.int day) 0 s.days = true := fromF_iff.mpr ⟨day, rfl, by omega, h7⟩
            rw [h4] at this
            cases this
          simp? only [pairD, h3, h5]
        | true =>
          obtain ⟨day, rfl, h5, h6⟩ := fromF_iff.mp h4
          (try simp? only [true_and])
          refine use_pure (s, ps, k) rfl rfl ⟨hs, hk, hpl⟩ ?_
          refine dIn_ints ?_
          rw [fulls_any]
          (try refine ⟨rfl, ?_⟩)
          congr 1
          have e : fromF (.int day) (wsAt s k).day s.days = decide ((wsAt s k).day ≤ day ∧ day ≤ s.days) := by
            rw [Bool.eq_iff_iff, fromF_iff, decide_eq_true_iff]
            exact ⟨fun ⟨_, e, h⟩ => by cases e; exact h, fun h => ⟨_, rfl, h⟩⟩
          show (decide ((wsAt s k).day ≤ day ∧ day ≤ s.days) && dayOkF s (kpL s ps) k day) = if fromF a k k = true then (if fromF (.int day) (wsAt s k).day s.days = true then dayOkF s (kpL s ps) k day else false) else false
          rw [h3, e, if_pos rfl]
          generalize decide ((wsAt s k).day ≤ day ∧ day ≤ s.days) = z
          cases z <;> rfl
    · have e3 : pairD s (kpL s ps) k (.tup ds) = false := by
        match ds, hl with
        | [], _ => rfl
        | [_], _ => rfl
        | [_, _], h => exact absurd rfl h
        | _ :: _ :: _ :: _, _ => rfl
      rw [if_pos (by simp; omega), e3]
      all_goals exact ⟨rfl, rfl⟩
  · have e3 : pairD s (kpL s ps) k d = false := by
      cases d with
      | tup ds => exact absurd rfl (h2 ds)
      | _ => rfl
    simp? only [h1, e3]
def w_f_law_is_paper_1 : DT := wNot (wTest (wCall S_f_law_kept (wCons (wVar 0) (wCons (wVar 6) (wCons (wOp dIx (wVar 2) (wOp dIx (wVar 6) (wC (.int 0)))) (wNil))))))
def w_f_law_is_paper_2 : DT := wNot (wTest (wCall S_f_law_is_pair (wCons (wVar 0) (wCons (wVar 2) (wCons (wVar 7) (wCons (wVar 8) (wNil)))))))
def w_f_law_is_paper : DS := wSeq (wIf (wOr (wNot (wTest (wIsi "tuple" (wVar 1)))) (wOr (wTest (wOp dNe (wCB bLen (wCons (wVar 1) (wNil))) (wC (.int 2)))) (wNot (wTest (wCall S_f_law_is_plan (wCons (wVar 0) (wCons (wOp dIx (wVar 1) (wC (.int 0))) (wNil)))))))) (wRet (wC (.bl false))) ((fun D env st => D.nx env st))) (wSeq (wAsg (wVar 1) (gTp 2 (gCn (gNm 2) (gCn (gNm 3) gNl)))) (wSeq (wAsg (wComp false (iEnum (wOp dIx (wVar 0) (wC (.int 3)))) (.tp [5, 6]) w_f_law_is_paper_1 (wVar 5) [5, 6]) (gNm 4)) (wSeq (wIf (wOr (wNot (wTest (wIsi "tuple" (wVar 3)))) (wTest (wOp dNe (wCB bLen (wCons (wVar 3) (wNil))) (wCB bLen (wCons (wVar 4) (wNil)))))) (wRet (wC (.bl false))) ((fun D env st => D.nx env st))) (wRet (wOp dEq (wComp false (iZip (wVar 4) (wVar 3)) (.tp [7, 8]) w_f_law_is_paper_2 (wC (.int 1)) [7, 8]) (wLst false (wNil)))))))
noncomputable def S_f_law_is_paper : DL.Spec := pureS 2 (fun x : Sy × D => [x.1.d, x.2]) (fun x => EvOk x.1 ∧ x.2.blw 0 = true) (fun x => .bl (paperD x.1 x.2))
theorem vc_f_law_is_paper : ∀ g sto, (S_f_law_is_paper.args g).length = S_f_law_is_paper.n → S_f_law_is_paper.pre g sto → w_f_law_is_paper (bodyEnds (S_f_law_is_paper.post g sto)) (startE ["_law_system", "_law_thing", "_law_plan", "_law_fulls", "_law_left", "_law_k", "_law_wish", "_law_place", "_law_pair"] (S_f_law_is_paper.args g)) sto := by
  rintro ⟨s, d⟩ sto _ ⟨hs, hd⟩
  dsimp only at hs hd
  have h30 := hs.s30
  have hwl := h30.works
  have hul := h30.wishes
  simp?! only [w_f_law_is_paper, S_f_law_is_paper, pureS, wComp, wipeE, wFor]
  refine seq_cut (fun e st => ∃ ps b, d = .tup [encR ps, b] ∧ IsPlan s ps ∧ e = [some s.d, some (.tup [encR ps, b]), none, none, none, none, none, none, none] ∧ sto = st) (fun K hK => ?_) ?_
  · (try simp?! only [true_and])
    refine ⟨noRef_of hd, ?_⟩
    rcases isa_tup (d := d) with ⟨ds, rfl⟩ | ⟨h1, h2⟩
    · simp? only [isa_tupT]
      by_cases hl : ds.length = 2
      · obtain ⟨a, b, rfl⟩ : ∃ a b, ds = [a, b] := by
          match ds, hl with
          | [a, b], _ => exact ⟨a, b, rfl⟩
        (try simp? only [true_and])
        rw [if_neg (by simp)]
        refine use_pure (s, a) rfl rfl ⟨h30, blw_items hd a (by simp)⟩ ?_
        dsimp only
        cases hp : planD s a with
        | false =>
          (try simp? only [true_and])
          (try refine ⟨rfl, ?_⟩)
          congr 1
          refine (tr_false ?_).symm
          rintro ⟨ps, fs, e, h⟩
          simp only [D.tup.injEq, List.cons.injEq, and_true] at e
          rw [e.1, planD_enc, tr_true h.1] at hp
          cases hp
        | true =>
          obtain ⟨ps, rfl, hps⟩ := tr_iff.mp hp
          (try simp? only [true_and])
          exact hK _ _ ⟨ps, b, rfl, hps, rfl, rfl⟩
      · rw [if_pos (by simp; omega)]
        (try refine ⟨rfl, ?_⟩)
        congr 1
        refine (tr_false ?_).symm
        rintro ⟨ps, fs, e, h⟩
        simp only [D.tup.injEq] at e
        rw [e] at hl
        exact hl rfl
    · simp? only [h1]
      (try refine ⟨rfl, ?_⟩)
      congr 1
      refine (tr_false ?_).symm
      rintro ⟨ps, fs, e, h⟩
      exact h2 _ e
  rintro e st ⟨ps, b, rfl, hps, rfl, rfl⟩
  have hbb := blw_items hd b (by simp)
  refine seq_go ?_
  (try simp?! only [true_and])
  refine seq_go ?_
  (try simp?! only [true_and])
  rw [enum_map]
  refine ⟨by rw [List.length_map, List.length_zipIdx, sizeLine_eq]; omega, ?_⟩
  refine compL_flt (fun x : Ws × Nat => .tup [.int (x.2 : Nat), x.1.d]) (fun x => !kpF s ps x.1) (·.2) natE trivial _ (fun x hx R hR => ?_) ?_
  · have hm := (zx_mem hx).1
    have hu := h30.wish _ hm
    simp? only [Tg.dg, List.foldr_cons, List.foldr_nil, w_f_law_is_paper_1, ws_ix0, encR, way_ix hu hps.len]
    refine use_pure (s, x.1, wayOf ps x.1) rfl rfl hu ?_
    dsimp only
    unfold kpF at hR
    cases h : keptF s x.1 (wayOf ps x.1) with
    | true => rw [h] at hR; first | exact ⟨_, rfl, hR⟩ | exact hR
    | false => rw [h] at hR; first | exact ⟨_, rfl, hR⟩ | exact hR
  have eL : ((s.wishes.zipIdx.filter fun x => !kpF s ps x.1).map (·.2)) = leftL s ps := rfl
  rw [eL]
  refine seq_cut (fun e st => ∃ fs, b = .tup fs ∧ fs.length = (leftL s ps).length ∧ e = [some s.d, some (.tup [encR ps, .tup fs]), some (encR ps), some (.tup fs), some (.lst ((leftL s ps).map natE)), none, none, none, none] ∧ sto = st) (fun K hK => ?_) ?_
  · (try simp?! only [true_and])
    refine ⟨noRef_of hbb, ?_⟩
    rcases isa_tup (d := b) with ⟨fs, rfl⟩ | ⟨h1, h2⟩
    · simp? only [isa_tupT]
      by_cases hl : fs.length = (leftL s ps).length
      · rw [if_neg (by simp; omega)]
        exact hK _ _ ⟨fs, rfl, hl, rfl, rfl⟩
      · rw [if_pos (by simp; omega)]
        (try refine ⟨rfl, ?_⟩)
        rw [paper_enc, tr_false fun h => hl h.2.1]
    · simp? only [h1]
      (try refine ⟨rfl, ?_⟩)
      congr 1
      refine (tr_false ?_).symm
      rintro ⟨ps, fs, e, h⟩
      simp only [D.tup.injEq, List.cons.injEq, and_true] at e
      exact h2 _ e.2
  rintro e st ⟨fs, rfl, hfl, rfl, rfl⟩
  have hle := left_le s ps
  (try simp?! only [true_and])
  rw [zip_map2]
  refine ⟨by rw [List.length_map, List.length_zip, sizeLine_eq]; omega, ?_⟩
  refine compL_flt (fun x : Nat × D => .tup [natE x.1, x.2]) (fun x => !pairD s (kpL s ps) x.1 x.2) (fun _ => (1 : Int)) D.int trivial _ (fun y hy R hR => ?_) ?_
  · have hk := left_lt (List.of_mem_zip hy).1
    have hf : y.2.blw 0 = true := blw_items hbb y.2 (List.of_mem_zip hy).2
    simp? only [Tg.dg, List.foldr_cons, List.foldr_nil, w_f_law_is_paper_2, natE]
    refine use_pure (s, ps, y.1, y.2) rfl rfl ⟨⟨hs, hk, hps.len⟩, hf⟩ ?_
    dsimp only
    cases h : pairD s (kpL s ps) y.1 y.2 with
    | true => rw [h] at hR; first | exact ⟨_, rfl, hR⟩ | exact hR
    | false => rw [h] at hR; first | exact ⟨_, rfl, hR⟩ | exact hR
  · (try simp? only [true_and])
    refine ⟨Nat.zero_le _, okL_ints _, ?_⟩
    (try refine ⟨rfl, ?_⟩)
    rw [paper_enc, isE_map, isE_map, isE_filter]
    congr 1
    refine tr_eq ?_
    rw [Bool.not_eq_true', List.any_eq_false]
    refine ⟨fun h => ⟨hps, hfl, fun x hx => by simpa using h x hx⟩, fun h x hx => by rw [h.2.2 x hx]; exact Bool.false_ne_true⟩
section
variable {s : Sy}
def dayK (s : Sy) (k : Nat) : Int := (wsAt s k).day
def upTo (s : Sy) (G : List Nat) (D : Int) : Nat := G.countP fun k => decide (dayK s k ≤ D)
def Feas (s : Sy) (G : List Nat) : Prop := ∀ D, 0 ≤ D → D ≤ s.days → ((upTo s G D : Nat) : Int) ≤ roomF s D
theorem feas_exist {G : List Nat} (h : ¬Feas s G) : ∃ D, 0 ≤ D ∧ D ≤ s.days ∧ roomF s D < ((upTo s G D : Nat) : Int) := by
  apply Classical.byContradiction
  intro h2
  refine h fun D h0 h1 => ?_
  apply Classical.byContradiction
  intro h3
  exact h2 ⟨D, h0, h1, by omega⟩
noncomputable def takeS (s : Sy) (G : List Nat) (k : Nat) : List Nat := if tr (Feas s (G ++ [k])) = true then G ++ [k] else G
noncomputable def takeF (s : Sy) (os : List Nat) : List Nat := os.foldl (takeS s) []
theorem upTo_snoc (G : List Nat) (k : Nat) (D : Int) : upTo s (G ++ [k]) D = upTo s G D + (if dayK s k ≤ D then 1 else 0) := by
  unfold upTo
  rw [List.countP_append, List.countP_singleton]
  by_cases h : dayK s k ≤ D
  · rw [if_pos h, decide_eq_true h, if_pos rfl]
  · rw [if_neg h, decide_eq_false h, if_neg Bool.false_ne_true]
def nbTo (s : Sy) (G : List Nat) (k : Nat) (D : Int) : Nat := G.countP fun j => lowF (wsAt s j) (wsAt s k) && decide (dayK s j ≤ D)
structure TakI (s : Sy) (pre G : List Nat) : Prop where
  sub : G.Sublist pre
  feas : Feas s G
  out : ∀ k ∈ pre, k ∉ G → ∃ D, dayK s k ≤ D ∧ 0 ≤ D ∧ D ≤ s.days ∧ roomF s D ≤ ((nbTo s G k D : Nat) : Int)
theorem nb_snoc (G : List Nat) (k j : Nat) (D : Int) : nbTo s G k D ≤ nbTo s (G ++ [j]) k D := by
  unfold nbTo
  rw [List.countP_append]
  omega
theorem nb_all {G : List Nat} {k : Nat} {D : Int} (h : ∀ j ∈ G, lowF (wsAt s j) (wsAt s k) = true) : nbTo s G k D = upTo s G D := by
  unfold nbTo upTo
  refine List.countP_congr fun j hj => ?_
  rw [h j hj, Bool.true_and]
theorem nb_le (G : List Nat) (k : Nat) (D : Int) : nbTo s G k D ≤ upTo s G D := by
  unfold nbTo upTo
  refine List.countP_mono_left fun j _ h => ?_
  rw [Bool.and_eq_true] at h
  exact h.2
theorem feas_nil (hs : S30 s) (hw : 0 < s.works.length) : Feas s [] := fun D h0 _ => by
  show (0 : Int) ≤ roomF s D
  unfold roomF
  have := (div_le h0 (lenA_pos hs hw).1).1
  exact Int.mul_nonneg (by omega) this
theorem tak_step {pre G : List Nat} {k : Nat} (h : TakI s pre G) (hk : k ∉ pre) (hb : ∀ j ∈ pre, lowF (wsAt s j) (wsAt s k) = true) : TakI s (pre ++ [k]) (takeS s G k) := by
  unfold takeS
  by_cases hf : Feas s (G ++ [k])
  · rw [tr_true hf, if_pos rfl]
    refine ⟨h.sub.append (List.Sublist.refl _), hf, fun j hj hn => ?_⟩
    rw [List.mem_append] at hj hn
    rcases hj with hj | hj
    · obtain ⟨D, h1, h2, h3, h4⟩ := h.out j hj fun z => hn (.inl z)
      exact ⟨D, h1, h2, h3, by have := nb_snoc (s := s) G j k D; omega⟩
    · exact absurd (.inr hj) hn
  · rw [tr_false hf, if_neg Bool.false_ne_true]
    refine ⟨h.sub.trans (List.sublist_append_left _ _), h.feas, fun j hj hn => ?_⟩
    rcases List.mem_append.mp hj with hj | hj
    · exact h.out j hj hn
    · rw [List.mem_singleton] at hj
      subst hj
      obtain ⟨D, h0, h1, h2⟩ := feas_exist hf
      have h3 := h.feas D h0 h1
      rw [upTo_snoc] at h2
      have hd : dayK s j ≤ D := by
        apply Classical.byContradiction
        intro z
        rw [if_neg z] at h2
        omega
      rw [if_pos hd] at h2
      refine ⟨D, hd, h0, h1, ?_⟩
      rw [nb_all fun i hi => hb i (h.sub.subset hi)]
      omega
theorem tak_all : ∀ {os pre G : List Nat}, TakI s pre G → (pre ++ os).Nodup → (pre ++ os).Pairwise (fun i j => lowF (wsAt s i) (wsAt s j) = true) → TakI s (pre ++ os) (os.foldl (takeS s) G)
  | [], pre, G, h, _, _ => by rw [List.append_nil]; exact h
  | k :: os, pre, G, h, hn, hp => by
    have e : pre ++ k :: os = (pre ++ [k]) ++ os := by rw [List.append_assoc]; rfl
    rw [e] at hn hp ⊢
    refine tak_all (tak_step h ?_ ?_) hn hp
    · have := (List.nodup_append.mp (List.nodup_append.mp hn).1).2.2
      intro hk
      exact this k hk k (by simp) rfl
    · intro j hj
      have := (List.pairwise_append.mp (List.pairwise_append.mp hp).1).2.2
      exact this j hj k (by simp)
structure OrdOk (s : Sy) (os : List Nat) : Prop where
  perm : os.Perm (List.range s.wishes.length)
  low : os.Pairwise fun i j => lowF (wsAt s i) (wsAt s j) = true
/-- a row of places taken, as it should be -/
structure Taken (s : Sy) (G : List Nat) : Prop where
  nd : G.Nodup
  lt : ∀ k ∈ G, k < s.wishes.length
  feas : Feas s G
  out : ∀ k, k < s.wishes.length → k ∉ G → ∃ D, dayK s k ≤ D ∧ 0 ≤ D ∧ D ≤ s.days ∧ roomF s D = ((nbTo s G k D : Nat) : Int)
theorem taken_of {os : List Nat} (hs : S30 s) (hw : 0 < s.works.length) (h : OrdOk s os) : Taken s (takeF s os) := by
  have hn : os.Nodup := h.perm.nodup_iff.mpr List.nodup_range
  have := tak_all (s := s) (os := os) (pre := []) (G := []) ⟨.slnil, feas_nil hs hw, fun _ h => nomatch h⟩ hn h.low
  rw [List.nil_append] at this
  refine ⟨this.sub.nodup hn, fun k hk => List.mem_range.mp (h.perm.mem_iff.mp (this.sub.subset hk)), this.feas, fun k hk hg => ?_⟩
  obtain ⟨D, h1, h2, h3, h4⟩ := this.out k (h.perm.mem_iff.mpr (List.mem_range.mpr hk)) hg
  refine ⟨D, h1, h2, h3, ?_⟩
  have h5 := this.feas D h2 h3
  have h6 := nb_le (s := s) (takeF s os) k D
  have : roomF s D ≤ ((nbTo s (takeF s os) k D : Nat) : Int) := h4
  have h5 : ((upTo s (takeF s os) D : Nat) : Int) ≤ roomF s D := h5
  omega
def workK (s : Sy) (k : Nat) : Nat := (wsAt s k).work.toNat
def slotP (s : Sy) (i : Nat) : P2 := ((i : Int) / (s.hands.length : Int) * lenA s, (i : Int) % (s.hands.length : Int))
def blockP (s : Sy) (ws : List Nat) : List P2 := (List.range s.works.length).map fun w => slotP s (ws.idxOf w)
theorem even_wk {s : Sy} (h : EvSy s) {i : Nat} (hi : i < s.works.length) : wkAt s i = ⟨lenA s, [], rangeI 0 s.hands.length⟩ := by
  obtain ⟨l, hl⟩ := h.works
  have g : ∀ j, j < s.works.length → wkAt s j = ⟨l, [], rangeI 0 s.hands.length⟩ := fun j hj => hl _ (List.mem_of_getElem? (wk_get hj))
  unfold lenA
  rw [g i hi, g 0 (by omega)]
theorem even_row {s : Sy} (h : EvSy s) (k : Int) : rowOf s k = [] := by
  unfold rowOf
  cases e : atI s.hands k with
  | none => rfl
  | some r =>
    have : r ∈ s.hands := by
      unfold atI at e
      cases e2 : ixN s.hands.length k with
      | none => rw [e2] at e; cases e
      | some j => rw [e2] at e; exact List.mem_of_getElem? e
    exact h.hands r this
end
theorem block_at {s : Sy} {ws : List Nat} {w : Nat} {p : P2} (h : (blockP s ws)[w]? = some p) : w < s.works.length ∧ p = slotP s (ws.idxOf w) := by
  unfold blockP at h
  rw [List.getElem?_map] at h
  cases e : (List.range s.works.length)[w]? with
  | none => rw [e] at h; cases h
  | some x =>
    rw [e] at h
    have := List.getElem?_eq_some_iff.mp e
    obtain ⟨h1, h2⟩ := this
    rw [List.getElem_range] at h2
    subst h2
    rw [List.length_range] at h1
    cases h
    exact ⟨h1, rfl⟩
theorem slot_day {s : Sy} {i : Nat} {D : Int} (hh : 0 < s.hands.length) (hl : 0 < lenA s) (h0 : 0 ≤ D) (h : (i : Int) + 1 ≤ roomF s D) : 0 ≤ (slotP s i).1 ∧ (slotP s i).1 + lenA s ≤ D ∧ 0 ≤ (slotP s i).2 ∧ (slotP s i).2 < s.hands.length := by
  unfold roomF at h
  unfold slotP
  dsimp only
  have hH : (0 : Int) < s.hands.length := by omega
  have m1 := Int.emod_nonneg (i : Int) (show (s.hands.length : Int) ≠ 0 by omega)
  have m2 := Int.emod_lt_of_pos (i : Int) hH
  have q0 : 0 ≤ (i : Int) / (s.hands.length : Int) := Int.ediv_nonneg (by omega) (by omega)
  have hlt : (i : Int) / (s.hands.length : Int) < D / lenA s := by
    rw [Int.ediv_lt_iff_lt_mul hH, Int.mul_comm]
    omega
  have h3 : ((i : Int) / (s.hands.length : Int) + 1) * lenA s ≤ D / lenA s * lenA s := Int.mul_le_mul_of_nonneg_right (by omega) (by omega)
  have h4 : D / lenA s * lenA s ≤ D := Int.ediv_mul_le D (by omega)
  rw [Int.add_mul, Int.one_mul] at h3
  exact ⟨Int.mul_nonneg q0 (by omega), by omega, m1, m2⟩
theorem slot_apart {s : Sy} {i j : Nat} (hh : 0 < s.hands.length) (hl : 0 < lenA s) (h2 : (slotP s i).2 = (slotP s j).2) (h1 : (slotP s i).1 < (slotP s j).1 + lenA s) (h3 : (slotP s j).1 < (slotP s i).1 + lenA s) : i = j := by
  unfold slotP at h1 h2 h3
  dsimp only at h1 h2 h3
  have e1 := Int.mul_ediv_add_emod (i : Int) (s.hands.length : Int)
  have e2 := Int.mul_ediv_add_emod (j : Int) (s.hands.length : Int)
  have g1 : (i : Int) / (s.hands.length : Int) < (j : Int) / (s.hands.length : Int) + 1 := by
    apply Classical.byContradiction
    intro z
    have := Int.mul_le_mul_of_nonneg_right (show (j : Int) / (s.hands.length : Int) + 1 ≤ (i : Int) / (s.hands.length : Int) by omega) (show 0 ≤ lenA s by omega)
    rw [Int.add_mul, Int.one_mul] at this
    omega
  have g2 : (j : Int) / (s.hands.length : Int) < (i : Int) / (s.hands.length : Int) + 1 := by
    apply Classical.byContradiction
    intro z
    have := Int.mul_le_mul_of_nonneg_right (show (i : Int) / (s.hands.length : Int) + 1 ≤ (j : Int) / (s.hands.length : Int) by omega) (show 0 ≤ lenA s by omega)
    rw [Int.add_mul, Int.one_mul] at this
    omega
  have g3 : (i : Int) / (s.hands.length : Int) = (j : Int) / (s.hands.length : Int) := by omega
  rw [g3, h2] at e1
  omega
theorem clF_even {s : Sy} (h : EvSy s) {i j : Nat} (hi : i < s.works.length) (hj : j < s.works.length) (p q : P2) : clF i j (wkAt s i) (wkAt s j) p q = (p.2 == q.2 && decide (p.1 < q.1 + lenA s) && decide (q.1 < p.1 + lenA s)) := by
  rw [even_wk h hi, even_wk h hj]
  unfold clF behF
  simp
theorem okP_even {s : Sy} (h : EvSy s) {i : Nat} (hi : i < s.works.length) (p : P2) : okP s (wkAt s i) p = true ↔ (0 ≤ p.1 ∧ p.1 + lenA s ≤ s.days) ∧ 0 ≤ p.2 ∧ p.2 < s.hands.length := by
  rw [okP_iff, even_wk h hi, even_row h]
  dsimp only
  have e : (rangeI 0 s.hands.length).any (· == p.2) = true ↔ 0 ≤ p.2 ∧ p.2 < s.hands.length := by
    rw [anyI_mem, mem_rangeI]
    omega
  rw [e]
  constructor
  · rintro ⟨h1, h2, h3, _⟩
    exact ⟨by omega, h3⟩
  · rintro ⟨h1, h2⟩
    exact ⟨by omega, by omega, h2, fun _ h => nomatch h⟩
theorem block_plan {s : Sy} (h : EvSy s) (hs : S30 s) (hw : 0 < s.works.length) {ws : List Nat} (hp : ws.Perm (List.range s.works.length)) (hr : (s.works.length : Int) ≤ roomF s s.days) : IsPlan s (blockP s ws) := by
  have hl := (lenA_pos hs hw).1
  have hd := hs.days
  have hh : 0 < s.hands.length := by have := hs.hands; omega
  have hidx : ∀ w, w < s.works.length → ws.idxOf w < s.works.length := fun w hw => by
    have := List.idxOf_lt_length_iff.mpr (hp.mem_iff.mpr (List.mem_range.mpr hw))
    rwa [hp.length_eq, List.length_range] at this
  refine ⟨by unfold blockP; rw [List.length_map, List.length_range], fun i p hi => ?_, fun j k q p hjk hj hk => ?_⟩
  · obtain ⟨h1, rfl⟩ := block_at hi
    rw [okP_even h h1]
    have := hidx i h1
    obtain ⟨a, b, c, d⟩ := slot_day (D := s.days) (i := ws.idxOf i) hh hl (by omega) (by omega)
    exact ⟨⟨a, b⟩, c, d⟩
  · obtain ⟨h1, rfl⟩ := block_at hj
    obtain ⟨h2, rfl⟩ := block_at hk
    rw [clF_even h h1 h2, Bool.eq_false_iff]
    intro e
    rw [Bool.and_eq_true, Bool.and_eq_true, beq_iff_eq, decide_eq_true_iff, decide_eq_true_iff] at e
    have := slot_apart hh hl e.1.1 e.1.2 e.2
    have hj2 := hp.mem_iff.mpr (List.mem_range.mpr h1)
    have hk2 := hp.mem_iff.mpr (List.mem_range.mpr h2)
    have e1 := List.getElem_idxOf (List.idxOf_lt_length_iff.mpr hj2)
    have e2 := List.getElem_idxOf (List.idxOf_lt_length_iff.mpr hk2)
    have : j = k := by
      rw [← e1, ← e2]
      congr 1
    omega
theorem nodup_le {α : Type} [DecidableEq α] {xs : List α} {ys : List α} (hn : xs.Nodup) (h : ∀ x ∈ xs, x ∈ ys) : xs.length ≤ ys.length := List.Nodup.length_le_of_subset hn h
theorem plan_room {s : Sy} (h : EvSy s) (hs : S30 s) (hw : 0 < s.works.length) {ps : List P2} (hp : IsPlan s ps) {D : Int} (h0 : 0 ≤ D) {ws : List Nat} (hn : ws.Nodup) (hm : ∀ w ∈ ws, ∃ p, ps[w]? = some p ∧ p.1 + lenA s ≤ D) : (ws.length : Int) ≤ roomF s D := by
  have hl := (lenA_pos hs hw).1
  have hq := div_le h0 hl
  obtain ⟨q, eq⟩ : ∃ q : Nat, D / lenA s = (q : Int) := ⟨(D / lenA s).toNat, by omega⟩
  have key : (ws.map fun w => (((ps[w]?).getD (0, 0)).2.toNat, (((ps[w]?).getD (0, 0)).1 / lenA s).toNat)).length ≤ ((List.range s.hands.length).flatMap fun a => (List.range q).map fun b => (a, b)).length := by
    refine nodup_le ?_ ?_
    · rw [List.Nodup, List.pairwise_map]
      refine List.Pairwise.imp_of_mem (fun {w v} hwm hvm hne e => ?_) hn
      obtain ⟨p, ep, h1⟩ := hm w hwm
      obtain ⟨r, er, h2⟩ := hm v hvm
      rw [ep, er] at e
      simp only [Option.getD_some, Prod.mk.injEq] at e
      have hwl : w < s.works.length := by rw [← hp.len]; exact (List.getElem?_eq_some_iff.mp ep).1
      have hvl : v < s.works.length := by rw [← hp.len]; exact (List.getElem?_eq_some_iff.mp er).1
      have o1 := (okP_even h hwl p).mp (hp.way w p ep)
      have o2 := (okP_even h hvl r).mp (hp.way v r er)
      have e2 : p.2 = r.2 := by omega
      have d1 : 0 ≤ p.1 / lenA s := Int.ediv_nonneg o1.1.1 (by omega)
      have d2 : 0 ≤ r.1 / lenA s := Int.ediv_nonneg o2.1.1 (by omega)
      have e3 : p.1 / lenA s = r.1 / lenA s := by omega
      have g1 := Int.mul_ediv_add_emod p.1 (lenA s)
      have g2 := Int.mul_ediv_add_emod r.1 (lenA s)
      have m1 := Int.emod_nonneg p.1 (show lenA s ≠ 0 by omega)
      have m2 := Int.emod_lt_of_pos p.1 hl
      have m3 := Int.emod_nonneg r.1 (show lenA s ≠ 0 by omega)
      have m4 := Int.emod_lt_of_pos r.1 hl
      rw [e3] at g1
      have cl : ∀ {a b : Nat} {x y : P2}, a < b → a < s.works.length → b < s.works.length → ps[a]? = some x → ps[b]? = some y → x.2 = y.2 → x.1 < y.1 + lenA s → y.1 < x.1 + lenA s → False := fun {a b x y} hab ha hb ea eb c1 c2 c3 => by
        have := hp.ok a b x y hab ea eb
        rw [clF_even h ha hb, c1, beq_self_eq_true, decide_eq_true c2, decide_eq_true c3] at this
        cases this
      rcases Nat.lt_or_gt_of_ne hne with z | z
      · exact cl z hwl hvl ep er e2 (by omega) (by omega)
      · exact cl z hvl hwl er ep e2.symm (by omega) (by omega)
    · intro x hx
      obtain ⟨w, hwm, rfl⟩ := List.mem_map.mp hx
      obtain ⟨p, ep, h1⟩ := hm w hwm
      have hwl : w < s.works.length := by rw [← hp.len]; exact (List.getElem?_eq_some_iff.mp ep).1
      have o1 := (okP_even h hwl p).mp (hp.way w p ep)
      rw [ep]
      simp only [Option.getD_some]
      rw [List.mem_flatMap]
      refine ⟨p.2.toNat, List.mem_range.mpr (by omega), List.mem_map.mpr ⟨_, List.mem_range.mpr ?_, rfl⟩⟩
      have : p.1 / lenA s < D / lenA s := by
        have h3 : (p.1 + lenA s) / lenA s ≤ D / lenA s := Int.ediv_le_ediv hl h1
        rw [Int.add_ediv_of_dvd_right (Int.dvd_refl _), Int.ediv_self (by omega)] at h3
        omega
      have d1 : 0 ≤ p.1 / lenA s := Int.ediv_nonneg o1.1.1 (by omega)
      omega
  rw [List.length_map] at key
  have e : ((List.range s.hands.length).flatMap fun a => (List.range q).map fun b => (a, b)).length = s.hands.length * q := by
    rw [List.length_flatMap]
    simp [List.map_const', List.sum_replicate_nat]
  rw [e] at key
  unfold roomF
  rw [eq]
  exact_mod_cast key
theorem wishes_map (s : Sy) : s.wishes = (List.range s.wishes.length).map (wsAt s) := by
  refine List.ext_getElem (by rw [List.length_map, List.length_range]) fun i h1 h2 => ?_
  rw [List.getElem_map, List.getElem_range]
  unfold wsAt
  rw [List.getElem?_eq_getElem h1]
  rfl
theorem perm_range {n : Nat} {G : List Nat} (hn : G.Nodup) (hl : ∀ k ∈ G, k < n) : G.Perm ((List.range n).filter fun k => decide (k ∈ G)) := by
  rw [List.perm_ext_iff_of_nodup hn (List.nodup_range.sublist List.filter_sublist)]
  intro k
  rw [List.mem_filter, List.mem_range, decide_eq_true_iff]
  exact ⟨fun h => ⟨hl k h, h⟩, fun h => h.2⟩
theorem kp_perm {s : Sy} {ps : List P2} {G : List Nat} (hn : G.Nodup) (hl : ∀ k ∈ G, k < s.wishes.length) (hk : ∀ k, k < s.wishes.length → kpF s ps (wsAt s k) = decide (k ∈ G)) : (kpL s ps).Perm (G.map (wsAt s)) := by
  have e : kpL s ps = ((List.range s.wishes.length).filter fun k => decide (k ∈ G)).map (wsAt s) := by
    unfold kpL
    rw [wishes_map s, List.filter_map]
    rw [← wishes_map s]
    congr 1
    refine List.filter_congr fun k hk2 => ?_
    exact hk k (List.mem_range.mp hk2)
  rw [e]
  exact (perm_range hn hl).symm.map _
theorem cnt_nb {s : Sy} {G : List Nat} (k : Nat) (D : Int) : cntF (G.map (wsAt s)) (wsAt s k) D = nbTo s G k D := by
  unfold cntF nbTo
  rw [← List.countP_eq_length_filter, List.countP_map]
  refine List.countP_congr fun j _ => ?_
  show (if lowF (wsAt s j) (wsAt s k) = true then decide ((wsAt s j).day ≤ D) else false) = true ↔ _
  unfold dayK
  cases lowF (wsAt s j) (wsAt s k) <;> simp
theorem cnt_perm {a b : List Ws} (h : a.Perm b) (u : Ws) (D : Int) : cntF a u D = cntF b u D := by
  unfold cntF
  rw [← List.countP_eq_length_filter, ← List.countP_eq_length_filter]
  exact h.countP_eq _
theorem dayOk_perm {s : Sy} {a b : List Ws} (h : a.Perm b) (k : Nat) (D : Int) : dayOkF s a k D = dayOkF s b k D := by
  unfold dayOkF
  rw [cnt_perm h]
theorem left_eq {s : Sy} {ps : List P2} : leftL s ps = (List.range s.wishes.length).filter fun k => !kpF s ps (wsAt s k) := by
  unfold leftL
  have e : s.wishes.zipIdx = (List.range s.wishes.length).map fun k => (wsAt s k, k) := by
    refine List.ext_getElem (by rw [List.length_zipIdx, List.length_map, List.length_range]) fun i h1 h2 => ?_
    rw [List.getElem_zipIdx, List.getElem_map, List.getElem_range]
    rw [List.length_zipIdx] at h1
    unfold wsAt
    rw [List.getElem?_eq_getElem h1]
    simp
  rw [e, List.filter_map, List.map_map]
  conv => rhs; rw [← List.map_id ((List.range s.wishes.length).filter fun k => !kpF s ps (wsAt s k))]
  rfl
/-- a plan that keeps just what is taken -/
structure Keep (s : Sy) (G : List Nat) (ps : List P2) : Prop where
  tk : Taken s G
  pl : IsPlan s ps
  kp : ∀ k, k < s.wishes.length → kpF s ps (wsAt s k) = decide (k ∈ G)
theorem Keep.left {s : Sy} {G : List Nat} {ps : List P2} (h : Keep s G ps) : leftL s ps = (List.range s.wishes.length).filter fun k => !decide (k ∈ G) := by
  rw [left_eq]
  refine List.filter_congr fun k hk => ?_
  rw [h.kp k (List.mem_range.mp hk)]
theorem Keep.perm {s : Sy} {G : List Nat} {ps : List P2} (h : Keep s G ps) : (kpL s ps).Perm (G.map (wsAt s)) := kp_perm h.tk.nd h.tk.lt h.kp
theorem Keep.day {s : Sy} {G : List Nat} {ps : List P2} (h : Keep s G ps) {k : Nat} (hk : k < s.wishes.length) (hg : k ∉ G) : ∃ D, dayK s k ≤ D ∧ D ≤ s.days ∧ dayOkF s (G.map (wsAt s)) k D = true := by
  obtain ⟨D, h1, _, h3, h4⟩ := h.tk.out k hk hg
  refine ⟨D, h1, h3, ?_⟩
  unfold dayOkF
  rw [cnt_nb, h4]
  exact beq_self_eq_true _
theorem Keep.paper {s : Sy} {G : List Nat} {ps : List P2} (h : Keep s G ps) {qs : List (Nat × Int)} (hq : qs.map (·.1) = (List.range s.wishes.length).filter fun k => !decide (k ∈ G)) (hd : ∀ x ∈ qs, dayK s x.1 ≤ x.2 ∧ x.2 ≤ s.days ∧ dayOkF s (G.map (wsAt s)) x.1 x.2 = true) :
    PapIs s ps (qs.map fun x => .tup [.int (x.1 : Nat), .int x.2]) := by
  refine ⟨h.pl, by rw [List.length_map, h.left, ← hq, List.length_map], ?_⟩
  rw [h.left, ← hq]
  intro x hx
  obtain ⟨i, hi, e⟩ := List.mem_iff_getElem.mp hx
  rw [List.getElem_zip, List.getElem_map, List.getElem_map] at e
  have hil : i < qs.length := by rw [List.length_zip, List.length_map, List.length_map] at hi; omega
  obtain ⟨g1, g2, g3⟩ := hd qs[i] (List.getElem_mem hil)
  subst e
  have c1 : fromF (.int (qs[i].1 : Nat)) (qs[i].1 : Nat) (qs[i].1 : Nat) = true := fromF_iff.mpr ⟨_, rfl, Int.le_refl _, Int.le_refl _⟩
  have c2 : fromF (.int qs[i].2) (wsAt s qs[i].1).day s.days = true := fromF_iff.mpr ⟨_, rfl, g1, g2⟩
  show pairD s (kpL s ps) qs[i].1 (.tup [.int (qs[i].1 : Nat), .int qs[i].2]) = true
  show (if fromF (.int (qs[i].1 : Nat)) (qs[i].1 : Nat) (qs[i].1 : Nat) = true then (if fromF (.int qs[i].2) (wsAt s qs[i].1).day s.days = true then dayOkF s (kpL s ps) qs[i].1 qs[i].2 else false) else false) = true
  rw [c1, c2, if_pos rfl, if_pos rfl, dayOk_perm h.perm]
  exact g3
def restW (s : Sy) (first : List Nat) : List Nat := (List.range s.works.length).filter fun w => !first.any (· == w)
def ordW (s : Sy) (first : List Nat) : List Nat := first ++ restW s first
theorem any_mem_nat {f : List Nat} {i : Nat} : f.any (· == i) = true ↔ i ∈ f := by
  rw [List.any_eq_true]
  exact ⟨fun ⟨x, h, e⟩ => by rw [beq_iff_eq] at e; rwa [← e], fun h => ⟨i, h, beq_self_eq_true _⟩⟩
theorem ordW_perm {s : Sy} {first : List Nat} (hn : first.Nodup) (hl : ∀ w ∈ first, w < s.works.length) : (ordW s first).Perm (List.range s.works.length) := by
  have hr : ∀ w, w ∈ restW s first ↔ w < s.works.length ∧ w ∉ first := fun w => by
    unfold restW
    rw [List.mem_filter, List.mem_range, Bool.not_eq_true', Bool.eq_false_iff]
    exact and_congr_right fun _ => not_congr any_mem_nat
  unfold ordW
  rw [List.perm_ext_iff_of_nodup ?_ List.nodup_range]
  · intro w
    rw [List.mem_append, hr, List.mem_range]
    constructor
    · rintro (h | h)
      · exact hl w h
      · exact h.1
    · intro h
      by_cases hw : w ∈ first
      · exact .inl hw
      · exact .inr ⟨h, hw⟩
  · rw [List.nodup_append]
    refine ⟨hn, List.nodup_range.sublist List.filter_sublist, fun a ha b hb e => ?_⟩
    subst e
    exact ((hr a).mp hb).2 ha
def duesOf (s : Sy) (G : List Nat) : List (Int × Int) := G.map fun k => (dayK s k, (wsAt s k).work)
def firstW (dw : List (Int × Int)) : List Nat := dw.map fun x => x.2.toNat
theorem work_lt {s : Sy} (hs : S30 s) {k : Nat} (hk : k < s.wishes.length) : 0 ≤ (wsAt s k).work ∧ workK s k < s.works.length := by
  have := (hs.wish _ (ws_at hk).2).work
  unfold workK
  omega
theorem work_inj {s : Sy} (h : EvSy s) {i j : Nat} (hi : i < s.wishes.length) (hj : j < s.wishes.length) (e : (wsAt s i).work = (wsAt s j).work) : i = j := by
  have hn := h.nd
  have e1 : wsAt s i = s.wishes[i] := by unfold wsAt; rw [List.getElem?_eq_getElem hi]; rfl
  have e2 : wsAt s j = s.wishes[j] := by unfold wsAt; rw [List.getElem?_eq_getElem hj]; rfl
  rw [e1, e2] at e
  apply Classical.byContradiction
  intro hne
  have hn2 := List.pairwise_iff_getElem.mp hn
  have li : i < (s.wishes.map (·.work)).length := by rw [List.length_map]; exact hi
  have lj : j < (s.wishes.map (·.work)).length := by rw [List.length_map]; exact hj
  rcases Nat.lt_or_gt_of_ne hne with z | z
  · exact hn2 i j li lj z (by rw [List.getElem_map, List.getElem_map]; exact e)
  · exact hn2 j i lj li z (by rw [List.getElem_map, List.getElem_map]; exact e.symm)
theorem works_nd {s : Sy} (h : EvSy s) (hs : S30 s) {G : List Nat} (hn : G.Nodup) (hl : ∀ k ∈ G, k < s.wishes.length) : (G.map (workK s)).Nodup := by
  rw [List.Nodup, List.pairwise_map]
  refine List.Pairwise.imp_of_mem (fun {a b} ha hb hne e => hne ?_) hn
  have h1 := work_lt hs (hl a ha)
  have h2 := work_lt hs (hl b hb)
  unfold workK at e
  exact work_inj h (hl a ha) (hl b hb) (by omega)
theorem first_nd {s : Sy} (h : EvSy s) (hs : S30 s) {G : List Nat} (hn : G.Nodup) (hl : ∀ k ∈ G, k < s.wishes.length) {dw : List (Int × Int)} (hp : dw.Perm (duesOf s G)) : (firstW dw).Nodup ∧ ∀ w ∈ firstW dw, w < s.works.length := by
  have hp2 : (firstW dw).Perm (G.map (workK s)) := by
    have := hp.map fun x : Int × Int => x.2.toNat
    unfold duesOf at this
    rw [List.map_map] at this
    exact this
  refine ⟨hp2.nodup_iff.mpr (works_nd h hs hn hl), fun w hw => ?_⟩
  obtain ⟨k, hk, rfl⟩ := List.mem_map.mp (hp2.mem_iff.mp hw)
  exact (work_lt hs (hl k hk)).2
theorem due_slot {s : Sy} {G : List Nat} (hf : Feas s G) (h0 : ∀ k ∈ G, 0 ≤ dayK s k ∧ dayK s k ≤ s.days) {dw : List (Int × Int)} (hp : dw.Perm (duesOf s G)) (hs : dw.Pairwise LexLe) {i : Nat} {x : Int × Int} (hi : dw[i]? = some x) : (i : Int) + 1 ≤ roomF s x.1 := by
  have hx : x ∈ duesOf s G := hp.mem_iff.mp (List.mem_of_getElem? hi)
  obtain ⟨k, hk, rfl⟩ := List.mem_map.mp hx
  have hd := h0 k hk
  have h1 := hf (dayK s k) hd.1 hd.2
  have h2 : upTo s G (dayK s k) = dw.countP fun y => decide (y.1 ≤ dayK s k) := by
    rw [hp.countP_eq]
    unfold upTo duesOf
    rw [List.countP_map]
    rfl
  have hil := (List.getElem?_eq_some_iff.mp hi).1
  have h3 : i + 1 ≤ dw.countP fun y => decide (y.1 ≤ dayK s k) := by
    have e : dw = dw.take (i + 1) ++ dw.drop (i + 1) := (List.take_append_drop _ _).symm
    rw [e, List.countP_append]
    have : (dw.take (i + 1)).countP (fun y => decide (y.1 ≤ dayK s k)) = (dw.take (i + 1)).length := by
      rw [List.countP_eq_length]
      intro y hy
      obtain ⟨j, hj, e⟩ := List.mem_iff_getElem.mp hy
      rw [List.length_take] at hj
      rw [List.getElem_take] at e
      rw [decide_eq_true_iff]
      have ei := (List.getElem?_eq_some_iff.mp hi).2
      by_cases hji : j = i
      · subst hji
        rw [← e, ei]
        exact Int.le_refl _
      · have := List.pairwise_iff_getElem.mp hs j i (by omega) hil (by omega)
        rw [e, ei] at this
        unfold LexLe at this
        dsimp only at this
        omega
    rw [this, List.length_take]
    omega
  show (i : Int) + 1 ≤ roomF s (dayK s k)
  omega
theorem block_wayOf {s : Sy} (hs : S30 s) {k : Nat} (hk : k < s.wishes.length) {ws : List Nat} : wayOf (blockP s ws) (wsAt s k) = slotP s (ws.idxOf (workK s k)) := by
  have := (work_lt hs hk).2
  unfold wayOf blockP
  show ((List.map _ _)[workK s k]?).getD (0, 0) = _
  rw [List.getElem?_map, List.getElem?_range this]
  rfl
theorem kpF_iff {s : Sy} (h : EvSy s) (hs : S30 s) {ps : List P2} {k : Nat} (hk : k < s.wishes.length) : kpF s ps (wsAt s k) = decide ((wayOf ps (wsAt s k)).1 + lenA s ≤ dayK s k) := by
  unfold kpF keptF
  have e1 : ((wsAt s k).kind == 0) = false := by rw [h.kind _ (ws_at hk).2]; rfl
  have e2 : (wkAt s (wsAt s k).work.toNat).len = lenA s := by rw [even_wk h (show (wsAt s k).work.toNat < s.works.length from (work_lt hs hk).2)]
  rw [e1, if_neg Bool.false_ne_true, e2]
  rfl
theorem kept_few {s : Sy} (h : EvSy s) (hs : S30 s) {ps : List P2} (hp : IsPlan s ps) {F : List Nat} (hn : F.Nodup) (hl : ∀ k ∈ F, k < s.wishes.length) (hk : ∀ k ∈ F, kpF s ps (wsAt s k) = true) {D : Int} (h0 : 0 ≤ D) (hd : ∀ k ∈ F, dayK s k ≤ D) (hw : 0 < s.works.length) : (F.length : Int) ≤ roomF s D := by
  have := plan_room h hs hw hp h0 (works_nd h hs hn hl) fun w hw => by
    obtain ⟨k, hkm, rfl⟩ := List.mem_map.mp hw
    have hwl := (work_lt hs (hl k hkm)).2
    have h1 := hk k hkm
    rw [kpF_iff h hs (hl k hkm), decide_eq_true_iff] at h1
    have e : ps[workK s k]? = some (wayOf ps (wsAt s k)) := by
      unfold wayOf
      show ps[workK s k]? = some ((ps[workK s k]?).getD (0, 0))
      rw [List.getElem?_eq_getElem (by rw [hp.len]; exact hwl)]
      rfl
    exact ⟨_, e, by have := hd k hkm; omega⟩
  rwa [List.length_map] at this
theorem idx_get {xs : List Nat} (hn : xs.Nodup) {i : Nat} (hi : i < xs.length) : xs.idxOf xs[i] = i := by
  have hm : xs[i] ∈ xs := List.getElem_mem hi
  have hl := List.idxOf_lt_length_iff.mpr hm
  have e := List.getElem_idxOf hl
  apply Classical.byContradiction
  intro hne
  have hn2 := List.pairwise_iff_getElem.mp hn
  rcases Nat.lt_or_gt_of_ne hne with z | z
  · exact hn2 _ _ hl hi z e
  · exact hn2 _ _ hi hl z e.symm
theorem keep_of {s : Sy} (h : EvSy s) (hs : S30 s) (hw : 0 < s.works.length) (hr : (s.works.length : Int) ≤ roomF s s.days) {G : List Nat} (hT : Taken s G) {dw : List (Int × Int)} (hp : dw.Perm (duesOf s G)) (hso : dw.Pairwise LexLe) : Keep s G (blockP s (ordW s (firstW dw))) := by
  have hday : ∀ k, k < s.wishes.length → 0 ≤ dayK s k ∧ dayK s k ≤ s.days := fun k hk => (hs.wish _ (ws_at hk).2).day
  obtain ⟨fn, fl⟩ := first_nd h hs hT.nd hT.lt hp
  have hpl := block_plan h hs hw (ordW_perm fn fl) hr
  have hl0 := (lenA_pos hs hw).1
  have hh : 0 < s.hands.length := by have := hs.hands; omega
  have hin : ∀ k ∈ G, kpF s (blockP s (ordW s (firstW dw))) (wsAt s k) = true := fun k hk => by
    have hkl := hT.lt k hk
    rw [kpF_iff h hs hkl, block_wayOf hs hkl, decide_eq_true_iff]
    have hx : (dayK s k, (wsAt s k).work) ∈ dw := hp.mem_iff.mpr (List.mem_map.mpr ⟨k, hk, rfl⟩)
    obtain ⟨i, hi⟩ := List.mem_iff_getElem?.mp hx
    have hil := (List.getElem?_eq_some_iff.mp hi).1
    have e : (ordW s (firstW dw)).idxOf (workK s k) = i := by
      unfold ordW
      have e1 : (firstW dw)[i]? = some (workK s k) := by unfold firstW; rw [List.getElem?_map, hi]; rfl
      have hil2 := (List.getElem?_eq_some_iff.mp e1).1
      rw [List.idxOf_append, if_pos (List.mem_of_getElem? e1), ← (List.getElem?_eq_some_iff.mp e1).2]
      exact idx_get fn hil2
    rw [e]
    exact (slot_day hh hl0 (hday k hkl).1 (due_slot hT.feas (fun k hk => hday k (hT.lt k hk)) hp hso hi)).2.1
  refine ⟨hT, hpl, fun k hk => ?_⟩
  by_cases hg : k ∈ G
  · rw [decide_eq_true hg]; exact hin k hg
  · rw [decide_eq_false hg, Bool.eq_false_iff]
    intro hkp
    obtain ⟨D, h1, h2, h3, h4⟩ := hT.out k hk hg
    have hF := kept_few h hs hpl (F := k :: G.filter fun j => lowF (wsAt s j) (wsAt s k) && decide (dayK s j ≤ D)) (List.nodup_cons.mpr ⟨fun z => hg (List.mem_filter.mp z).1, hT.nd.sublist List.filter_sublist⟩)
      (fun j hj => by
        rcases List.mem_cons.mp hj with e | hj
        · rw [e]; exact hk
        · exact hT.lt j (List.mem_filter.mp hj).1)
      (fun j hj => by
        rcases List.mem_cons.mp hj with e | hj
        · rw [e]; exact hkp
        · exact hin j (List.mem_filter.mp hj).1)
      h2
      (fun j hj => by
        rcases List.mem_cons.mp hj with e | hj
        · rw [e]; exact h1
        · have := (List.mem_filter.mp hj).2
          rw [Bool.and_eq_true, decide_eq_true_iff] at this
          exact this.2) hw
    rw [List.length_cons, ← List.countP_eq_length_filter] at hF
    unfold nbTo at h4
    omega
def encO : Option P2 → D
  | none => .non
  | some p => encP p
theorem range_nat (n : Nat) : rangeD 0 n = (List.range n).map natE := by
  unfold rangeD natE
  refine List.map_congr_left fun i _ => ?_
  rw [Int.zero_add]
theorem enum_wishes (s : Sy) : enumD (s.wishes.map Ws.d) = (List.range s.wishes.length).map fun k => .tup [.int (k : Nat), (wsAt s k).d] := by
  rw [enum_map]
  have e : s.wishes.zipIdx = (List.range s.wishes.length).map fun k => (wsAt s k, k) := by
    refine List.ext_getElem (by rw [List.length_zipIdx, List.length_map, List.length_range]) fun i h1 h2 => ?_
    rw [List.getElem_zipIdx, List.getElem_map, List.getElem_range]
    rw [List.length_zipIdx] at h1
    unfold wsAt
    rw [List.getElem?_eq_getElem h1]
    simp
  rw [e, List.map_map]
  rfl
def keyR (s : Sy) (i j : Nat) : Prop := (wsAt s i).rank < (wsAt s j).rank ∨ ((wsAt s i).rank = (wsAt s j).rank ∧ ((wsAt s j).weight < (wsAt s i).weight ∨ ((wsAt s i).weight = (wsAt s j).weight ∧ i < j)))
theorem keyR_low {s : Sy} {i j : Nat} (h : keyR s i j) : lowF (wsAt s i) (wsAt s j) = true := by
  unfold keyR at h
  unfold lowF
  by_cases h1 : (wsAt s i).rank < (wsAt s j).rank
  · rw [if_pos h1]
  · rw [if_neg h1, if_pos (beq_iff_eq.mpr (by omega)), decide_eq_true_iff]
    omega
theorem ord_of {s : Sy} {os : List Nat} (hp : os.Pairwise (keyR s)) (hm : ∀ k, k ∈ os ↔ k < s.wishes.length) : OrdOk s os := by
  have hn : os.Nodup := hp.imp fun {i j} h e => by
    subst e
    unfold keyR at h
    omega
  refine ⟨(List.perm_ext_iff_of_nodup hn List.nodup_range).mpr fun k => by rw [hm, List.mem_range], hp.imp keyR_low⟩
def atRW (s : Sy) (r w : Int) : List Nat := (List.range s.wishes.length).filter fun k => (wsAt s k).rank == r && (wsAt s k).weight == w
def downI (hi : Int) (n : Nat) : List Int := (List.range n).map fun (i : Nat) => hi - i
def lowO (s : Sy) : List Nat := (rangeI 0 4).flatMap fun r => (downI 100 100).flatMap fun w => atRW s r w
theorem mem_downI {hi x : Int} {n : Nat} : x ∈ downI hi n ↔ hi - n < x ∧ x ≤ hi := by
  unfold downI
  rw [List.mem_map]
  constructor
  · rintro ⟨i, hi, rfl⟩
    rw [List.mem_range] at hi
    omega
  · rintro ⟨h1, h2⟩
    exact ⟨(hi - x).toNat, List.mem_range.mpr (by omega), by omega⟩
theorem mem_at {s : Sy} {r w : Int} {k : Nat} : k ∈ atRW s r w ↔ k < s.wishes.length ∧ (wsAt s k).rank = r ∧ (wsAt s k).weight = w := by
  unfold atRW
  rw [List.mem_filter, List.mem_range, Bool.and_eq_true, beq_iff_eq, beq_iff_eq]
theorem lowO_key {s : Sy} : (lowO s).Pairwise (keyR s) := by
  · unfold lowO
    rw [List.pairwise_flatMap]
    refine ⟨fun r _ => ?_, ?_⟩
    · rw [List.pairwise_flatMap]
      refine ⟨fun w _ => ?_, ?_⟩
      · refine List.Pairwise.imp_of_mem (fun {i j} hi hj h => ?_) (List.pairwise_lt_range.sublist List.filter_sublist)
        have hi := mem_at.mp hi
        have hj := mem_at.mp hj
        unfold keyR
        omega
      · unfold downI
        rw [List.pairwise_map]
        refine List.pairwise_lt_range.imp fun {a b} h x hx y hy => ?_
        have hx := mem_at.mp hx
        have hy := mem_at.mp hy
        unfold keyR
        omega
    · unfold rangeI
      rw [List.pairwise_map]
      refine List.pairwise_lt_range.imp fun {a b} h x hx y hy => ?_
      rw [List.mem_flatMap] at hx hy
      obtain ⟨w1, _, hx⟩ := hx
      obtain ⟨w2, _, hy⟩ := hy
      have hx := mem_at.mp hx
      have hy := mem_at.mp hy
      unfold keyR
      omega
theorem lowO_mem {s : Sy} (hs : S30 s) (k : Nat) : k ∈ lowO s ↔ k < s.wishes.length := by
  · unfold lowO
    rw [List.mem_flatMap]
    constructor
    · rintro ⟨r, _, h⟩
      rw [List.mem_flatMap] at h
      obtain ⟨w, _, h⟩ := h
      exact (mem_at.mp h).1
    · intro hk
      have hu := hs.wish _ (ws_at hk).2
      have g1 := hu.rank
      have g2 := hu.weight
      refine ⟨(wsAt s k).rank, mem_rangeI.mpr (by omega), ?_⟩
      rw [List.mem_flatMap]
      exact ⟨(wsAt s k).weight, mem_downI.mpr (by omega), mem_at.mpr ⟨hk, rfl, rfl⟩⟩
theorem lowO_ok {s : Sy} (hs : S30 s) : OrdOk s (lowO s) := ord_of lowO_key (lowO_mem hs)
theorem v_addR2 {n : Nat} {ds : List D} {b : D} {st : Sto} {Q : DK} (h : st[n]? = some (.lst ds)) : dAdd (.ref n) b st Q = dAdd (.lst ds) b st Q := by
  unfold dAdd
  rw [rd_ref' h]
  rfl
theorem blwL_nats (n : Nat) : ∀ ks : List Nat, D.blwL n (ks.map natE) = true
  | [] => rfl
  | k :: r => by rw [List.map_cons, D.blwL, blwL_nats n r]; rfl
theorem blw_nats (n : Nat) (ks : List Nat) : D.blw n (.lst (ks.map natE)) = true := by simp only [D.blw, blwL_nats]
theorem any_cast (ks : List Nat) (w : Nat) : (ks.map fun (k : Nat) => (k : Int)).any (· == (w : Int)) = ks.any (· == w) := by
  rw [List.any_map]
  congr 1
  funext k
  show ((k : Int) == (w : Int)) = (k == w)
  rw [Bool.eq_iff_iff, beq_iff_eq, beq_iff_eq]
  omega
theorem nats_ints (ks : List Nat) : ks.map natE = (ks.map fun (k : Nat) => (k : Int)).map .int := by rw [List.map_map]; rfl
theorem v_inNat {w : Nat} {ks : List Nat} {f : Bool → Bool} {st : Sto} {Q : DK} (q : Q (.bl (f (ks.any (· == w)))) st) : dInB f (.int (w : Nat)) (.lst (ks.map natE)) st Q := by
  rw [nats_ints]
  refine dIn_ints ?_
  rw [any_cast]
  exact q
def gvB (s : Sy) (ws : List Nat) (i : Nat) : List (Option P2) := (List.range s.works.length).map fun w => if ws.idxOf w < i then some (slotP s (ws.idxOf w)) else none
theorem gvB_zero (s : Sy) (ws : List Nat) : gvB s ws 0 = List.replicate s.works.length none := by
  unfold gvB
  refine List.ext_getElem (by rw [List.length_map, List.length_range, List.length_replicate]) fun i h1 h2 => ?_
  rw [List.getElem_map, List.getElem_replicate, if_neg (by omega)]
theorem gvB_succ {s : Sy} {ws : List Nat} (hn : ws.Nodup) {i w : Nat} (hi : ws[i]? = some w) : (gvB s ws i).set w (some (slotP s i)) = gvB s ws (i + 1) := by
  have hil := (List.getElem?_eq_some_iff.mp hi).1
  have e : ws.idxOf w = i := by
    rw [← (List.getElem?_eq_some_iff.mp hi).2]
    exact idx_get hn hil
  unfold gvB
  refine List.ext_getElem (by rw [List.length_set, List.length_map, List.length_map]) fun j h1 h2 => ?_
  rw [List.getElem_set, List.getElem_map, List.getElem_map, List.getElem_range]
  by_cases hj : w = j
  · subst hj
    rw [if_pos rfl, e, if_pos (by omega)]
  · rw [if_neg hj]
    have hne : ws.idxOf j ≠ i := fun h => by
      by_cases hm : j ∈ ws
      · have := List.getElem_idxOf (List.idxOf_lt_length_iff.mpr hm)
        simp only [h] at this
        rw [(List.getElem?_eq_some_iff.mp hi).2] at this
        exact hj this
      · have := List.idxOf_eq_length hm
        omega
    by_cases hl : ws.idxOf j < i
    · rw [if_pos hl, if_pos (by omega)]
    · rw [if_neg hl, if_neg (by omega)]
theorem gvB_all {s : Sy} {ws : List Nat} (hp : ws.Perm (List.range s.works.length)) : (gvB s ws s.works.length).map encO = (blockP s ws).map encP := by
  unfold gvB blockP
  rw [List.map_map, List.map_map]
  refine List.map_congr_left fun w hw => ?_
  have : ws.idxOf w < s.works.length := by
    have := List.idxOf_lt_length_iff.mpr (hp.mem_iff.mpr hw)
    rwa [hp.length_eq, List.length_range] at this
  show encO (if ws.idxOf w < s.works.length then some (slotP s (ws.idxOf w)) else none) = _
  rw [if_pos this]
  show encO (some (slotP s (ws.idxOf w))) = encP (slotP s (ws.idxOf w))
  rfl
def RoomOk (s : Sy) : Prop := s.works.length = 0 ∨ (s.works.length : Int) ≤ roomF s s.days
theorem no_wish {s : Sy} (hs : S30 s) (h : s.works.length = 0) : s.wishes.length = 0 := by
  cases e : s.wishes with
  | nil => rfl
  | cons u r =>
    have := (hs.wish u (by rw [e]; exact List.mem_cons_self)).work
    omega
theorem feas_none {s : Sy} (hs : S30 s) (h : s.works.length = 0) : Feas s [] := fun D h0 _ => by
  show (0 : Int) ≤ roomF s D
  unfold roomF lenA wkAt
  rw [List.getElem?_eq_none (by omega)]
  simp
theorem taken_law {s : Sy} (hs : S30 s) {os : List Nat} (ho : OrdOk s os) : Taken s (takeF s os) := by
  by_cases hw : s.works.length = 0
  · have hn := no_wish hs hw
    have e : os = [] := by
      have := ho.perm.length_eq
      rw [hn, List.length_range] at this
      exact List.eq_nil_of_length_eq_zero this
    subst e
    exact ⟨List.nodup_nil, (fun k h => nomatch h), feas_none hs hw, fun k hk => by omega⟩
  · exact taken_of hs (by omega) ho
theorem keep_law {s : Sy} (h : EvSy s) (hs : S30 s) (hr : RoomOk s) {G : List Nat} (hT : Taken s G) {dw : List (Int × Int)} (hp : dw.Perm (duesOf s G)) (hso : dw.Pairwise LexLe) : Keep s G (blockP s (ordW s (firstW dw))) := by
  by_cases hw : s.works.length = 0
  · have hn := no_wish hs hw
    refine ⟨hT, ⟨by unfold blockP; rw [List.length_map, List.length_range], fun i p hi => ?_, fun j k q p _ hj => ?_⟩, fun k hk => by omega⟩
    · have := (block_at hi).1
      omega
    · have := (block_at hj).1
      omega
  · rcases hr with hr | hr
    · exact absurd hr hw
    · exact keep_of h hs (by omega) hr hT hp hso
def pairQ (x : Nat × Int) : D := .tup [.int (x.1 : Nat), .int x.2]
def outG (G : List Nat) (n : Nat) : List Nat := (List.range n).filter fun k => !decide (k ∈ G)
def QsOk (s : Sy) (G : List Nat) (qs : List (Nat × Int)) (n : Nat) : Prop := qs.map (·.1) = outG G n ∧ ∀ x ∈ qs, dayK s x.1 ≤ x.2 ∧ x.2 ≤ s.days ∧ dayOkF s (G.map (wsAt s)) x.1 x.2 = true
theorem qs_len {s : Sy} {G : List Nat} {qs : List (Nat × Int)} {n : Nat} (h : QsOk s G qs n) : qs.length ≤ n := by
  have := congrArg List.length h.1
  rw [List.length_map] at this
  unfold outG at this
  have h2 := List.length_filter_le (fun k => !decide (k ∈ G)) (List.range n)
  rw [List.length_range] at h2
  omega
theorem blw_pq (n : Nat) (ps : List P2) (qs : List (Nat × Int)) : D.blw n (.tup [encR ps, .tup (qs.map pairQ)]) = true := by
  have h2 : D.blw n (encR ps) = true := blw_encP n ps
  have h3 : ∀ qs : List (Nat × Int), D.blwL n (qs.map pairQ) = true := fun qs => by
    induction qs with
    | nil => rfl
    | cons x r ih => rw [List.map_cons, D.blwL, ih]; rfl
  show D.blwL n [encR ps, .tup (qs.map pairQ)] = true
  simp only [D.blwL, D.blw, h3, h2, Bool.and_self, Bool.and_true]
noncomputable def takG (s : Sy) : List Nat := takeF s (lowO s)
theorem sorted_ext {α : Type} {lt : α → α → Prop} (asym : ∀ a b, lt a b → lt b a → False) : ∀ {l m : List α}, l.Pairwise lt → m.Pairwise lt → (∀ a, a ∈ l ↔ a ∈ m) → l = m
  | [], [], _, _, _ => rfl
  | [], b :: m, _, _, h => absurd ((h b).mpr List.mem_cons_self) List.not_mem_nil
  | a :: l, [], _, _, h => absurd ((h a).mp List.mem_cons_self) List.not_mem_nil
  | a :: l, b :: m, hl, hm, h => by
    rw [List.pairwise_cons] at hl hm
    have e : a = b := by
      rcases List.mem_cons.mp ((h a).mp List.mem_cons_self) with e | h1
      · exact e
      · rcases List.mem_cons.mp ((h b).mpr List.mem_cons_self) with e | h2
        · exact e.symm
        · exact (asym a b (hl.1 b h2) (hm.1 a h1)).elim
    subst e
    have ih := sorted_ext asym hl.2 hm.2 fun x => by
      have hx := h x
      constructor
      · intro hx1
        rcases List.mem_cons.mp (hx.mp (List.mem_cons_of_mem _ hx1)) with e | h2
        · subst e; exact (asym x x (hl.1 x hx1) (hl.1 x hx1)).elim
        · exact h2
      · intro hx1
        rcases List.mem_cons.mp (hx.mpr (List.mem_cons_of_mem _ hx1)) with e | h2
        · subst e; exact (asym x x (hm.1 x hx1) (hm.1 x hx1)).elim
        · exact h2
    rw [ih]
theorem room_mono {s : Sy} {a b : Int} (hl : 0 < lenA s) (h : a ≤ b) : roomF s a ≤ roomF s b := by
  unfold roomF
  exact Int.mul_le_mul_of_nonneg_left (Int.ediv_le_ediv hl h) (by omega)
theorem fits_iff {s : Sy} (hl : 0 < lenA s) {G : List Nat} (hd : ∀ k ∈ G, 0 ≤ dayK s k ∧ dayK s k ≤ s.days) {ns : List Int} (hp : ns.Perm (G.map (dayK s))) (hs : ns.Pairwise (· ≤ ·)) :
    Feas s G ↔ ∀ (i : Nat) d, ns[i]? = some d → (i : Int) + 1 ≤ roomF s d := by
  have hc : ∀ D, upTo s G D = ns.countP fun d => decide (d ≤ D) := fun D => by
    rw [hp.countP_eq, List.countP_map]
    rfl
  constructor
  · intro hf i d hi
    have hil := (List.getElem?_eq_some_iff.mp hi).1
    have hdm := List.mem_of_getElem? hi
    obtain ⟨k, hk, e⟩ := List.mem_map.mp (hp.mem_iff.mp hdm)
    have hb := hd k hk
    rw [e] at hb
    have h1 := hf d hb.1 hb.2
    rw [hc] at h1
    have h3 : i + 1 ≤ ns.countP fun y => decide (y ≤ d) := by
      rw [(List.take_append_drop (i + 1) ns).symm, List.countP_append]
      have : (ns.take (i + 1)).countP (fun y => decide (y ≤ d)) = (ns.take (i + 1)).length := by
        rw [List.countP_eq_length]
        intro y hy
        obtain ⟨j, hj, e⟩ := List.mem_iff_getElem.mp hy
        rw [List.length_take] at hj
        rw [List.getElem_take] at e
        rw [decide_eq_true_iff]
        have ei := (List.getElem?_eq_some_iff.mp hi).2
        by_cases hji : j = i
        · subst hji; rw [← e, ei]; exact Int.le_refl _
        · have := List.pairwise_iff_getElem.mp hs j i (by omega) hil (by omega)
          rw [e, ei] at this
          exact this
      rw [this, List.length_take]
      omega
    omega
  · intro h D h0 h1
    rw [hc]
    obtain ⟨c, ec⟩ : ∃ c, c = ns.countP fun d => decide (d ≤ D) := ⟨_, rfl⟩
    rw [← ec]
    cases c with
    | zero =>
      have h2 := (div_le h0 hl).1
      unfold roomF
      exact Int.mul_nonneg (by omega) h2
    | succ c =>
      have hlen : c < ns.length := by have := List.countP_le_length (p := fun d => decide (d ≤ D)) (l := ns); omega
      have h2 := h c ns[c] (List.getElem?_eq_getElem hlen)
      have h3 : ns[c] ≤ D := by
        apply Classical.byContradiction
        intro hn
        have e : (ns.drop c).countP (fun d => decide (d ≤ D)) = 0 := by
          rw [List.countP_eq_zero]
          intro y hy
          obtain ⟨j, hj, e⟩ := List.mem_iff_getElem.mp hy
          rw [List.length_drop] at hj
          rw [List.getElem_drop] at e
          rw [decide_eq_true_iff]
          have : ns[c] ≤ y := by
            cases j with
            | zero => rw [← e]; exact Int.le_refl _
            | succ j =>
              have := List.pairwise_iff_getElem.mp hs c (c + (j + 1)) hlen (by omega) (by omega)
              rw [← e]; exact this
          omega
        have e2 : ns.countP (fun d => decide (d ≤ D)) = (ns.take c).countP (fun d => decide (d ≤ D)) + (ns.drop c).countP (fun d => decide (d ≤ D)) := by
          rw [← List.countP_append, List.take_append_drop]
        have e3 := List.countP_le_length (p := fun d => decide (d ≤ D)) (l := ns.take c)
        rw [List.length_take] at e3
        omega
      have := room_mono (s := s) hl h3
      omega
def w_p_do_fit_1 : DS := wIf (wTest (wOp dGt (wOp dAdd (wVar 2) (wC (.int 1))) (wCall S_p_room_up_to (wCons (wVar 0) (wCons (wVar 3) (wNil)))))) (wRet (wC (.bl false))) ((fun D env st => D.nx env st))
def w_p_do_fit : DS := wSeq (wFor (iEnum (wCB (bSortK false) (wCons (wVar 1) (wNil)))) (gTp 2 (gCn (gNm 2) (gCn (gNm 3) gNl))) w_p_do_fit_1) (wRet (wC (.bl true)))
noncomputable def S_p_do_fit : DL.Spec := pureS 2 (fun x : Sy × List Nat => [x.1.d, .lst ((x.2.map (dayK x.1)).map .int)]) (fun x => S30 x.1 ∧ 0 < x.1.works.length ∧ (∀ k ∈ x.2, k < x.1.wishes.length) ∧ x.2.length ≤ 1000) (fun x => .bl (tr (Feas x.1 x.2)))
theorem vc_p_do_fit : ∀ g sto, (S_p_do_fit.args g).length = S_p_do_fit.n → S_p_do_fit.pre g sto → w_p_do_fit (bodyEnds (S_p_do_fit.post g sto)) (startE ["system", "days", "place", "day"] (S_p_do_fit.args g)) sto := by
  rintro ⟨s, G⟩ sto _ ⟨hs, hw, hG, hl⟩
  dsimp only at hs hw hG hl
  have hl0 := (lenA_pos hs hw).1
  have hdd := hs.days
  have hday : ∀ k ∈ G, 0 ≤ dayK s k ∧ dayK s k ≤ s.days := fun k hk => (hs.wish _ (ws_at (hG k hk)).2).day
  simp? only [w_p_do_fit, S_p_do_fit, pureS, wFor]
  refine Or.inl ⟨_, rfl, Or.inl ⟨G.map (dayK s), rfl, fun ns hp hso => ?_⟩⟩
  have hiff := fits_iff hl0 hday hp hso
  have hnl : ns.length ≤ 1000 := by rw [hp.length_eq, List.length_map]; exact hl
  (try simp? only [true_and])
  rw [enum_map]
  refine forL_inv (fun i e st => (∃ x2 x3, e = [some s.d, some (.lst ((G.map (dayK s)).map .int)), x2, x3]) ∧ (∀ (j : Nat) d, j < i → ns[j]? = some d → (j : Int) + 1 ≤ roomF s d) ∧ sto = st) ?_ ?_ _ _ ⟨⟨_, _, rfl⟩, fun j d hj => absurd hj (Nat.not_lt_zero _), rfl⟩
  · rintro i e st d ⟨⟨x2, x3, rfl⟩, hj, rfl⟩ he R hR
    rw [List.getElem?_map] at he
    cases hy : ns.zipIdx[i]? with
    | none => rw [hy] at he; cases he
    | some y =>
      rw [hy] at he
      cases he
      have hz : ns[i]? = some y.1 ∧ y.2 = i := by
        rw [List.getElem?_zipIdx] at hy
        cases h : ns[i]? with
        | none => rw [h] at hy; cases hy
        | some w => rw [h] at hy; cases hy; exact ⟨rfl, by simp⟩
      obtain ⟨k, hk, e⟩ := List.mem_map.mp (hp.mem_iff.mp (List.mem_of_getElem? hz.1))
      have hb := hday k hk
      rw [e] at hb
      refine ⟨trivial, ?_⟩
      simp?! only [w_p_do_fit_1]
      refine use_pure (s, y.1) rfl rfl ⟨hs, hw, hb.1, by show y.1 ≤ 1000; omega⟩ ?_
      (try simp?! only [true_and])
      by_cases h : roomF s y.1 < (y.2 : Int) + 1
      · rw [if_pos h]
        (try refine ⟨rfl, ?_⟩)
        rw [tr_false fun hf => by have := hiff.mp hf i y.1 hz.1; rw [hz.2] at h; omega]
      · rw [if_neg h]
        refine hR _ _ ⟨⟨_, _, rfl⟩, fun j d hji hd => ?_, rfl⟩
        by_cases e1 : j < i
        · exact hj j d e1 hd
        · rw [show j = i by omega, hz.1] at hd
          cases hd
          rw [hz.2] at h
          rw [show j = i by omega]
          omega
  · rintro e st ⟨⟨x2, x3, rfl⟩, hj, rfl⟩
    refine ⟨trivial, ?_⟩
    rw [List.length_map, List.length_zipIdx] at hj
    (try refine ⟨rfl, ?_⟩)
    rw [tr_true (hiff.mpr fun i d hi => hj i d (List.getElem?_eq_some_iff.mp hi).1 hi)]
def tri (s : Sy) (k : Nat) : T3 := ((wsAt s k).rank, 0 - (wsAt s k).weight, (k : Int))
theorem ord_tri {s : Sy} (hs : S30 s) {ps : List T3} (hp : ps.Perm ((List.range s.wishes.length).map (tri s))) (hso : ps.Pairwise fun a b => ¬Lt3 b a) : ps.map (fun p => p.2.2.toNat) = lowO s := by
  have hpo : (ps.map fun p => p.2.2.toNat).Perm (List.range s.wishes.length) := by
    have := hp.map fun p : T3 => p.2.2.toNat
    rw [List.map_map] at this
    have e : (List.range s.wishes.length).map ((fun p : T3 => p.2.2.toNat) ∘ tri s) = List.range s.wishes.length := by
      conv => rhs; rw [← List.map_id (List.range s.wishes.length)]
      exact List.map_congr_left fun k _ => by show ((k : Int)).toNat = k; omega
    rwa [e] at this
  have hn : (ps.map fun p => p.2.2.toNat).Nodup := hpo.nodup_iff.mpr List.nodup_range
  refine sorted_ext (lt := keyR s) (fun a b h1 h2 => by unfold keyR at h1 h2; omega) ?_ lowO_key fun k => ?_
  · rw [List.pairwise_map]
    have hn2 : ps.Pairwise fun a b => a.2.2.toNat ≠ b.2.2.toNat := List.pairwise_map.mp hn
    refine List.Pairwise.imp_of_mem (fun {a b} ha hb h => ?_) (hso.and hn2)
    obtain ⟨i, _, rfl⟩ := List.mem_map.mp (hp.mem_iff.mp ha)
    obtain ⟨j, _, rfl⟩ := List.mem_map.mp (hp.mem_iff.mp hb)
    obtain ⟨h1, h2⟩ := h
    unfold Lt3 tri at h1
    unfold tri at h2 ⊢
    unfold keyR
    dsimp only at h1 h2 ⊢
    rw [Int.toNat_natCast, Int.toNat_natCast] at h2 ⊢
    omega
  · rw [lowO_mem hs, hpo.mem_iff, List.mem_range]
def w_p_taken_wishes_1 : DE := wTup (wCons (wOp dIx (wVar 8) (wC (.int 4))) (wCons (wOp dSub (wC (.int 0)) (wOp dIx (wVar 8) (wC (.int 3)))) (wCons (wVar 6) (wNil))))
def w_p_taken_wishes_2 : DS := wSeq (wAsg (wOp dIx (wOp dIx (wOp dIx (wVar 0) (wC (.int 3))) (wVar 6)) (wC (.int 2))) (gNm 7)) (wIf (wTest (wCall S_p_do_fit (wCons (wVar 0) (wCons (wOp dAdd (wVar 3) (wLst false (wCons (wVar 7) (wNil)))) (wNil))))) (wSeq (wDrop (wM mAppend (wVar 2) (wCons (wVar 6) (wNil)))) (wDrop (wM mAppend (wVar 3) (wCons (wVar 7) (wNil))))) ((fun D env st => D.nx env st)))
def w_p_taken_wishes : DS := wSeq (wAsg (wCB (bSort3 false) (wCons (wComp false (iEnum (wOp dIx (wVar 0) (wC (.int 3)))) (.tp [6, 8]) wYes w_p_taken_wishes_1 [6, 8]) (wNil))) (gNm 1)) (wSeq (wAsg (wLst true (wNil)) (gNm 2)) (wSeq (wAsg (wLst true (wNil)) (gNm 3)) (wSeq (wFor (iSeq (wVar 1)) (gTp 3 (gCn (gNm 4) (gCn (gNm 5) (gCn (gNm 6) gNl)))) w_p_taken_wishes_2) (wRet (wFrz 2)))))
noncomputable def S_p_taken_wishes : DL.Spec := pureS 1 (fun s : Sy => [s.d]) S30 (fun s => .lst ((takG s).map natE))
theorem vc_p_taken_wishes : ∀ g sto, (S_p_taken_wishes.args g).length = S_p_taken_wishes.n → S_p_taken_wishes.pre g sto → w_p_taken_wishes (bodyEnds (popEnds sto.length sto (S_p_taken_wishes.post g sto))) (startE ["system", "turns", "taken", "days", "rank", "below", "place", "day", "wish"] (S_p_taken_wishes.args g)) sto := by
  rintro (s : Sy) sto _ (hs : S30 s)
  have hul := hs.wishes
  have z1 : 1 ≤ sizeLine := by decide
  have z3 : 3 ≤ sizeLine := by decide
  simp?! only [w_p_taken_wishes, S_p_taken_wishes, pureS, wComp, wipeE, wFor]
  refine seq_go ?_
  (try simp?! only [true_and])
  rw [enum_wishes]
  refine ⟨(by (try simp only [List.length_map, List.length_append, List.length_cons, List.length_nil, List.length_zipIdx, List.length_zip, List.length_range, Int.toNat_natCast, rangeD_len]); rw [sizeLine_eq]; omega), ?_⟩
  refine compL_all (fun k => .tup [.int (k : Nat), (wsAt s k).d]) (tri s) dTrip trivial _ (fun k hk R hR => ?_) ?_
  · simp? only [Tg.dg, wYes, w_p_taken_wishes_1, List.foldr_cons, List.foldr_nil, ws_ix3, ws_ix4]
    exact ⟨z3, hR⟩
  (try simp?! only [true_and])
  refine ⟨_, rfl, (List.range s.wishes.length).map (tri s), rfl, fun ps hp hso => ?_⟩
  have hos := ord_tri hs hp hso
  have hpl : ps.length = s.wishes.length := by rw [hp.length_eq, List.length_map, List.length_range]
  rw [v_newF]
  refine seq_go ?_
  (try simp?! only [true_and])
  refine ⟨Nat.zero_le _, ?_⟩
  refine seq_go ?_
  (try simp?! only [true_and])
  refine ⟨Nat.zero_le _, ?_⟩
  have el : (sto ++ [Cel.lst []]).length = sto.length + 1 := by rw [List.length_append]; rfl
  have ea : sto ++ [Cel.lst []] ++ [Cel.lst []] = sto ++ [.lst [], .lst []] := by rw [List.append_assoc]; rfl
  have g1 : ∀ (a b : Cel), (sto ++ [a, b])[sto.length]? = some a := fun a b => by simp
  have g2 : ∀ (a b : Cel), (sto ++ [a, b])[sto.length + 1]? = some b := fun a b => by simp
  have s1 : ∀ (a b c : Cel), (sto ++ [a, b]).set sto.length c = sto ++ [c, b] := fun a b c => by simp
  have s2 : ∀ (a b c : Cel), (sto ++ [a, b]).set (sto.length + 1) c = sto ++ [a, c] := fun a b c => by simp
  rw [el, ea]
  have hfold : takG s = ps.foldl (fun acc p => takeS s acc p.2.2.toNat) [] := by
    unfold takG takeF
    rw [← hos, List.foldl_map]
  rw [hfold]
  refine seq_cut (fun e st => ∃ x4 x5 x6 x7 x8, e = [some s.d, some (.lst (ps.map dTrip)), some (.ref sto.length), some (.ref (sto.length + 1)), x4, x5, x6, x7, x8] ∧ st = sto ++ [.lst ((ps.foldl (fun acc p => takeS s acc p.2.2.toNat) []).map natE), .lst (((ps.foldl (fun acc p => takeS s acc p.2.2.toNat) []).map (dayK s)).map .int)]) (fun K hK => ?_) ?_
  · (try simp?! only [true_and])
    refine forL_fold dTrip (fun acc p => takeS s acc p.2.2.toNat) (fun i acc e st => ∃ x4 x5 x6 x7 x8, e = [some s.d, some (.lst (ps.map dTrip)), some (.ref sto.length), some (.ref (sto.length + 1)), x4, x5, x6, x7, x8] ∧ st = sto ++ [.lst (acc.map natE), .lst ((acc.map (dayK s)).map .int)] ∧ (∀ j ∈ acc, j < s.wishes.length) ∧ acc.length ≤ i) ps [] _ _ ?_ ?_ ⟨_, _, _, _, _, rfl, rfl, (fun j (h : j ∈ ([] : List Nat)) => nomatch h), Nat.zero_le _⟩
    · rintro i acc p e st hi hpm ⟨x4, x5, x6, x7, x8, rfl, rfl, hacc, hal⟩ R hR
      obtain ⟨k, hk, rfl⟩ := List.mem_map.mp (hp.mem_iff.mp hpm)
      have hk := List.mem_range.mp hk
      have hw0 : 0 < s.works.length := by have := (hs.wish _ (ws_at hk).2).work; omega
      have hat := atI_map (f := Ws.d) (ws_at hk).1
      have ek : (tri s k).2.2.toNat = k := Int.toNat_natCast k
      rw [ek] at hR
      refine ⟨trivial, ?_⟩
      simp?! only [w_p_taken_wishes_2, tri]
      refine seq_go ?_
      simp?! only [hat, ws_ix2]
      rw [v_addR2 (g2 _ _), v_addL]
      refine ⟨z1, (by (try simp only [List.length_map, List.length_append, List.length_cons, List.length_nil, List.length_zipIdx, List.length_zip, List.length_range, Int.toNat_natCast, rangeD_len]); rw [sizeLine_eq]; omega), ?_⟩
      have eA : (acc.map (dayK s)).map D.int ++ [.int (wsAt s k).day] = ((acc ++ [k]).map (dayK s)).map .int := by rw [List.map_append, List.map_append]; rfl
      rw [eA]
      have hall : ∀ j ∈ acc ++ [k], j < s.wishes.length := fun j hj => by
        rcases List.mem_append.mp hj with h | h
        · exact hacc j h
        · rw [List.mem_singleton] at h; omega
      refine use_pure (s, acc ++ [k]) rfl rfl ⟨hs, hw0, hall, by rw [List.length_append, List.length_singleton]; omega⟩ ?_
      refine ⟨_, rfl, ?_⟩
      dsimp only
      unfold takeS at hR
      cases h3 : tr (Feas s (acc ++ [k])) with
      | true =>
        rw [h3, if_pos rfl] at hR
        rw [if_pos rfl]
        refine seq_go ?_
        simp?! only [rd_ref' (g1 _ _), v_app (g1 _ _), s1]
        refine ⟨(by (try simp only [List.length_map, List.length_append, List.length_cons, List.length_nil, List.length_zipIdx, List.length_zip, List.length_range, Int.toNat_natCast, rangeD_len]); rw [sizeLine_eq]; omega), ⟨_, rd_ref' (g2 _ _)⟩, ?_⟩
        rw [v_app (g2 _ _), s2]
        refine ⟨(by (try simp only [List.length_map, List.length_append, List.length_cons, List.length_nil, List.length_zipIdx, List.length_zip, List.length_range, Int.toNat_natCast, rangeD_len]); rw [sizeLine_eq]; omega), hR _ _ ⟨_, _, _, _, _, rfl, ?_, hall, by rw [List.length_append, List.length_singleton]; omega⟩⟩
        rw [← eA, List.map_append]
        rfl
      | false =>
        rw [h3, if_neg Bool.false_ne_true] at hR
        rw [if_neg Bool.false_ne_true]
        exact hR _ _ ⟨_, _, _, _, _, rfl, rfl, hacc, by omega⟩
    · rintro e st ⟨x4, x5, x6, x7, x8, rfl, rfl, hacc, hal⟩
      exact ⟨trivial, hK _ _ ⟨_, _, _, _, _, rfl, rfl⟩⟩
  rintro e st ⟨x4, x5, x6, x7, x8, rfl, rfl⟩
  simp? only [wFrz]
  refine ⟨_, _, rfl, g1 _ _, ?_⟩
  rw [s1]
  exact ⟨sto, _, rfl, rfl, blw_nats _ _, fun i c h => .inl h, rfl, rfl⟩
def w_p_in_blocks_1 : DS := wAsg (wTup (wCons (wOp dMul (wOp dFdiv (wVar 3) (wCB bLen (wCons (wOp dIx (wVar 0) (wC (.int 1))) (wNil)))) (wOp dIx (wOp dIx (wOp dIx (wVar 0) (wC (.int 2))) (wC (.int 0))) (wC (.int 0)))) (wCons (wOp dMod (wVar 3) (wCB bLen (wCons (wOp dIx (wVar 0) (wC (.int 1))) (wNil)))) (wNil)))) (gSet (wVar 2) (wVar 4))
def w_p_in_blocks : DS := wSeq (wAsg (wOp dMulM (wLst false (wCons (wC .non) (wNil))) (wCB bLen (wCons (wVar 1) (wNil)))) (gNm 2)) (wSeq (wFor (iEnum (wVar 1)) (gTp 2 (gCn (gNm 3) (gCn (gNm 4) gNl))) w_p_in_blocks_1) (wRet (wCB bTuple (wCons (wVar 2) (wNil)))))
def S_p_in_blocks : DL.Spec := pureS 2 (fun x : Sy × List Nat => [x.1.d, .lst (x.2.map natE)]) (fun x => S30 x.1 ∧ x.2.Perm (List.range x.1.works.length)) (fun x => encR (blockP x.1 x.2))
theorem vc_p_in_blocks : ∀ g sto, (S_p_in_blocks.args g).length = S_p_in_blocks.n → S_p_in_blocks.pre g sto → w_p_in_blocks (bodyEnds (popEnds sto.length sto (S_p_in_blocks.post g sto))) (startE ["system", "works", "plan", "place", "work"] (S_p_in_blocks.args g)) sto := by
  rintro ⟨s, ws⟩ sto _ ⟨hs, hp⟩
  dsimp only at hs hp
  have z1 : 1 ≤ sizeLine := by decide
  have z2 : 2 ≤ sizeLine := by decide
  have hwl := hs.works
  have hh := hs.hands
  have hlen : ws.length = s.works.length := by rw [hp.length_eq, List.length_range]
  have hon : ws.Nodup := hp.nodup_iff.mpr List.nodup_range
  simp? only [w_p_in_blocks, S_p_in_blocks, pureS, dMulM, wFor]
  refine ⟨z1, _, _, rfl, rfl, by omega, by omega, by rw [List.length_singleton, Int.toNat_natCast, sizeLine_eq]; omega, ?_⟩
  rw [flat_one, Int.toNat_natCast, hlen, enum_map]
  have hg : ∀ i, (gvB s ws i).length = s.works.length := fun i => by unfold gvB; rw [List.length_map, List.length_range]
  refine forL_inv (fun i e st => ∃ x4 x5, e = [some s.d, some (.lst (ws.map natE)), some (.ref sto.length), x4, x5] ∧ st = sto ++ [.lst ((gvB s ws i).map encO)]) ?_ ?_ _ _ ⟨_, _, rfl, by rw [gvB_zero, List.map_replicate]; rfl⟩
  · rintro i e st d ⟨x4, x5, rfl, rfl⟩ he R hR
    rw [List.getElem?_map] at he
    cases hy : ws.zipIdx[i]? with
    | none => rw [hy] at he; cases he
    | some y =>
      rw [hy] at he
      cases he
      have hz : ws[i]? = some y.1 ∧ y.2 = i := by
        rw [List.getElem?_zipIdx] at hy
        cases h : ws[i]? with
        | none => rw [h] at hy; cases hy
        | some w => rw [h] at hy; cases hy; exact ⟨rfl, by simp⟩
      have hw : y.1 < s.works.length := List.mem_range.mp (hp.mem_iff.mp (List.mem_of_getElem? hz.1))
      have hwl0 := (lenA_pos hs (by omega : 0 < s.works.length))
      have hat : atI s.works 0 = some (wkAt s 0) := wk_at (i := 0) (by omega)
      refine ⟨trivial, ?_⟩
      simp? only [w_p_in_blocks_1, natE, atI_map hat]
      have hq : 0 ≤ (y.2 : Int) / (s.hands.length : Int) ∧ (y.2 : Int) / (s.hands.length : Int) ≤ y.2 := ⟨Int.ediv_nonneg (by omega) (by omega), Int.ediv_le_self _ (by omega)⟩
      have hgl := hg i
      have hyi : y.2 < s.works.length := by have := (List.getElem?_eq_some_iff.mp hz.1).1; rw [hlen] at this; rw [hz.2]; exact this
      refine ⟨⟨by omega, by omega⟩, .inl ⟨by unfold lenA at hwl0; omega, by unfold lenA at hwl0; omega⟩, by omega, z2, ?_⟩
      simp? only [gSet]
      refine ⟨sto.length, _, (y.1 : Int), y.1, rfl, rfl, get_last _ _, ?_, ?_⟩
      · unfold ixN
        rw [if_pos (by omega), if_pos (by rw [List.length_map]; omega)]
        (try rw [Int.toNat_natCast])
      · rw [set_last]
        have e3 : ((gvB s ws i).map encO).set y.1 (D.tup [.int ((y.2 : Int) / (s.hands.length : Int) * (wkAt s 0).len), .int ((y.2 : Int) % (s.hands.length : Int))]) = (gvB s ws (i + 1)).map encO := by
          rw [← gvB_succ hon hz.1, List.map_set, hz.2]
          rfl
        rw [e3]
        exact hR _ _ ⟨_, _, rfl, rfl⟩
  · rintro e st ⟨x4, x5, rfl, rfl⟩
    rw [List.length_map, List.length_zipIdx, hlen]
    refine ⟨trivial, ?_⟩
    simp? only [v_tupL (rd_ref' (get_last _ _))]
    rw [gvB_all hp]
    exact ⟨sto, _, rfl, rfl, blw_encP _ _, fun i c h => .inl h, rfl, rfl⟩
def w_p_full_day_1 : DT := wAnd (wTest (wOp dLt (wVar 3) (wOp dIx (wVar 0) (wC (.int 0))))) (wNot (wTest (wCall S_p_holds_full (wCons (wVar 0) (wCons (wVar 1) (wCons (wVar 2) (wCons (wTup (wCons (wVar 2) (wCons (wVar 3) (wNil)))) (wNil))))))))
def w_p_full_day_2 : DS := wAsg (wOp dAdd (wVar 3) (wC (.int 1))) (gNm 3)
def w_p_full_day : DS := wSeq (wAsg (wOp dIx (wOp dIx (wOp dIx (wVar 0) (wC (.int 3))) (wVar 2)) (wC (.int 2))) (gNm 3)) (wSeq (wWhile w_p_full_day_1 w_p_full_day_2) (wRet (wVar 3)))
def S_p_full_day : DL.Spec := ⟨3, Sy × List Ws × Nat, fun x => [x.1.d, .lst (x.2.1.map Ws.d), .int (x.2.2 : Nat)],
  fun x _ => (S30 x.1 ∧ x.2.1.length ≤ 1000 ∧ x.2.2 < x.1.wishes.length) ∧ ∃ D, dayK x.1 x.2.2 ≤ D ∧ D ≤ x.1.days ∧ dayOkF x.1 x.2.1 x.2.2 D = true,
  fun x st d st' => st' = st ∧ ∃ v, d = .int v ∧ dayK x.1 x.2.2 ≤ v ∧ v ≤ x.1.days ∧ dayOkF x.1 x.2.1 x.2.2 v = true ∧ ∀ w, dayK x.1 x.2.2 ≤ w → w < v → dayOkF x.1 x.2.1 x.2.2 w = false⟩
theorem pair_day {s : Sy} {ks : List Ws} {k : Nat} {v : Int} (h1 : dayK s k ≤ v) (h2 : v ≤ s.days) : pairD s ks k (.tup [.int (k : Nat), .int v]) = dayOkF s ks k v := by
  have c1 : fromF (.int (k : Nat)) (k : Nat) (k : Nat) = true := fromF_iff.mpr ⟨_, rfl, Int.le_refl _, Int.le_refl _⟩
  have c2 : fromF (.int v) (wsAt s k).day s.days = true := fromF_iff.mpr ⟨_, rfl, h1, h2⟩
  show (if fromF (.int (k : Nat)) (k : Nat) (k : Nat) = true then (if fromF (.int v) (wsAt s k).day s.days = true then dayOkF s ks k v else false) else false) = _
  rw [c1, c2, if_pos rfl, if_pos rfl]
theorem vc_p_full_day : ∀ g sto, (S_p_full_day.args g).length = S_p_full_day.n → S_p_full_day.pre g sto → w_p_full_day (bodyEnds (S_p_full_day.post g sto)) (startE ["system", "kept", "place", "day"] (S_p_full_day.args g)) sto := by
  rintro ⟨s, ks, k⟩ sto _ ⟨⟨hs, hkl, hk⟩, D, h1, h2, h3⟩
  dsimp only at hs hkl hk h1 h2 h3
  have z2 : 2 ≤ sizeLine := by decide
  have hat := atI_map (f := Ws.d) (ws_at hk).1
  simp?! only [w_p_full_day, S_p_full_day]
  refine seq_go ?_
  simp?! only [hat, ws_ix2]
  refine seq_cut (fun e st => (∃ v, e = [some s.d, some (.lst (ks.map Ws.d)), some (.int (k : Nat)), some (.int v)] ∧ dayK s k ≤ v ∧ v ≤ s.days ∧ dayOkF s ks k v = true ∧ ∀ w, dayK s k ≤ w → w < v → dayOkF s ks k w = false) ∧ sto = st) (fun K hK => ?_) ?_
  · refine ⟨fun m e st => (∃ v, e = [some s.d, some (.lst (ks.map Ws.d)), some (.int (k : Nat)), some (.int v)] ∧ dayK s k ≤ v ∧ v + m = D ∧ ∀ w, dayK s k ≤ w → w < v → dayOkF s ks k w = false) ∧ sto = st, ⟨(D - dayK s k).toNat, ⟨_, rfl, Int.le_refl _, by unfold dayK at h1 ⊢; omega, fun w h1 h2 => by unfold dayK at h1; omega⟩, rfl⟩, ?_⟩
    rintro m e st ⟨⟨v, rfl, hv, hm, hL⟩, rfl⟩
    simp?! only [w_p_full_day_1]
    by_cases hlt : v < s.days
    · rw [if_pos hlt]
      refine ⟨z2, ?_⟩
      refine use_pure (s, ks, k, .tup [.int (k : Nat), .int v]) rfl rfl ⟨hs, hkl, hk, rfl⟩ ?_
      refine ⟨_, rfl, ?_⟩
      dsimp only
      rw [pair_day hv (by omega)]
      cases hd : dayOkF s ks k v with
      | true =>
        (try simp?! only [true_and])
        exact hK _ _ ⟨⟨v, rfl, hv, by omega, hd, hL⟩, rfl⟩
      | false =>
        have hne : v ≠ D := fun e => by rw [e, h3] at hd; cases hd
        simp?! only [w_p_full_day_2]
        exact ⟨m - 1, by omega, v + 1, rfl, by omega, by omega, fun w h1 h2 => by
          rcases (show w < v ∨ w = v by omega) with h | rfl
          · exact hL w h1 h
          · exact hd⟩
    · rw [if_neg hlt]
      have : v = D := by omega
      subst this
      exact hK _ _ ⟨⟨v, rfl, hv, h2, h3, hL⟩, rfl⟩
  rintro e st ⟨⟨v, rfl, hv⟩, rfl⟩
  (try simp?! only [true_and])
  first | exact hv | exact ⟨rfl, v, rfl, hv⟩
structure EvP (s : Sy) : Prop where
  hands : ∀ r ∈ s.hands, r = []
  works : ∀ w ∈ s.works, w.len = (wkAt s 0).len ∧ w.ahead = [] ∧ w.able.length = s.hands.length
  kind : ∀ u ∈ s.wishes, u.kind = 1
  nd : (s.wishes.map (·.work)).Nodup
noncomputable def evD (s : Sy) : Bool := tr (EvP s)
def Ok38 (s : Sy) : Prop := s.Ok 30 5 12 10 30
def w_p_is_even_1 : DS := wIf (wTest (wOp dNe (wVar 5) (wTup (wNil)))) (wRet (wC (.bl false))) ((fun D env st => D.nx env st))
def w_p_is_even_2 : DS := wIf (wOr (wTest (wOp dNe (wVar 6) (wOp dIx (wOp dIx (wVar 3) (wC (.int 0))) (wC (.int 0))))) (wOr (wTest (wOp dNe (wVar 7) (wTup (wNil)))) (wTest (wOp dNe (wCB bLen (wCons (wVar 8) (wNil))) (wCB bLen (wCons (wVar 2) (wNil))))))) (wRet (wC (.bl false))) ((fun D env st => D.nx env st))
def w_p_is_even_3 : DS := wIf (wTest (wOp dNe (wVar 10) (wC (.int 1)))) (wRet (wC (.bl false))) ((fun D env st => D.nx env st))
def w_p_is_even_4 : DE := wOp dIx (wVar 14) (wC (.int 0))
def w_p_is_even : DS := wSeq (wAsg (wVar 0) (gTp 4 (gCn (gNm 1) (gCn (gNm 2) (gCn (gNm 3) (gCn (gNm 4) gNl)))))) (wSeq (wFor (iSeq (wVar 2)) (gNm 5) w_p_is_even_1) (wSeq (wFor (iSeq (wVar 3)) (gTp 3 (gCn (gNm 6) (gCn (gNm 7) (gCn (gNm 8) gNl)))) w_p_is_even_2) (wSeq (wFor (iSeq (wVar 4)) (gTp 5 (gCn (gNm 9) (gCn (gNm 10) (gCn (gNm 11) (gCn (gNm 12) (gCn (gNm 13) gNl)))))) w_p_is_even_3) (wRet (wOp dEq (wLenSet (wComp false (iSeq (wVar 4)) (.nm 14) wYes w_p_is_even_4 [14])) (wCB bLen (wCons (wVar 4) (wNil))))))))
noncomputable def S_p_is_even : DL.Spec := pureS 1 (fun s : Sy => [s.d]) Ok38 (fun s => .bl (evD s))
theorem vc_p_is_even : ∀ g sto, (S_p_is_even.args g).length = S_p_is_even.n → S_p_is_even.pre g sto → w_p_is_even (bodyEnds (S_p_is_even.post g sto)) (startE ["system", "days", "hands", "works", "wishes", "away", "length", "ahead", "able", "work", "sort", "day", "weight", "rank", "wish"] (S_p_is_even.args g)) sto := by
  rintro (s : Sy) sto _ (hs : Ok38 s)
  have hw := hs.works
  have hu := hs.wishes
  simp? only [w_p_is_even, S_p_is_even, pureS, wFor, wComp, wipeE]
  have at_take : ∀ {α : Type} {xs : List α} {k : Nat} {x : α} {P : α → Prop}, xs[k]? = some x → (∀ y ∈ xs.take k, P y) → P x → ∀ y ∈ xs.take (k + 1), P y := fun {α xs k x P} hx h1 h2 y hy => by
    rw [take_snoc hx] at hy
    rcases List.mem_append.mp hy with hy | hy
    · exact h1 y hy
    · rw [List.mem_singleton] at hy; subst hy; exact h2
  refine forL_inv (fun i e st => ∃ x5, e = [some s.d, some (.int s.days), some (.tup (s.hands.map dInts)), some (.tup (s.works.map Wk.d)), some (.tup (s.wishes.map Ws.d)), x5, none, none, none, none, none, none, none, none, none] ∧ st = sto ∧ ∀ r ∈ s.hands.take i, r = []) ?_ ?_ _ _ ⟨_, rfl, rfl, fun r hr => by rw [List.take_zero] at hr; cases hr⟩
  · rintro i e st d ⟨x5, rfl, rfl, hp⟩ he R hR
    rw [List.getElem?_map] at he
    cases hr : s.hands[i]? with
    | none => rw [hr] at he; cases he
    | some r =>
      rw [hr] at he
      cases he
      refine ⟨trivial, ?_⟩
      simp? only [w_p_is_even_1, dInts]
      refine ⟨Nat.zero_le _, okL_ints _, ?_⟩
      cases r with
      | nil =>
        rw [if_neg (by decide)]
        exact hR _ _ ⟨_, rfl, rfl, at_take hr hp rfl⟩
      | cons a r =>
        rw [if_pos (by rfl)]
        exact congrArg D.bl (tr_false fun h => by have := h.hands _ (List.mem_of_getElem? hr); cases this).symm
  · rintro e st ⟨x5, rfl, hst, hp⟩
    rw [List.length_map, List.take_length] at hp
    refine ⟨trivial, ?_⟩
    rw [hst]
    (try simp? only [true_and])
    refine forL_inv (fun i e st => ∃ x6 x7 x8, e = [some s.d, some (.int s.days), some (.tup (s.hands.map dInts)), some (.tup (s.works.map Wk.d)), some (.tup (s.wishes.map Ws.d)), x5, x6, x7, x8, none, none, none, none, none, none] ∧ st = sto ∧ ∀ w ∈ s.works.take i, w.len = (wkAt s 0).len ∧ w.ahead = [] ∧ w.able.length = s.hands.length) ?_ ?_ _ _ ⟨_, _, _, rfl, rfl, fun r hr => by rw [List.take_zero] at hr; cases hr⟩
    · rintro i e st d ⟨x6, x7, x8, rfl, rfl, hq⟩ he R hR
      rw [List.getElem?_map] at he
      cases hr : s.works[i]? with
      | none => rw [hr] at he; cases he
      | some w =>
        rw [hr] at he
        cases he
        have hpos := (List.getElem?_eq_some_iff.mp hr).1
        have hat0 : atI (s.works.map Wk.d) 0 = some (wkAt s 0).d := atI_map (wk_at (i := 0) (by omega))
        refine ⟨trivial, ?_⟩
        simp? only [w_p_is_even_2, hat0, ns_len, dInts]
        by_cases h1 : w.len = (wkAt s 0).len
        · have e1 : (!(w.len == (wkAt s 0).len)) = false := by rw [h1]; simp
          simp? only [e1]
          refine ⟨Nat.zero_le _, okL_ints _, ?_⟩
          cases ha : w.ahead with
          | nil =>
            simp? only [List.map_nil, List.isEmpty_nil]
            by_cases h2 : w.able.length = s.hands.length
            · have e2 : (!((w.able.length : Int) == (s.hands.length : Int))) = false := by rw [h2]; simp
              simp? only [e2]
              exact hR _ _ ⟨_, _, _, rfl, rfl, at_take hr hq ⟨h1, ha, h2⟩⟩
            · have e2 : (!((w.able.length : Int) == (s.hands.length : Int))) = true := by rw [Bool.not_eq_true', beq_eq_false_iff_ne]; omega
              simp? only [e2]
              exact congrArg D.bl (tr_false fun h => h2 (h.works w (List.mem_of_getElem? hr)).2.2).symm
          | cons a r =>
            simp? only [List.map_cons, List.isEmpty_cons]
            exact congrArg D.bl (tr_false fun h => by have := (h.works w (List.mem_of_getElem? hr)).2.1; rw [ha] at this; cases this).symm
        · have e1 : (!(w.len == (wkAt s 0).len)) = true := by rw [Bool.not_eq_true', beq_eq_false_iff_ne]; exact h1
          simp? only [e1]
          exact congrArg D.bl (tr_false fun h => h1 (h.works w (List.mem_of_getElem? hr)).1).symm
    · rintro e st ⟨x6, x7, x8, rfl, hst, hq⟩
      rw [List.length_map, List.take_length] at hq
      refine ⟨trivial, ?_⟩
      rw [hst]
      (try simp? only [true_and])
      refine forL_inv (fun i e st => ∃ x9 x10 x11 x12 x13, e = [some s.d, some (.int s.days), some (.tup (s.hands.map dInts)), some (.tup (s.works.map Wk.d)), some (.tup (s.wishes.map Ws.d)), x5, x6, x7, x8, x9, x10, x11, x12, x13, none] ∧ st = sto ∧ ∀ u ∈ s.wishes.take i, u.kind = 1) ?_ ?_ _ _ ⟨_, _, _, _, _, rfl, rfl, fun r hr => by rw [List.take_zero] at hr; cases hr⟩
      · rintro i e st d ⟨x9, x10, x11, x12, x13, rfl, rfl, hk⟩ he R hR
        rw [List.getElem?_map] at he
        cases hr : s.wishes[i]? with
        | none => rw [hr] at he; cases he
        | some u =>
          rw [hr] at he
          cases he
          refine ⟨trivial, ?_⟩
          simp? only [w_p_is_even_3]
          by_cases h1 : u.kind = 1
          · have e1 : (!(u.kind == 1)) = false := by rw [h1]; rfl
            simp? only [e1]
            exact hR _ _ ⟨_, _, _, _, _, rfl, rfl, at_take hr hk h1⟩
          · have e1 : (!(u.kind == 1)) = true := by rw [Bool.not_eq_true', beq_eq_false_iff_ne]; exact h1
            simp? only [e1]
            exact congrArg D.bl (tr_false fun h => h1 (h.kind u (List.mem_of_getElem? hr))).symm
      · rintro e st ⟨x9, x10, x11, x12, x13, rfl, rfl, hk⟩
        rw [List.length_map, List.take_length] at hk
        refine ⟨trivial, ?_⟩
        simp? only [wLenSet, wComp, wipeE, List.length_map]
        refine ⟨by rw [sizeLine_eq]; omega, ?_⟩
        refine compL_all Ws.d (fun u => u.work) D.int trivial _ (fun u hu R hR => ?_) ?_
        · simp? only [Tg.dg, wYes, w_p_is_even_4, ws_ix0]
          exact hR
        · refine ⟨s.wishes.map (·.work), rfl, by rw [List.length_map]; omega, ?_⟩
          (try simp? only [true_and])
          refine congrArg D.bl (tr_eq ?_)
          have hf := fmet_iff (ns := s.wishes.map (·.work))
          rw [List.length_map] at hf
          rw [beq_iff_eq]
          constructor
          · exact fun h => ⟨hp, hq, hk, hf.mp (by omega)⟩
          · exact fun h => by have := hf.mpr h.nd; omega
structure EvRes (s : Sy) (ps : List P2) (qs : List (Nat × Int)) : Prop where
  pl : ∃ dw : List (Int × Int), dw.Perm (duesOf s (takG s)) ∧ dw.Pairwise LexLe ∧ ps = blockP s (ordW s (firstW dw))
  qs : ∀ x ∈ qs, ∀ w, dayK s x.1 ≤ w → w < x.2 → dayOkF s ((takG s).map (wsAt s)) x.1 w = false
theorem inc_all : ∀ (l : List Int) (a : Int), l.Pairwise (· < ·) → (∀ x ∈ l, a ≤ x ∧ x < a + l.length) → l = rangeI a l.length
  | [], _, _, _ => rfl
  | y :: t, a, hp, hx => by
    obtain ⟨p1, p2⟩ := List.pairwise_cons.mp hp
    have hy := hx y (List.mem_cons_self ..)
    have ht : t = rangeI (a + 1) t.length := inc_all t (a + 1) p2 fun x m => by
      have h1 := p1 x m
      have h2 := hx x (List.mem_cons_of_mem _ m)
      simp only [List.length_cons] at h2
      omega
    have ey : y = a := by
      rcases Nat.eq_zero_or_pos t.length with z | z
      · simp only [List.length_cons, z] at hy
        omega
      · have m : a + 1 ∈ t := by
          rw [ht]
          exact List.mem_map.mpr ⟨0, List.mem_range.mpr z, by omega⟩
        have := p1 _ m
        omega
    subst ey
    show y :: t = (List.range (t.length + 1)).map _
    rw [List.range_succ_eq_map, List.map_cons, List.map_map]
    refine congr (congrArg List.cons (by omega)) ?_
    rw [ht, rangeI, List.length_map, List.length_range]
    exact List.map_congr_left fun i _ => by
      show y + 1 + (i : Int) = y + ((i + 1 : Nat) : Int)
      omega
theorem evP_sy {s : Sy} (hs : S30 s) (h : EvP s) : EvSy s := by
  refine ⟨h.hands, ⟨(wkAt s 0).len, fun w hw => ?_⟩, h.kind, h.nd⟩
  obtain ⟨h1, h2, h3⟩ := h.works w hw
  obtain ⟨i, hi, rfl⟩ := List.getElem_of_mem hw
  have ow := hs.work i _ (List.getElem?_eq_getElem hi)
  have ea := inc_all _ 0 ow.able.1 fun x m => by
    have := ow.able.2 x m
    omega
  rw [h3] at ea
  generalize s.works[i] = w at *
  obtain ⟨a, b, c⟩ := w
  simp only at h1 h2 ea
  subst h1 h2 ea
  rfl
def wx_p_even_1 : DE := wTup (wCons (wOp dIx (wOp dIx (wOp dIx (wVar 0) (wC (.int 3))) (wVar 7)) (wC (.int 2))) (wCons (wOp dIx (wOp dIx (wOp dIx (wVar 0) (wC (.int 3))) (wVar 7)) (wC (.int 0))) (wNil)))
def wx_p_even_2 : DT := wTest (wOp dNotIn (wVar 9) (wVar 3))
def wx_p_even_3 : DE := wOp dIx (wOp dIx (wVar 0) (wC (.int 3))) (wVar 7)
def wx_p_even_4 : DT := wTest (wOp dNotIn (wVar 7) (wVar 2))
def wx_p_even_5 : DE := wTup (wCons (wVar 7) (wCons (wCall S_p_full_day (wCons (wVar 0) (wCons (wVar 5) (wCons (wVar 7) (wNil))))) (wNil)))
def wx_p_even (R : DX) : DS := wSeq (wIf (wNot (wTest (wCall S_p_is_even (wCons (wVar 0) (wNil))))) (wRaiseA "NotEven" (wCons (wC (.str "a system that is not even")) (wNil)) R) ((fun D env st => D.nx env st))) (wSeq (wIf (wTest (wOp dEq (wCB bLen (wCons (wOp dIx (wVar 0) (wC (.int 2))) (wNil))) (wC (.int 0)))) (wRet (wTup (wCons (wTup (wNil)) (wCons (wTup (wNil)) (wNil))))) ((fun D env st => D.nx env st))) (wSeq (wAsg (wCall S_p_room_up_to (wCons (wVar 0) (wCons (wOp dIx (wVar 0) (wC (.int 0))) (wNil)))) (gNm 1)) (wSeq (wIf (wTest (wOp dGt (wCB bLen (wCons (wOp dIx (wVar 0) (wC (.int 2))) (wNil))) (wVar 1))) (wRaiseF "NoRoom" "work" (wCons (wVar 1) (wNil)) R) ((fun D env st => D.nx env st))) (wSeq (wAsg (wCall S_p_taken_wishes (wCons (wVar 0) (wNil))) (gNm 2)) (wSeq (wAsg (wComp false (iSeq (wCB (bSortK false) (wCons (wComp false (iSeq (wVar 2)) (.nm 7) wYes wx_p_even_1 [7]) (wNil)))) (.tp [8, 9]) wYes (wVar 9) [8, 9]) (gNm 3)) (wSeq (wAsg (wCall S_p_in_blocks (wCons (wVar 0) (wCons (wOp dAdd (wVar 3) (wComp false (iRange1 (wCons (wCB bLen (wCons (wOp dIx (wVar 0) (wC (.int 2))) (wNil))) (wNil))) (.nm 9) wx_p_even_2 (wVar 9) [9])) (wNil)))) (gNm 4)) (wSeq (wAsg (wComp false (iSeq (wVar 2)) (.nm 7) wYes wx_p_even_3 [7]) (gNm 5)) (wSeq (wAsg (wComp false (iRange1 (wCons (wCB bLen (wCons (wOp dIx (wVar 0) (wC (.int 3))) (wNil))) (wNil))) (.nm 7) wx_p_even_4 (wVar 7) [7]) (gNm 6)) (wRet (wTup (wCons (wVar 4) (wCons (wCB bTuple (wCons (wComp false (iSeq (wVar 6)) (.nm 7) wYes wx_p_even_5 [7]) (wNil))) (wNil)))))))))))))
def X_p_even : SpecX := { n := 1, G := Sy, args := fun s => [s.d], pre := fun s _ => Ok38 s, post := fun s st d st' => st' = st ∧ EvP s ∧ RoomOk s ∧ ∃ (ps : List P2) (qs : List (Nat × Int)), d = .tup [encR ps, .tup (qs.map pairQ)] ∧ Keep s (takG s) ps ∧ QsOk s (takG s) qs s.wishes.length ∧ EvRes s ps qs, rz := fun s st e st' => st' = st ∧ ((¬EvP s ∧ e = ⟨"NotEven", []⟩) ∨ (EvP s ∧ ¬RoomOk s ∧ e = ⟨"NoRoom", [("work", .int (roomF s s.days))]⟩)) }
theorem vcx_p_even : ∀ g sto, (X_p_even.args g).length = X_p_even.n → X_p_even.pre g sto → wx_p_even (fun e _ s => X_p_even.rz g sto e s) (bodyEnds (X_p_even.post g sto)) (startE ["system", "most", "taken", "wished", "plan", "kept", "left", "place", "day", "work"] (X_p_even.args g)) sto := by
  rintro (s : Sy) sto _ (hs : Ok38 s)
  have h30 : S30 s := s30_of hs (by omega) (by omega) (by omega) (by omega) (by omega)
  have z2 : 2 ≤ sizeLine := by decide
  simp?! only [wx_p_even, X_p_even, wComp, wipeE, wRaiseA, wRaiseF]
  refine seq_go ?_
  (try simp?! only [true_and])
  refine use_pure s rfl rfl hs ?_
  refine ⟨_, rfl, ?_⟩
  by_cases hev : EvP s
  case neg =>
    rw [show evD s = false from tr_false hev, if_pos (by decide)]
    (try simp? only [true_and])
    exact ⟨by decide, rfl, Or.inl ⟨hev, rfl⟩⟩
  rw [show evD s = true from tr_true hev, if_neg (by decide)]
  have hsy := evP_sy h30 hev
  refine seq_go ?_
  (try simp?! only [true_and])
  have hT : Taken s (takG s) := taken_law h30 (lowO_ok h30)
  have hTl : (takG s).length ≤ s.wishes.length := by
    have := nodup_le hT.nd (ys := List.range s.wishes.length) fun k hk => List.mem_range.mpr (hT.lt k hk)
    rwa [List.length_range] at this
  have hwl := h30.wishes
  by_cases hw0 : s.works.length = 0
  case pos =>
    rw [if_pos (by rw [hw0]; decide)]
    have hn := no_wish h30 hw0
    have eT : takG s = [] := List.length_eq_zero_iff.mp (by omega)
    have hpn : ([] : List (Int × Int)).Perm (duesOf s (takG s)) := by rw [eT]; exact .nil
    have hk := keep_law hsy h30 (Or.inl hw0) hT (dw := []) hpn .nil
    have e0 : blockP s (ordW s (firstW [])) = [] := by unfold blockP; rw [hw0]; rfl
    have hr0 : EvRes s [] [] := ⟨⟨[], hpn, .nil, e0.symm⟩, fun x hx => nomatch hx⟩
    rw [e0] at hk
    refine ⟨Nat.zero_le _, Nat.zero_le _, z2, hev, Or.inl hw0, [], [], rfl, hk, ?_, hr0⟩
    rw [hn]
    exact ⟨rfl, fun x hx => by cases hx⟩
  rw [if_neg (by rw [beq_iff_eq]; omega)]
  refine seq_go ?_
  (try simp?! only [true_and])
  have hdy := h30.days
  refine use_pure (s, s.days) rfl rfl ⟨h30, Nat.pos_of_ne_zero hw0, by show 0 ≤ s.days; omega, by show s.days ≤ 1000; omega⟩ ?_
  refine seq_go ?_
  (try simp?! only [true_and])
  by_cases hr : (s.works.length : Int) ≤ roomF s s.days
  case neg =>
    rw [if_pos (by omega)]
    simp? only [wRaiseF]
    refine ⟨_, rfl, ?_⟩
    exact Or.inr ⟨hev, fun h => h.elim hw0 hr, rfl⟩
  rw [if_neg (by omega)]
  have hroom : RoomOk s := Or.inr hr
  refine seq_go ?_
  (try simp?! only [true_and])
  refine use_pure s rfl rfl h30 ?_
  refine seq_go ?_
  (try simp?! only [true_and])
  refine ⟨(by (try simp only [List.length_map, List.length_append, List.length_cons, List.length_nil, List.length_zipIdx, List.length_zip, List.length_range, Int.toNat_natCast, rangeD_len]); rw [sizeLine_eq]; omega), ?_⟩
  refine compL_all natE (fun k => (dayK s k, (wsAt s k).work)) dPair trivial _ (fun k hk R hR => ?_) ?_
  · have hat := atI_map (f := Ws.d) (ws_at (hT.lt k hk)).1
    simp? only [Tg.dg, wYes, wx_p_even_1, natE, hat, ws_ix2, ws_ix0]
    exact ⟨z2, hR⟩
  (try simp? only [true_and])
  refine Or.inl ⟨_, rfl, Or.inr ⟨duesOf s (takG s), rfl, fun dw hp hso => ?_⟩⟩
  have hk := keep_law hsy h30 hroom hT hp hso
  obtain ⟨fn, fl⟩ := first_nd hsy h30 hT.nd hT.lt hp
  have hdl : dw.length ≤ s.wishes.length := by rw [hp.length_eq]; unfold duesOf; rw [List.length_map]; exact hTl
  (try simp? only [true_and])
  refine ⟨(by (try simp only [List.length_map, List.length_append, List.length_cons, List.length_nil, List.length_zipIdx, List.length_zip, List.length_range, Int.toNat_natCast, rangeD_len]); rw [sizeLine_eq]; omega), ?_⟩
  refine compL_all dPair (fun p => p.2.toNat) natE trivial _ (fun p hpm R hR => ?_) ?_
  · have hp0 : 0 ≤ p.2 := by
      obtain ⟨k, hkm, rfl⟩ := List.mem_map.mp (hp.mem_iff.mp hpm)
      exact (work_lt h30 (hT.lt k hkm)).1
    have e : natE p.2.toNat = .int p.2 := by unfold natE; rw [Int.toNat_of_nonneg hp0]
    rw [e] at hR
    simp? only [Tg.dg, wYes, List.foldr_cons, List.foldr_nil]
    exact hR
  rw [show dw.map (fun p => p.2.toNat) = firstW dw from rfl]
  have hWl := h30.works
  have hfl : (firstW dw).length = dw.length := List.length_map ..
  have hrl : (restW s (firstW dw)).length ≤ s.works.length := by
    have := List.length_filter_le (fun w => !(firstW dw).any (· == w)) (List.range s.works.length)
    rwa [List.length_range] at this
  rw [Int.toNat_natCast, range_nat]
  refine ⟨by omega, (by (try simp only [List.length_map, List.length_append, List.length_cons, List.length_nil, List.length_zipIdx, List.length_zip, List.length_range, Int.toNat_natCast, rangeD_len]); rw [sizeLine_eq]; omega), ?_⟩
  refine compL_flt natE (fun w => !(firstW dw).any (· == w)) (fun w => w) natE trivial _ (fun w hw R hR => ?_) ?_
  · simp?! only [Tg.dg, wx_p_even_2, natE]
    refine v_inNat ?_
    refine ⟨_, rfl, ?_⟩
    exact hR
  rw [List.map_id']
  have eo : (firstW dw).map natE ++ (restW s (firstW dw)).map natE = (ordW s (firstW dw)).map natE := (List.map_append ..).symm
  refine ⟨?_, ?_⟩
  · show _ + ((restW s (firstW dw)).map natE).length ≤ _
    rw [List.length_map, List.length_map]
    have : 1000 ≤ sizeLine := by decide
    omega
  show ∃ g, [s.d, D.lst ((firstW dw).map natE ++ (restW s (firstW dw)).map natE)] = _ ∧ _
  rw [eo]
  refine use_pure (s, ordW s (firstW dw)) rfl rfl ⟨h30, ordW_perm fn fl⟩ ?_
  refine ⟨(by (try simp only [List.length_map, List.length_append, List.length_cons, List.length_nil, List.length_zipIdx, List.length_zip, List.length_range, Int.toNat_natCast, rangeD_len]); rw [sizeLine_eq]; omega), ?_⟩
  refine compL_all natE (fun k => wsAt s k) Ws.d trivial _ (fun k hk R hR => ?_) ?_
  · have hat := atI_map (f := Ws.d) (ws_at (hT.lt k hk)).1
    simp? only [Tg.dg, wYes, wx_p_even_3, natE, hat]
    exact hR
  rw [Int.toNat_natCast, range_nat]
  refine ⟨by omega, (by (try simp only [List.length_map, List.length_append, List.length_cons, List.length_nil, List.length_zipIdx, List.length_zip, List.length_range, Int.toNat_natCast, rangeD_len]); rw [sizeLine_eq]; omega), ?_⟩
  refine compL_flt natE (fun k => !(takG s).any (· == k)) (fun k => k) natE trivial _ (fun k hk R hR => ?_) ?_
  · simp?! only [Tg.dg, wx_p_even_4, natE]
    refine v_inNat ?_
    refine ⟨_, rfl, ?_⟩
    exact hR
  rw [List.map_id']
  have eO : ((List.range s.wishes.length).filter fun k => !(takG s).any (· == k)) = outG (takG s) s.wishes.length := by
    unfold outG
    refine List.filter_congr fun k _ => ?_
    rw [show (takG s).any (· == k) = decide (k ∈ takG s) from by rw [Bool.eq_iff_iff, any_mem_nat, decide_eq_true_iff]]
  rw [eO]
  have hOl : (outG (takG s) s.wishes.length).length ≤ s.wishes.length := by
    have := List.length_filter_le (fun k => !decide (k ∈ takG s)) (List.range s.wishes.length)
    rwa [List.length_range] at this
  refine ⟨by rw [List.length_map]; have : 1000 ≤ sizeLine := (by decide); omega, ?_⟩
  refine compL_inv (fun i st acc => st = sto ∧ ∃ qs : List (Nat × Int), acc = qs.map pairQ ∧ qs.map (·.1) = (outG (takG s) s.wishes.length).take i ∧ ∀ x ∈ qs, (dayK s x.1 ≤ x.2 ∧ x.2 ≤ s.days ∧ dayOkF s ((takG s).map (wsAt s)) x.1 x.2 = true) ∧ ∀ w, dayK s x.1 ≤ w → w < x.2 → dayOkF s ((takG s).map (wsAt s)) x.1 w = false) ?_ ?_ _ _ ⟨rfl, [], rfl, by rw [List.take_zero]; rfl, fun x hx => by cases hx⟩
  · rintro i st acc d ⟨rfl, qs, rfl, hq1, hq2⟩ he R hR
    rw [List.getElem?_map] at he
    cases hi : (outG (takG s) s.wishes.length)[i]? with
    | none => rw [hi] at he; cases he
    | some k =>
      rw [hi] at he
      cases he
      have hm := List.mem_filter.mp (List.mem_of_getElem? hi)
      have hkl := List.mem_range.mp hm.1
      have hkn : k ∉ takG s := fun h => by
        have := hm.2
        rw [decide_eq_true h] at this
        cases this
      refine ⟨trivial, ?_⟩
      simp?! only [Tg.dg, wYes, wx_p_even_5]
      refine ⟨(s, (takG s).map (wsAt s), k), rfl, rfl, ⟨⟨h30, by rw [List.length_map]; omega, hkl⟩, hk.day hkl hkn⟩, ?_⟩
      rintro _ _ ⟨rfl, v, rfl, v1, v2, v3, v4⟩
      refine ⟨z2, ?_⟩
      refine hR _ _ ⟨rfl, qs ++ [(k, v)], by rw [List.map_append]; rfl, ?_, fun x hx => ?_⟩
      · rw [List.map_append, hq1, List.take_add_one, hi]
        rfl
      · rcases List.mem_append.mp hx with hx | hx
        · exact hq2 x hx
        · rw [List.mem_singleton] at hx
          subst hx
          exact ⟨⟨v1, v2, v3⟩, v4⟩
  · rintro st acc ⟨rfl, qs, rfl, hq1, hq2⟩
    rw [List.length_map, List.take_length] at hq1
    exact ⟨trivial, z2, rfl, hev, hroom, _, qs, rfl, hk, ⟨hq1, fun x hx => (hq2 x hx).1⟩, ⟨⟨dw, hp, hso, rfl⟩, fun x hx => (hq2 x hx).2⟩⟩
theorem lexLe_anti {a b : Int × Int} (h1 : LexLe a b) (h2 : LexLe b a) : a = b := by
  obtain ⟨a1, a2⟩ := a
  obtain ⟨b1, b2⟩ := b
  simp only [LexLe] at h1 h2
  have e1 : a1 = b1 := by omega
  have e2 : a2 = b2 := by omega
  rw [e1, e2]
/-- the paper is the one -/
theorem evRes_one {s : Sy} {ps ps' : List P2} {qs qs' : List (Nat × Int)} (h : EvRes s ps qs) (h' : EvRes s ps' qs') (q : QsOk s (takG s) qs s.wishes.length) (q' : QsOk s (takG s) qs' s.wishes.length) : ps = ps' ∧ qs = qs' := by
  obtain ⟨⟨dw, p1, s1, rfl⟩, l1⟩ := h
  obtain ⟨⟨dw', p2, s2, rfl⟩, l2⟩ := h'
  have e : dw = dw' := List.Perm.eq_of_pairwise (le := LexLe) (fun a b _ _ h1 h2 => lexLe_anti h1 h2) s1 s2 (p1.trans p2.symm)
  subst e
  refine ⟨rfl, ?_⟩
  have hf : qs.map (·.1) = qs'.map (·.1) := q.1.trans q'.1.symm
  have hl : qs.length = qs'.length := by simpa using congrArg List.length hf
  refine List.ext_getElem hl fun i h1 h2 => ?_
  have e1 : qs[i].1 = qs'[i].1 := by
    have := congrArg (fun l => l[i]?) hf
    simpa [h1, h2] using this
  have m1 := List.getElem_mem h1
  have m2 := List.getElem_mem h2
  have a1 := q.2 _ m1
  have a2 := q'.2 _ m2
  have b1 := l1 _ m1
  have b2 := l2 _ m2
  generalize qs[i] = x at *
  generalize qs'[i] = y at *
  obtain ⟨k, v⟩ := x
  obtain ⟨k', v'⟩ := y
  dsimp only at e1 a1 a2 b1 b2
  subst e1
  have : v = v' := by
    rcases (show v < v' ∨ v = v' ∨ v' < v by omega) with h | h | h
    · rw [b2 v a1.1 h] at a1
      exact absurd a1.2.2 (by decide)
    · exact h
    · rw [b1 v' a2.1 h] at a2
      exact absurd a2.2.2 (by decide)
  rw [this]
def lastS (s : Sy) (w : Wk) : Sy := ⟨s.days, s.hands, s.works.dropLast ++ [w], s.wishes⟩
theorem lastS_len {s : Sy} {w : Wk} (h : s.works ≠ []) : (lastS s w).works.length = s.works.length := by
  have := List.length_pos_iff.mpr h
  show (s.works.dropLast ++ [w]).length = _
  rw [List.length_append, List.length_dropLast, List.length_singleton]
  omega
theorem lastS_ok {s : Sy} {w : Wk} (hs : s.Ok 30 5 12 10 12) (hne : s.works ≠ []) (hw : w.Ok ((s.works.length - 1 : Nat) : Int) s.hands.length 10) : Ok38 (lastS s w) := by
  have hl := lastS_len (w := w) hne
  have hp := List.length_pos_iff.mpr hne
  refine ⟨hs.days, hs.hands, hs.rows, by rw [hl]; exact hs.works, fun i v hv => ?_, Int.le_trans hs.wishes (by decide), by rw [hl]; exact hs.wish⟩
  show v.Ok i s.hands.length 10
  have hv : (s.works.dropLast ++ [w])[i]? = some v := hv
  by_cases hi : i < s.works.length - 1
  · rw [List.getElem?_append_left (by rw [List.length_dropLast]; exact hi), List.getElem?_dropLast, if_pos hi] at hv
    exact hs.work i v hv
  · have hi2 : i < s.works.length := by
      have := (List.getElem?_eq_some_iff.mp hv).1
      rw [List.length_append, List.length_dropLast, List.length_singleton] at this
      omega
    have e : i = s.works.length - 1 := by omega
    rw [List.getElem?_append_right (by rw [List.length_dropLast]; omega), List.length_dropLast, e, Nat.sub_self] at hv
    cases hv
    rw [e]
    exact hw
theorem lastS_mem {s : Sy} {w : Wk} : w ∈ (lastS s w).works := List.mem_append_right _ List.mem_cons_self
theorem lastS_0 {s : Sy} {w : Wk} (h : 1 < s.works.length) : wkAt (lastS s w) 0 = wkAt s 0 := by
  unfold wkAt
  show (((s.works.dropLast ++ [w])[0]?).getD _) = _
  rw [List.getElem?_append_left (by rw [List.length_dropLast]; omega), List.getElem?_dropLast, if_pos (by omega)]
theorem lastS_un {s : Sy} {w : Wk} (h : (1 < s.works.length ∧ w.len ≠ (wkAt s 0).len) ∨ w.ahead ≠ [] ∨ w.able.length ≠ s.hands.length) : ¬EvP (lastS s w) := fun he => by
  have h1 := he.works w lastS_mem
  rcases h with ⟨a, b⟩ | b | b
  · rw [lastS_0 a] at h1
    exact b h1.1
  · exact b h1.2.1
  · exact b h1.2.2
def wishS (s : Sy) (us : List Ws) : Sy := ⟨s.days, s.hands, s.works, us⟩
theorem wishS_ok {s : Sy} {us : List Ws} (hs : s.Ok 30 5 12 10 12) (hl : us.length ≤ 30) (h : ∀ u ∈ us, u.Ok s.works.length s.days) : Ok38 (wishS s us) :=
  ⟨hs.days, hs.hands, hs.rows, hs.works, hs.work, by show (us.length : Int) ≤ 30; omega, h⟩
theorem wishS_kind {s : Sy} {us : List Ws} {u : Ws} (h : u ∈ us) (hk : u.kind ≠ 1) : ¬EvP (wishS s us) := fun he => hk (he.kind u h)
theorem wishS_twice {s : Sy} {us : List Ws} {u v : Ws} (h : u ∈ us) (e : v.work = u.work) : ¬EvP (wishS s (us ++ [v])) := fun he => by
  have h1 : ((us ++ [v]).map (·.work)).Nodup := he.nd
  rw [List.map_append, List.nodup_append] at h1
  exact h1.2.2 u.work (List.mem_map.mpr ⟨u, h, rfl⟩) v.work (List.mem_map.mpr ⟨v, List.mem_cons_self, rfl⟩) e.symm
def handS (s : Sy) (k : Nat) (r : List Int) : Sy := ⟨s.days, s.hands.set k r, s.works, s.wishes⟩
theorem handS_ok {s : Sy} {k : Nat} {r : List Int} (hs : s.Ok 30 5 12 10 12) (hr : Row s.days r) : Ok38 (handS s k r) := by
  refine ⟨hs.days, by show 1 ≤ (s.hands.set k r).length ∧ ((s.hands.set k r).length : Int) ≤ 5; rw [List.length_set]; exact hs.hands, fun x hx => ?_, hs.works, fun i w hw => ?_, Int.le_trans hs.wishes (by decide), hs.wish⟩
  · rcases List.mem_or_eq_of_mem_set hx with h | h
    · exact hs.rows x h
    · rw [h]; exact hr
  · show w.Ok i ((s.hands.set k r).length : Nat) 10
    rw [List.length_set]
    exact hs.work i w hw
theorem handS_un {s : Sy} {k : Nat} {r : List Int} (h : k < s.hands.length) (hr : r ≠ []) : ¬EvP (handS s k r) := fun he => hr (he.hands r (List.mem_set h r))
theorem len_un {l : Int} (h : 1 ≤ l ∧ l ≤ 10) : l % 10 + 1 ≠ l ∧ 1 ≤ l % 10 + 1 ∧ l % 10 + 1 ≤ 10 := by omega
theorem fit_p {s : Sy} (hs : S30 s) {i : Nat} (hi : i < s.works.length) {p : P2} (h : okP s (wkAt s i) p = true) : FitN 1 2 (encP p) := by
  have := okP_iff.mp h
  have h4 := hs.days
  have h5 := hs.hands
  have h6 := (hs.work i _ (wk_get hi)).len
  exact fit_tup (k := 0) (n := 2) (fitL_cons (n := 0) (fit_int (by omega)) (fitL_cons (n := 0) (fit_int (by omega)) (fitL_nil (n := 0))))
theorem fit_plan {s : Sy} (hs : S30 s) {ps : List P2} (hp : IsPlan s ps) : FitN 2 300 (encR ps) := by
  have hw := hs.works
  have hl := hp.len
  exact (fit_tup (k := 1) (fitL_get (n := 2) fun i p h => fit_p hs (by rw [← hl]; exact (List.getElem?_eq_some_iff.mp h).1) (hp.way i p h))).mono (Nat.le_refl _) (by omega)
def ToldE (s : Sy) (d : D) : Prop := (¬EvP s ∧ d = .tup [.str "not even", .non]) ∨ (EvP s ∧ ¬RoomOk s ∧ d = .tup [.str "no room", .int (roomF s s.days)]) ∨ (EvP s ∧ RoomOk s ∧ ∃ (ps : List P2) (qs : List (Nat × Int)), d = .tup [.str "told", .tup [encR ps, .tup (qs.map pairQ)]] ∧ Keep s (takG s) ps ∧ QsOk s (takG s) qs s.wishes.length ∧ EvRes s ps qs)
theorem ToldE.one {s : Sy} {d d' : D} (h : ToldE s d) (h' : ToldE s d') : d = d' := by
  rcases h with ⟨a, rfl⟩ | ⟨a, b, rfl⟩ | ⟨a, b, ps, qs, rfl, _, q, r⟩ <;> rcases h' with ⟨a', rfl⟩ | ⟨a', b', rfl⟩ | ⟨a', b', ps', qs', rfl, _, q', r'⟩
  · rfl
  · exact absurd a' a
  · exact absurd a' a
  · exact absurd a a'
  · rfl
  · exact absurd b' b
  · exact absurd a a'
  · exact absurd b b'
  · obtain ⟨rfl, rfl⟩ := evRes_one r r' q q'
    rfl
def w_f_law_told : DS := wSeq (wAsg (wC .non) (gNm 1)) (wSeq (wTry (fun R => wAsg (wTup (wCons (wC (.str "told")) (wCons (wCallX X_p_even R (wCons (wVar 0) (wNil))) (wNil)))) (gNm 1)) [⟨"WishError", (some 2), fun a e => wSeq (wAsg (wTup (wCons (wC (.str "another kind")) (wCons (wC .non) (wNil)))) (gNm 1)) (wIf (wTest (wCall (S_f_law_is_kind a e) (wCons (wVar 2) (wCons (wC (.int 3)) (wNil))))) (wAsg (wTup (wCons (wC (.str "not even")) (wCons (wC .non) (wNil)))) (gNm 1)) (wIf (wTest (wCall (S_f_law_is_kind a e) (wCons (wVar 2) (wCons (wC (.int 2)) (wNil))))) (wAsg (wTup (wCons (wC (.str "no room")) (wCons (wExf e "NoRoom" "work" a (wVar 2)) (wNil)))) (gNm 1)) ((fun D env st => D.nx env st))))⟩] noX) (wRet (wVar 1)))
def S_f_law_told : DL.Spec := ⟨1, Sy, fun s => [s.d], fun s _ => Ok38 s, fun s st d st' => st' = st ∧ ToldE s d⟩
theorem vc_f_law_told : ∀ g sto, (S_f_law_told.args g).length = S_f_law_told.n → S_f_law_told.pre g sto → w_f_law_told (bodyEnds (S_f_law_told.post g sto)) (startE ["_law_system", "_law_found", "_law_error"] (S_f_law_told.args g)) sto := by
  rintro (s : Sy) sto _ (hs : Ok38 s)
  have z2 : 2 ≤ sizeLine := by decide
  simp? only [w_f_law_told, S_f_law_told]
  refine ⟨_, _, DEnds.le.refl _, fun e env st h => h, ?_⟩
  simp? only [wCallX]
  refine ⟨s, rfl, rfl, hs, ?_, ?_⟩
  · rintro d st ⟨rfl, a, b, ps, qs, rfl, k, q, r⟩
    exact ⟨z2, rfl, .inr (.inr ⟨a, b, ps, qs, rfl, k, q, r⟩)⟩
  · rintro e st ⟨rfl, ⟨a, rfl⟩ | ⟨a, b, rfl⟩⟩
    · refine ⟨true, by show mtab "NotEven" "WishError" = some true; decide, fun _ a1 => ?_, fun h => nomatch h⟩
      simp? only [Cl.go, goneD, wExf]
      refine ⟨z2, (3 : Nat), rfl, rfl, ⟨by decide, by decide⟩, ?_⟩
      rintro d st ⟨rfl, rfl⟩
      refine ⟨_, rfl, ?_⟩
      rw [if_pos (by decide)]
      exact ⟨z2, rfl, .inl ⟨a, rfl⟩⟩
    · refine ⟨true, by show mtab "NoRoom" "WishError" = some true; decide, fun _ a1 => ?_, fun h => nomatch h⟩
      simp? only [Cl.go, goneD, wExf]
      refine ⟨z2, (3 : Nat), rfl, rfl, ⟨by show 3 < 6; decide, by show ("NoRoom" : Str) ∈ kindsX; decide⟩, ?_⟩
      rintro d st ⟨rfl, rfl⟩
      refine ⟨_, rfl, ?_⟩
      rw [if_neg (by show ¬(kindsX[3]? == some ("NoRoom" : Str)) = true; decide)]
      refine ⟨(2 : Nat), rfl, rfl, ⟨by show 2 < 6; decide, by show ("NoRoom" : Str) ∈ kindsX; decide⟩, ?_⟩
      rintro d st ⟨rfl, rfl⟩
      refine ⟨_, rfl, ?_⟩
      rw [if_pos (by show (kindsX[2]? == some ("NoRoom" : Str)) = true; decide)]
      exact ⟨_, rfl, z2, rfl, .inr (.inl ⟨a, b, rfl⟩)⟩
theorem un_last {s : Sy} (h : s.works ≠ []) : atI (s.works.map Wk.d) (-1) = some (wkAt s (s.works.length - 1)).d := by
  have hp := List.length_pos_iff.mpr h
  rw [at_last (fun e => h (List.map_eq_nil_iff.mp e)), List.getLast_map]
  unfold wkAt
  rw [List.getLast_eq_getElem, List.getElem?_eq_getElem (by omega)]
  rfl
theorem okL_wk42 : ∀ ws : List Wk, D.okL (ws.map Wk.d) = true
  | [] => rfl
  | w :: r => by
    rw [List.map_cons]
    simp only [D.okL, Wk.d, dInts, D.ok, okL_ints, okL_wk42 r, Bool.and_self]
theorem okL_ws42 : ∀ us : List Ws, D.okL (us.map Ws.d) = true
  | [] => rfl
  | u :: r => by
    rw [List.map_cons]
    simp only [D.okL, Ws.d, D.ok, okL_ws42 r, Bool.and_self]
def w_f_law_uneven : DS := wSeq (wAsg (wOp dMod (wCall S_f_law_next (wCons (wVar 0) (wNil))) (wC (.int 6))) (gNm 2)) (wSeq (wAsg (wCall S_f_law_next (wCons (wVar 0) (wNil))) (gNm 3)) (wSeq (wAsg (wVar 1) (gTp 4 (gCn (gNm 4) (gCn (gNm 5) (gCn (gNm 6) (gCn (gNm 7) gNl)))))) (wSeq (wIf (wAnd (wTest (wOp dEq (wVar 2) (wC (.int 3)))) (wTest (wOp dGt (wCB bLen (wCons (wVar 6) (wNil))) (wC (.int 1))))) (wSeq (wAsg (wOp dIx (wVar 6) (wNeg (wC (.int 1)))) (gNm 8)) (wRet (wTup (wCons (wVar 4) (wCons (wVar 5) (wCons (wOp dAdd (wSl false (wVar 6) oNo (oPart (wNeg (wC (.int 1))))) (wTup (wCons (wOp dAdd (wTup (wCons (wOp dAdd (wOp dMod (wOp dIx (wVar 8) (wC (.int 0))) (wC (.int 10))) (wC (.int 1))) (wNil))) (wSl false (wVar 8) (oPart (wC (.int 1))) oNo)) (wNil)))) (wCons (wVar 7) (wNil)))))))) ((fun D env st => D.nx env st))) (wSeq (wIf (wAnd (wTest (wOp dEq (wVar 2) (wC (.int 4)))) (wAnd (wTest (wOp dNe (wVar 6) (wTup (wNil)))) (wTest (wOp dGt (wCB bLen (wCons (wVar 5) (wNil))) (wC (.int 1)))))) (wSeq (wAsg (wOp dIx (wVar 6) (wNeg (wC (.int 1)))) (gNm 8)) (wRet (wTup (wCons (wVar 4) (wCons (wVar 5) (wCons (wOp dAdd (wSl false (wVar 6) oNo (oPart (wNeg (wC (.int 1))))) (wTup (wCons (wOp dAdd (wSl false (wVar 8) oNo (oPart (wC (.int 2)))) (wTup (wCons (wSl false (wOp dIx (wVar 8) (wC (.int 2))) oNo (oPart (wNeg (wC (.int 1))))) (wNil)))) (wNil)))) (wCons (wVar 7) (wNil)))))))) ((fun D env st => D.nx env st))) (wSeq (wIf (wAnd (wTest (wOp dEq (wVar 2) (wC (.int 5)))) (wTest (wOp dNe (wVar 7) (wTup (wNil))))) (wSeq (wAsg (wOp dIx (wVar 7) (wC (.int 0))) (gNm 9)) (wRet (wTup (wCons (wVar 4) (wCons (wVar 5) (wCons (wVar 6) (wCons (wOp dAdd (wVar 7) (wTup (wCons (wOp dAdd (wOp dAdd (wSl false (wVar 9) oNo (oPart (wC (.int 2)))) (wTup (wCons (wOp dMod (wOp dAdd (wOp dIx (wVar 9) (wC (.int 2))) (wC (.int 1))) (wOp dAdd (wVar 4) (wC (.int 1)))) (wNil)))) (wSl false (wVar 9) (oPart (wC (.int 3))) oNo)) (wNil)))) (wNil)))))))) ((fun D env st => D.nx env st))) (wSeq (wIf (wAnd (wTest (wOp dEq (wVar 2) (wC (.int 0)))) (wTest (wOp dNe (wVar 7) (wTup (wNil))))) (wSeq (wAsg (wOp dMod (wVar 3) (wCB bLen (wCons (wVar 7) (wNil)))) (gNm 10)) (wRet (wTup (wCons (wVar 4) (wCons (wVar 5) (wCons (wVar 6) (wCons (wCall S_f_law_put (wCons (wVar 7) (wCons (wVar 10) (wCons (wOp dAdd (wTup (wCons (wOp dIx (wOp dIx (wVar 7) (wVar 10)) (wC (.int 0))) (wCons (wC (.int 0)) (wNil)))) (wSl false (wOp dIx (wVar 7) (wVar 10)) (oPart (wC (.int 2))) oNo)) (wNil))))) (wNil)))))))) ((fun D env st => D.nx env st))) (wSeq (wIf (wAnd (wTest (wOp dEq (wVar 2) (wC (.int 1)))) (wTest (wOp dGt (wCB bLen (wCons (wVar 6) (wNil))) (wC (.int 1))))) (wRet (wTup (wCons (wVar 4) (wCons (wVar 5) (wCons (wOp dAdd (wSl false (wVar 6) oNo (oPart (wNeg (wC (.int 1))))) (wTup (wCons (wTup (wCons (wOp dIx (wOp dIx (wVar 6) (wC (.int 0))) (wC (.int 0))) (wCons (wTup (wCons (wOp dMod (wVar 3) (wOp dSub (wCB bLen (wCons (wVar 6) (wNil))) (wC (.int 1)))) (wNil))) (wCons (wOp dIx (wOp dIx (wVar 6) (wC (.int 0))) (wC (.int 2))) (wNil))))) (wNil)))) (wCons (wVar 7) (wNil))))))) ((fun D env st => D.nx env st))) (wRet (wTup (wCons (wVar 4) (wCons (wCall S_f_law_put (wCons (wVar 5) (wCons (wOp dMod (wVar 3) (wCB bLen (wCons (wVar 5) (wNil)))) (wCons (wTup (wCons (wOp dMod (wOp dFdiv (wVar 3) (wC (.int 5))) (wVar 4)) (wNil))) (wNil))))) (wCons (wVar 6) (wCons (wVar 7) (wNil))))))))))))))
def S_f_law_uneven : DL.Spec := deckS 2 10 (fun s : Sy => [s.d]) (fun s => s.Ok 30 5 12 10 12 ∧ EvSy s) fun _ d => ∃ s' : Sy, d = s'.d ∧ Ok38 s' ∧ ¬EvP s'
theorem vc_f_law_uneven : ∀ g sto, (S_f_law_uneven.args g).length = S_f_law_uneven.n → S_f_law_uneven.pre g sto → w_f_law_uneven (bodyEnds (S_f_law_uneven.post g sto)) (startE ["_law_deck_here", "_law_system", "_law_way", "_law_number", "_law_days", "_law_hands", "_law_works", "_law_wishes", "_law_last", "_law_one", "_law_at"] (S_f_law_uneven.args g)) sto := by
  rintro ⟨rest, B, s⟩ sto _ ⟨hD, hB, hs, hev⟩
  dsimp only at hD hB hs hev
  have z1 : 1 ≤ sizeLine := by decide
  have z2 : 2 ≤ sizeLine := by decide
  have z3 : 3 ≤ sizeLine := by decide
  have z4 : 4 ≤ sizeLine := by decide
  have z100 : ∀ {m : Nat}, m ≤ 1000000 → m ≤ sizeLine := fun h => by rw [sizeLine_eq]; omega
  have hw := hs.works
  have hh := hs.hands
  have hu := hs.wishes
  have hd := hs.days
  obtain ⟨l, hl⟩ := hev.works
  have wat : ∀ {i : Nat}, i < s.works.length → wkAt s i = ⟨l, [], rangeI 0 s.hands.length⟩ := fun hi => hl _ (List.mem_of_getElem? (wk_get hi))
  have c32 : ∀ a b c : D, cutL [a, b, c] none (some 2) = [a, b] := fun _ _ _ => rfl
  have c52 : ∀ a b c d e : D, cutL [a, b, c, d, e] none (some 2) = [a, b] := fun _ _ _ _ _ => rfl
  have c53 : ∀ a b c d e : D, cutL [a, b, c, d, e] (some 3) none = [d, e] := fun _ _ _ _ _ => rfl
  have c52' : ∀ a b c d e : D, cutL [a, b, c, d, e] (some 2) none = [c, d, e] := fun _ _ _ _ _ => rfl
  have c31 : ∀ a b c : D, cutL [a, b, c] (some 1) none = [b, c] := fun _ _ _ => rfl
  simp?! only [w_f_law_uneven, S_f_law_uneven, deckS, startE]
  refine seq_go ?_
  (try simp?! only [true_and])
  refine next_use hD (by omega) fun y st y0 y1 hD => ?_
  have m6 := modb y (show (0 : Int) < 6 by decide)
  (try simp?! only [true_and])
  refine ⟨by decide, ?_⟩
  generalize y % 6 = v at m6
  refine seq_go ?_
  (try simp?! only [true_and])
  refine next_use hD (by omega) fun n st n0 n1 hD => ?_
  refine seq_go ?_
  simp?! only [Sy.d]
  have hD : Dk (B + 10) rest st := hD.mono (by omega)
  obtain ⟨E0, hE0⟩ : ∃ E0 : En, E0 = [some (.ref 2), some (.tup [.int s.days, .tup (s.hands.map dInts), .tup (s.works.map Wk.d), .tup (s.wishes.map Ws.d)]), some (.int v), some (.int n), some (.int s.days), some (.tup (s.hands.map dInts)), some (.tup (s.works.map Wk.d)), some (.tup (s.wishes.map Ws.d)), none, none, none] := ⟨_, rfl⟩
  refine seq_cut (fun e st1 => e = E0 ∧ st1 = st) (fun K hK => ?_) ?_
  · have hK := hK E0 st ⟨rfl, rfl⟩
    rw [hE0] at hK
    simp?! only [true_and]
    by_cases h3 : v = 3
    · rw [if_pos (beq_iff_eq.mpr h3)]
      by_cases h1 : (1 : Int) < s.works.length
      · rw [if_pos h1]
        have hne : s.works ≠ [] := fun e => by rw [e] at h1; simp at h1
        have hlo := (hs.work _ _ (wk_get (s := s) (i := s.works.length - 1) (by omega)))
        rw [wat (by omega)] at hlo
        have ll := len_un hlo.len
        refine seq_go ?_
        simp?! only [un_last hne]
        rw [wat (by omega)]
        simp? only [Wk.d, v_slT, cut_last, c31, dInts, List.cons_append, List.nil_append, List.length_cons, List.length_nil]
        refine ⟨by decide, z1, z3, z1, ?_, z4, ⟨lastS s ⟨l % 10 + 1, [], rangeI 0 s.hands.length⟩, ?_, lastS_ok hs hne ⟨ll.2, hlo.ahead, hlo.able, hlo.any⟩, lastS_un (.inl ⟨by omega, by rw [wat (by omega)]; exact ll.1⟩)⟩, hD⟩
        · rw [List.length_dropLast, List.length_map]; exact z100 (by omega)
        · simp only [lastS, Sy.d, List.map_append, List.map_cons, List.map_nil, List.map_dropLast, Wk.d, dInts]
      · rw [if_neg h1]
        exact hK
    · rw [if_neg (by rw [beq_iff_eq]; exact h3)]
      exact hK
  rintro e st ⟨he, rfl⟩
  rw [he]
  refine seq_cut (fun e st1 => e = E0 ∧ st1 = st) (fun K hK => ?_) ?_
  · have hK := hK E0 st ⟨rfl, rfl⟩
    rw [hE0] at hK ⊢
    simp?! only [true_and]
    by_cases h3 : v = 4
    · rw [if_pos (beq_iff_eq.mpr h3)]
      refine ⟨Nat.zero_le _, okL_wk42 _, ?_⟩
      rw [isE_map]
      split
      · rename_i hem
        have hne : s.works ≠ [] := fun e => by rw [e] at hem; cases hem
        have hp := List.length_pos_iff.mpr hne
        split
        · rename_i h1
          have hlo := (hs.work _ _ (wk_get (s := s) (i := s.works.length - 1) (by omega)))
          rw [wat (by omega)] at hlo
          refine seq_go ?_
          simp?! only [un_last hne]
          rw [wat (by omega)]
          simp? only [Wk.d, v_slT, cut_last, c32, dInts, List.cons_append, List.nil_append, List.length_cons, List.length_nil]
          refine ⟨z1, z3, z1, (by rw [List.length_dropLast, List.length_map]; exact z100 (by omega)), z4, ⟨lastS s ⟨l, [], (rangeI 0 s.hands.length).dropLast⟩, ?_, lastS_ok hs hne ⟨hlo.len, hlo.ahead, ⟨hlo.able.1.sublist (List.dropLast_sublist _), fun x hx => hlo.able.2 x ((List.dropLast_sublist _).subset hx)⟩, fun e => ?_⟩, lastS_un (.inr (.inr ?_))⟩, hD⟩
          · simp only [lastS, List.map_append, List.map_cons, List.map_nil, List.map_dropLast, Wk.d, dInts]
          · have := congrArg List.length e
            unfold rangeI at this
            rw [List.length_dropLast, List.length_map, List.length_range, List.length_nil] at this
            omega
          · show (rangeI 0 s.hands.length).dropLast.length ≠ _
            unfold rangeI
            rw [List.length_dropLast, List.length_map, List.length_range]
            omega
        · exact hK
      · exact hK
    · rw [if_neg (by rw [beq_iff_eq]; exact h3)]
      exact hK
  rintro e st ⟨he, rfl⟩
  rw [he]
  refine seq_cut (fun e st1 => e = E0 ∧ st1 = st) (fun K hK => ?_) ?_
  · have hK := hK E0 st ⟨rfl, rfl⟩
    rw [hE0] at hK ⊢
    simp?! only [true_and]
    by_cases h3 : v = 5
    · rw [if_pos (beq_iff_eq.mpr h3)]
      refine ⟨Nat.zero_le _, okL_ws42 _, ?_⟩
      rw [isE_map]
      split
      · rename_i hem
        have hne : s.wishes ≠ [] := fun e => by rw [e] at hem; cases hem
        obtain ⟨u, us, eu⟩ := List.exists_cons_of_ne_nil hne
        have ou := hs.wish u (by rw [eu]; exact List.mem_cons_self)
        have hat : atI (s.wishes.map Ws.d) 0 = some u.d := by rw [eu]; exact atI_of (i := 0) (by decide) rfl
        refine seq_go ?_
        simp? only [hat, Ws.d, v_slT, c52, c53, List.cons_append, List.nil_append, List.length_cons, List.length_nil]
        have bd := modb (u.day + 1) (show (0 : Int) < s.days + 1 by omega)
        have hmu : u ∈ s.wishes := by rw [eu]; exact List.mem_cons_self
        refine ⟨by omega, z1, z3, by decide, z1, z100 (by omega), z4, ⟨wishS s (s.wishes ++ [⟨u.work, u.kind, (u.day + 1) % (s.days + 1), u.weight, u.rank⟩]), ?_, wishS_ok hs (by rw [List.length_append, List.length_singleton]; omega) fun x hx => ?_, wishS_twice hmu rfl⟩, hD⟩
        · simp only [wishS, List.map_append, List.map_cons, List.map_nil, Ws.d]
        · rcases List.mem_append.mp hx with h | h
          · exact hs.wish x h
          · rw [List.mem_singleton] at h
            rw [h]
            exact ⟨ou.work, ou.kind, ⟨bd.1, by show (u.day + 1) % (s.days + 1) ≤ s.days; omega⟩, ou.weight, ou.rank⟩
      · exact hK
    · rw [if_neg (by rw [beq_iff_eq]; exact h3)]
      exact hK
  rintro e st ⟨he, rfl⟩
  rw [he]
  refine seq_cut (fun e st1 => e = E0 ∧ st1 = st) (fun K hK => ?_) ?_
  · have hK := hK E0 st ⟨rfl, rfl⟩
    rw [hE0] at hK ⊢
    simp?! only [true_and]
    by_cases h3 : v = 0
    · rw [if_pos (beq_iff_eq.mpr h3)]
      refine ⟨Nat.zero_le _, okL_ws42 _, ?_⟩
      rw [isE_map]
      split
      · rename_i hem
        have hne : s.wishes ≠ [] := fun e => by rw [e] at hem; cases hem
        have hp := List.length_pos_iff.mpr hne
        refine seq_go ?_
        (try simp?! only [true_and])
        refine ⟨by omega, ?_⟩
        have b1 := modb n (show (0 : Int) < s.wishes.length by omega)
        obtain ⟨j, hj⟩ : ∃ j : Nat, n % (s.wishes.length : Int) = j := ⟨(n % (s.wishes.length : Int)).toNat, by omega⟩
        have hjl : j < s.wishes.length := by omega
        obtain ⟨u, hu1⟩ : ∃ u, s.wishes[j]? = some u := ⟨_, List.getElem?_eq_getElem hjl⟩
        have ou := hs.wish u (List.mem_of_getElem? hu1)
        have hat : atI (s.wishes.map Ws.d) (j : Int) = some u.d := atI_map (atI_of (by omega) (by rw [Int.toNat_natCast]; exact hu1))
        rw [hj]
        simp? only [hat, Ws.d, v_slT, c52', List.cons_append, List.nil_append, List.length_cons, List.length_nil]
        refine ⟨z2, by decide, ?_⟩
        refine put_use (ds := s.wishes.map Ws.d) (i := j) (x := .tup [D.int u.work, D.int 0, D.int u.day, D.int u.weight, D.int u.rank]) ⟨by rw [List.length_map]; omega, by rw [List.length_map]; omega⟩ ?_
        refine ⟨z4, ⟨wishS s (s.wishes.set j ⟨u.work, 0, u.day, u.weight, u.rank⟩), ?_, wishS_ok hs (by rw [List.length_set]; omega) fun x hx => ?_, wishS_kind (List.mem_set hjl _) (show (0 : Int) ≠ 1 by decide)⟩, hD⟩
        · simp only [wishS, List.map_set, Ws.d]
        · rcases List.mem_or_eq_of_mem_set hx with h | h
          · exact hs.wish x h
          · rw [h]
            exact ⟨ou.work, ⟨show (0 : Int) ≤ 0 by decide, show (0 : Int) ≤ 1 by decide⟩, ou.day, ou.weight, ou.rank⟩
      · exact hK
    · rw [if_neg (by rw [beq_iff_eq]; exact h3)]
      exact hK
  rintro e st ⟨he, rfl⟩
  rw [he]
  refine seq_cut (fun e st1 => e = E0 ∧ st1 = st) (fun K hK => ?_) ?_
  · have hK := hK E0 st ⟨rfl, rfl⟩
    rw [hE0] at hK ⊢
    simp?! only [true_and]
    by_cases h3 : v = 1
    · rw [if_pos (beq_iff_eq.mpr h3)]
      split
      · rename_i h1
        have hne : s.works ≠ [] := fun e => by rw [e] at h1; simp at h1
        have hlo := (hs.work _ _ (wk_get (s := s) (i := s.works.length - 1) (by omega)))
        rw [wat (by omega)] at hlo
        have hat : atI (s.works.map Wk.d) 0 = some (Wk.d ⟨l, [], rangeI 0 s.hands.length⟩) := by
          have := atI_map (f := Wk.d) (wk_at (s := s) (i := 0) (by omega))
          rw [wat (by omega)] at this
          exact this
        simp? only [hat, Wk.d, v_slT, cut_last, dInts, List.cons_append, List.nil_append, List.length_cons, List.length_nil]
        have bn := modb n (show (0 : Int) < (s.works.length : Int) - 1 by omega)
        refine ⟨by omega, z1, z3, z1, (by rw [List.length_dropLast, List.length_map]; exact z100 (by omega)), z4, ⟨lastS s ⟨l, [n % ((s.works.length : Int) - 1)], rangeI 0 s.hands.length⟩, ?_, lastS_ok hs hne ⟨hlo.len, ⟨List.pairwise_singleton _ _, fun x hx => ?_⟩, hlo.able, hlo.any⟩, lastS_un (.inr (.inl (by simp)))⟩, hD⟩
        · simp only [lastS, List.map_append, List.map_cons, List.map_nil, List.map_dropLast, Wk.d, dInts]
        · rw [List.mem_singleton] at hx
          rw [hx]
          omega
      · exact hK
    · rw [if_neg (by rw [beq_iff_eq]; exact h3)]
      exact hK
  rintro e st ⟨he, rfl⟩
  rw [he, hE0]
  simp?! only [true_and]
  have bh := modb n (show (0 : Int) < s.hands.length by omega)
  obtain ⟨k, hk⟩ : ∃ k : Nat, n % (s.hands.length : Int) = k := ⟨(n % (s.hands.length : Int)).toNat, by omega⟩
  have bd := modb (n / 5) (show (0 : Int) < s.days by omega)
  refine ⟨by omega, ⟨by decide, by decide⟩, by omega, z1, ?_⟩
  rw [hk]
  refine put_use (ds := s.hands.map dInts) (i := k) (x := .tup [.int (n / 5 % s.days)]) ⟨by rw [List.length_map]; omega, by rw [List.length_map]; omega⟩ ?_
  refine ⟨z4, ⟨handS s k [n / 5 % s.days], ?_, handS_ok hs ⟨List.pairwise_singleton _ _, fun x hx => ?_⟩, handS_un (by omega) (by simp)⟩, hD⟩
  · simp only [handS, List.map_set, dInts, List.map_cons, List.map_nil]
  · rw [List.mem_singleton] at hx
    rw [hx]
    exact bd
def w_p_law_1 : DS := wSeq (wAsg (wCall S_f_law_even (wCons (wVar 1) (wCons (wC (.int 30)) (wCons (wC (.int 5)) (wCons (wC (.int 12)) (wCons (wC (.int 10)) (wNil))))))) (gNm 3)) (wSeq (wAsg (wCall S_f_law_told (wCons (wVar 3) (wNil))) (gTp 2 (gCn (gNm 4) (gCn (gNm 5) gNl)))) (wSeq (wIf (wNot (wTest (wCall S_f_law_same (wCons (wCall S_f_law_told (wCons (wVar 3) (wNil))) (wCons (wTup (wCons (wVar 4) (wCons (wVar 5) (wNil)))) (wNil)))))) (wRet (wC (.bl false))) ((fun D env st => D.nx env st))) (wSeq (wAsg (wCB bLen (wCons (wOp dIx (wVar 3) (wC (.int 2))) (wNil))) (gNm 6)) (wSeq (wIf (wTest (wOp dNe (wOp dIx (wVar 3) (wC (.int 2))) (wTup (wNil)))) (wAsg (wCall S_f_law_room (wCons (wVar 3) (wCons (wOp dIx (wVar 3) (wC (.int 0))) (wNil)))) (gNm 6)) ((fun D env st => D.nx env st))) (wSeq (wIf (wTest (wOp dGt (wCB bLen (wCons (wOp dIx (wVar 3) (wC (.int 2))) (wNil))) (wVar 6))) (wIf (wNot (wTest (wCall S_f_law_same (wCons (wTup (wCons (wVar 4) (wCons (wVar 5) (wNil)))) (wCons (wTup (wCons (wC (.str "no room")) (wCons (wVar 6) (wNil)))) (wNil)))))) (wRet (wC (.bl false))) ((fun D env st => D.nx env st))) (wIf (wOr (wTest (wOp dNe (wVar 4) (wC (.str "told")))) (wNot (wTest (wCall S_f_law_is_paper (wCons (wVar 3) (wCons (wVar 5) (wNil))))))) (wRet (wC (.bl false))) ((fun D env st => D.nx env st)))) (wIf (wNot (wTest (wCall S_f_law_same (wCons (wCall S_f_law_told (wCons (wCall S_f_law_uneven (wCons (wVar 1) (wCons (wVar 3) (wNil)))) (wNil))) (wCons (wTup (wCons (wC (.str "not even")) (wCons (wC .non) (wNil)))) (wNil)))))) (wRet (wC (.bl false))) ((fun D env st => D.nx env st))))))))
def w_p_law : DS := wSeq (wAsg (wCall S_f_law_deck (wCons (wVar 0) (wNil))) (gNm 1)) (wSeq (wFor (iRange1 (wCons (wC (.int 4)) (wNil))) (gNm 2) w_p_law_1) (wRet (wC (.bl true))))
theorem sy_evP42 {s : Sy} (h : EvSy s) : EvP s := by
  refine ⟨h.hands, fun w hw => ?_, h.kind, h.nd⟩
  obtain ⟨l, hl⟩ := h.works
  have hp : 0 < s.works.length := List.length_pos_iff.mpr fun e => by rw [e] at hw; cases hw
  have h0 : wkAt s 0 = ⟨l, [], rangeI 0 s.hands.length⟩ := hl _ (List.mem_of_getElem? (wk_get hp))
  rw [h0, hl w hw]
  refine ⟨rfl, rfl, ?_⟩
  show (rangeI 0 s.hands.length).length = _
  unfold rangeI
  rw [List.length_map, List.length_range]
theorem ok38_up42 {s : Sy} (hs : s.Ok 30 5 12 10 12) : Ok38 s := ⟨hs.days, hs.hands, hs.rows, hs.works, hs.work, by have := hs.wishes; omega, hs.wish⟩
theorem fit_word42 {k : Nat} {x : Str} (h : ((D.str x).ok && (D.str x).sml && decide ((D.str x).blk ≤ 10)) = true) : FitN k 10 (.str x) := by
  simp only [Bool.and_eq_true, decide_eq_true_eq] at h
  exact ⟨h.1.1, h.1.2, h.2, Nat.zero_le _⟩
theorem told_fit {s : Sy} {d : D} (hs : Ok38 s) (h : ToldE s d) : d.Fit := by
  have h30 : S30 s := s30_of hs (by omega) (by omega) (by omega) (by omega) (by omega)
  have hw := hs.works
  have hd := hs.days
  have hu := hs.wishes
  rcases h with ⟨_, rfl⟩ | ⟨_, hr, rfl⟩ | ⟨_, _, ps, qs, rfl, hk, hq, _⟩
  · exact (fit_tup (k := 1) (fitL_cons (fit_word42 (x := "not even") (by decide +kernel)) (fitL_cons (n := 0) fit_non (fitL_nil (n := 0))))).fit (by decide) (by decide)
  · have hp : 0 < s.works.length := by
      rcases Nat.eq_zero_or_pos s.works.length with h | h
      · exact absurd (Or.inl h) hr
      · exact h
    have h1 : ¬(s.works.length : Int) ≤ roomF s s.days := fun h => hr (Or.inr h)
    have hl0 := (lenA_pos h30 hp).1
    have hr0 : 0 ≤ roomF s s.days := Int.mul_nonneg (by omega) (Int.ediv_nonneg (by omega) (by omega))
    exact (fit_tup (k := 1) (fitL_cons (fit_word42 (x := "no room") (by decide +kernel)) (fitL_cons (n := 0) (fit_int (by omega)) (fitL_nil (n := 0))))).fit (by decide) (by decide)
  · have hql := qs_len hq
    have h1 : FitN 2 300 (encR ps) := fit_plan h30 hk.pl
    have h2 : FitN 2 300 (D.tup (qs.map pairQ)) := (fit_tup (k := 1) (fitL_map (n := 2) (enc := pairQ) fun x hx => by
      have h3 := (hq.2 x hx).1
      have h4 := (hq.2 x hx).2.1
      have h5 : x.1 ∈ outG (takG s) s.wishes.length := by rw [← hq.1]; exact List.mem_map.mpr ⟨x, hx, rfl⟩
      have h6 := List.mem_range.mp (List.mem_filter.mp h5).1
      have h7 : 0 ≤ dayK s x.1 := (hs.wish _ (ws_at h6).2).day.1
      exact fit_tup (k := 0) (n := 2) (fitL_cons (n := 0) (fit_int (by omega)) (fitL_cons (n := 0) (fit_int (by omega)) (fitL_nil (n := 0)))))).mono (k' := 2) (n' := 300) (Nat.le_refl _) (by omega)
    have h8 := fit_tup (k := 2) (fitL_cons h1 (fitL_cons h2 (fitL_nil (n := 0))))
    exact (fit_tup (k := 3) (fitL_cons (fit_word42 (x := "told") (by decide +kernel)) (fitL_cons h8 (fitL_nil (n := 0))))).fit (by decide) (by decide)
def S_p_law : DL.Spec := ⟨1, List Int, fun ns => [.scr (ns.map .int)], fun ns st => ns.length ≤ 63 ∧ st = [], fun _ _ d _ => d = .bl true⟩
theorem vc_p_law : ∀ g sto, (S_p_law.args g).length = S_p_law.n → S_p_law.pre g sto → w_p_law (bodyEnds (S_p_law.post g sto)) (startE ["_law_script", "_law_deck_here", "_law_turn", "_law_system", "_law_word", "_law_paper", "_law_room_here"] (S_p_law.args g)) sto := by
  rintro (ns : List Int) sto _ ⟨hl, rfl⟩
  have z1 : 1 ≤ sizeLine := by decide
  have z2 : 2 ≤ sizeLine := by decide
  simp?! only [w_p_law, S_p_law, wFor, startE]
  refine seq_go ?_
  (try simp?! only [true_and])
  refine deck_use hl fun st hD => ?_
  refine seq_cut (fun _ _ => True) (fun K hK => ?_) fun e st _ => by (try simp?! only [true_and])
  (try simp?! only [true_and])
  refine ⟨by decide, ?_⟩
  refine forL_inv (fun i e s => ∃ x2 x3 x4 x5 x6, e = [some (.scr (ns.map .int)), some (.ref 2), x2, x3, x4, x5, x6] ∧ Dk (i * 20000) [] s) ?_ (fun e st _ => ⟨trivial, hK _ _ trivial⟩) _ _ ⟨_, _, _, _, _, rfl, hD.mono (by omega)⟩
  rintro i e st d ⟨x2, x3, x4, x5, x6, rfl, hD⟩ he R hR
  obtain ⟨hi, rfl⟩ := rangeD_at he
  have hi3 : i < 4 := by simpa using hi
  refine ⟨trivial, ?_⟩
  simp?! only [w_p_law_1, wComp, wipeE, wFor]
  refine seq_go ?_
  (try simp?! only [true_and])
  refine use_deck ((30 : Int), (5 : Int), (12 : Int), (10 : Int)) rfl rfl hD (by omega) ⟨by decide, by decide, by decide, by decide⟩ fun d st hd hD => ?_
  obtain ⟨s, rfl, hs, hev⟩ := hd
  have hs : s.Ok 30 5 12 10 12 := hs
  have h30 : S30 s := s30_of hs (by omega) (by omega) (by omega) (by omega) (by omega)
  have h38 : Ok38 s := ok38_up42 hs
  have hok : EvOk s := ⟨h30, hev.kind⟩
  have hevp : EvP s := sy_evP42 hev
  have hd0 : 0 ≤ s.days := by have := hs.days; omega
  have hd1 : s.days ≤ 1000 := by have := hs.days; omega
  refine seq_go ?_
  (try simp?! only [true_and])
  refine ⟨s, rfl, rfl, h38, ?_⟩
  rintro d st ⟨rfl, ht⟩
  have hrd : ∀ (st : Sto) {d : D}, ToldE s d → rd st d = d := fun st d h => by rcases h with ⟨_, rfl⟩ | ⟨_, _, rfl⟩ | ⟨_, _, ps, qs, rfl, _⟩ <;> rfl
  obtain ⟨w, p, rfl⟩ : ∃ w p, d = D.tup [.str w, p] := by rcases ht with ⟨_, rfl⟩ | ⟨_, _, rfl⟩ | ⟨_, _, ps, qs, rfl, _⟩ <;> exact ⟨_, _, rfl⟩
  simp?! only [true_and]
  refine seq_go ?_
  (try simp?! only [true_and])
  refine ⟨s, rfl, rfl, h38, ?_⟩
  rintro d2 st ⟨rfl, ht2⟩
  rw [ht2.one ht]
  refine ⟨z2, ?_⟩
  refine same_use (told_fit h38 ht) (told_fit h38 ht) ?_
  rw [beq_self_eq_true]
  refine ⟨_, rfl, ?_⟩
  rw [if_neg (by decide)]
  have e2 : ∀ (st : Sto) (Q : DK), dIx s.d (.int 2) st Q = Q (.tup (s.works.map Wk.d)) st := fun st Q => by simp? only [Sy.d]
  have e0 : ∀ (st : Sto) (Q : DK), dIx s.d (.int 0) st Q = Q (.int s.days) st := fun st Q => by simp? only [Sy.d]
  refine seq_go ?_
  simp?! only [e2]
  obtain ⟨rm, erm⟩ : ∃ rm : Int, rm = if s.works.length = 0 then 0 else roomF s s.days := ⟨_, rfl⟩
  refine seq_cut (fun e st1 => e = [some (.scr (ns.map .int)), some (.ref 2), some (.int (0 + (i : Int))), some s.d, some (.str w), some p, some (.int rm)] ∧ st1 = st) (fun K hK => ?_) ?_
  · simp?! only [e2, e0]
    refine ⟨Nat.zero_le _, okL_wk42 _, ?_⟩
    rw [isE_map]
    by_cases h0 : s.works = []
    · rw [h0] at erm ⊢
      rw [if_neg (by decide)]
      exact hK _ _ ⟨by rw [erm]; rfl, rfl⟩
    · have hp := List.length_pos_iff.mpr h0
      rw [if_pos (by rw [Bool.not_eq_true', ← Bool.not_eq_true, List.isEmpty_iff]; exact h0)]
      refine use_pure (s, s.days) rfl rfl ⟨h30, hp, hd0, hd1⟩ ?_
      rw [if_neg (by omega)] at erm
      exact hK _ _ ⟨by rw [erm], rfl⟩
  rintro e st ⟨rfl, rfl⟩
  refine seq_cut (fun e st1 => e = [some (.scr (ns.map .int)), some (.ref 2), some (.int (0 + (i : Int))), some s.d, some (.str w), some p, some (.int rm)] ∧ st1 = st) (fun K hK => ?_) ?_
  · have hK := hK _ _ ⟨rfl, rfl⟩
    simp?! only [e2]
    by_cases hr : rm < (s.works.length : Int)
    · rw [if_pos hr]
      have h0 : s.works.length ≠ 0 := fun h => by rw [if_pos h] at erm; omega
      rw [if_neg h0] at erm
      have hnr : ¬RoomOk s := fun h => h.elim h0 fun h => by omega
      have e := ht.one (.inr (.inl ⟨hevp, hnr, rfl⟩))
      rw [← erm] at e
      cases e
      refine ⟨z2, z2, same_use (told_fit h38 ht) (told_fit h38 ht) ?_⟩
      rw [beq_self_eq_true]
      refine ⟨_, rfl, ?_⟩
      rw [if_neg (by decide)]
      exact hK
    · rw [if_neg hr]
      have hro : RoomOk s := by
        by_cases h0 : s.works.length = 0
        · exact .inl h0
        · rw [if_neg h0] at erm
          exact .inr (by omega)
      rcases ht with ⟨hn, _⟩ | ⟨_, hn, _⟩ | ⟨_, _, ps, qs, e, hk, hq, _⟩
      · exact absurd hevp hn
      · exact absurd hro hn
      cases e
      refine v_eqs ?_
      refine ⟨_, rfl, ?_⟩
      rw [if_neg (by decide)]
      refine use_pure (s, D.tup [encR ps, .tup (qs.map pairQ)]) rfl rfl ⟨hok, blw_pq 0 ps qs⟩ ?_
      refine ⟨_, rfl, ?_⟩
      have hP : paperD s (.tup [encR ps, .tup (qs.map pairQ)]) = true := by
        rw [paper_enc]
        exact tr_true (hk.paper hq.1 hq.2)
      rw [hP, if_neg (by decide)]
      exact hK
  rintro e st ⟨rfl, rfl⟩
  (try simp?! only [true_and])
  refine use_deck s rfl rfl hD (by omega) ⟨hs, hev⟩ fun d st hd hD => ?_
  obtain ⟨s', rfl, h38', hne'⟩ := hd
  refine ⟨s', rfl, rfl, h38', ?_⟩
  rintro d3 st ⟨rfl, ht3⟩
  have e3 : d3 = .tup [.str "not even", .non] := ht3.one (.inl ⟨hne', rfl⟩)
  subst e3
  refine ⟨z2, same_use (told_fit h38' ht3) (told_fit h38' ht3) ?_⟩
  rw [beq_self_eq_true]
  refine ⟨_, rfl, ?_⟩
  rw [if_neg (by decide)]
  exact hR _ _ ⟨_, _, _, _, _, rfl, hD.mono (by omega)⟩
abbrev N_p_is_number : List Str := ["thing"]
theorem sc_p_is_number : FnScope N_p_is_number ["thing"] (defScope s_p_is_number) := ⟨rfl, rfl, rfl, by decide +kernel, rfl, by decide +kernel, by decide +kernel⟩
abbrev N_p_is_even : List Str := ["system", "days", "hands", "works", "wishes", "away", "length", "ahead", "able", "work", "sort", "day", "weight", "rank", "wish"]
theorem sc_p_is_even : FnScope N_p_is_even ["system"] (defScope s_p_is_even) := ⟨rfl, rfl, rfl, by decide +kernel, rfl, by decide +kernel, by decide +kernel⟩
abbrev N_p_room_up_to : List Str := ["system", "day"]
theorem sc_p_room_up_to : FnScope N_p_room_up_to ["system", "day"] (defScope s_p_room_up_to) := ⟨rfl, rfl, rfl, by decide +kernel, rfl, by decide +kernel, by decide +kernel⟩
abbrev N_p_is_no_lower : List Str := ["wish", "other"]
theorem sc_p_is_no_lower : FnScope N_p_is_no_lower ["wish", "other"] (defScope s_p_is_no_lower) := ⟨rfl, rfl, rfl, by decide +kernel, rfl, by decide +kernel, by decide +kernel⟩
abbrev N_p_in_blocks : List Str := ["system", "works", "plan", "place", "work"]
theorem sc_p_in_blocks : FnScope N_p_in_blocks ["system", "works"] (defScope s_p_in_blocks) := ⟨rfl, rfl, rfl, by decide +kernel, rfl, by decide +kernel, by decide +kernel⟩
abbrev N_f_law_deck : List Str := ["_law_script", "_law_digits", "_law_cells", "_law_cell"]
theorem sc_f_law_deck : FnScope N_f_law_deck ["_law_script"] (defScope s_f_law_deck) := ⟨rfl, rfl, rfl, by decide +kernel, rfl, by decide +kernel, by decide +kernel⟩
abbrev N_f_law_next : List Str := ["_law_deck_here", "_law_at", "_law_primes", "_law_cell", "_law_mixed"]
theorem sc_f_law_next : FnScope N_f_law_next ["_law_deck_here"] (defScope s_f_law_next) := ⟨rfl, rfl, rfl, by decide +kernel, rfl, by decide +kernel, by decide +kernel⟩
abbrev N_f_law_put : List Str := ["_law_row", "_law_at", "_law_thing"]
theorem sc_f_law_put : FnScope N_f_law_put ["_law_row", "_law_at", "_law_thing"] (defScope s_f_law_put) := ⟨rfl, rfl, rfl, by decide +kernel, rfl, by decide +kernel, by decide +kernel⟩
abbrev N_f_law_same : List Str := ["_law_found", "_law_due"]
theorem sc_f_law_same : FnScope N_f_law_same ["_law_found", "_law_due"] (defScope s_f_law_same) := ⟨rfl, rfl, rfl, by decide +kernel, rfl, by decide +kernel, by decide +kernel⟩
abbrev N_f_law_is_from : List Str := ["_law_thing", "_law_low", "_law_high"]
theorem sc_f_law_is_from : FnScope N_f_law_is_from ["_law_thing", "_law_low", "_law_high"] (defScope s_f_law_is_from) := ⟨rfl, rfl, rfl, by decide +kernel, rfl, by decide +kernel, by decide +kernel⟩
abbrev N_f_law_ways : List Str := ["_law_system", "_law_work", "_law_days", "_law_hands", "_law_works", "_law_length", "_law_ahead", "_law_able", "_law_found", "_law_start", "_law_hand", "_law_day"]
theorem sc_f_law_ways : FnScope N_f_law_ways ["_law_system", "_law_work"] (defScope s_f_law_ways) := ⟨rfl, rfl, rfl, by decide +kernel, rfl, by decide +kernel, by decide +kernel⟩
abbrev N_f_law_clash : List Str := ["_law_system", "_law_one", "_law_way", "_law_other", "_law_other_way", "_law_end", "_law_other_end"]
theorem sc_f_law_clash : FnScope N_f_law_clash ["_law_system", "_law_one", "_law_way", "_law_other", "_law_other_way"] (defScope s_f_law_clash) := ⟨rfl, rfl, rfl, by decide +kernel, rfl, by decide +kernel, by decide +kernel⟩
abbrev N_f_law_kept : List Str := ["_law_system", "_law_wish", "_law_way"]
theorem sc_f_law_kept : FnScope N_f_law_kept ["_law_system", "_law_wish", "_law_way"] (defScope s_f_law_kept) := ⟨rfl, rfl, rfl, by decide +kernel, rfl, by decide +kernel, by decide +kernel⟩
abbrev N_f_law_room : List Str := ["_law_system", "_law_day"]
theorem sc_f_law_room : FnScope N_f_law_room ["_law_system", "_law_day"] (defScope s_f_law_room) := ⟨rfl, rfl, rfl, by decide +kernel, rfl, by decide +kernel, by decide +kernel⟩
abbrev N_f_law_is_kind : List Str := ["_law_error", "_law_at", "_law_kinds", "_law_k"]
theorem sc_f_law_is_kind : FnScope N_f_law_is_kind ["_law_error", "_law_at"] (defScope s_f_law_is_kind) := ⟨rfl, rfl, rfl, by decide +kernel, rfl, by decide +kernel, by decide +kernel⟩
abbrev N_p_is_from : List Str := ["thing", "low", "high"]
theorem sc_p_is_from : FnScope N_p_is_from ["thing", "low", "high"] (defScope s_p_is_from) := ⟨rfl, rfl, rfl, by decide +kernel, rfl, by decide +kernel, by decide +kernel⟩
abbrev N_p_do_fit : List Str := ["system", "days", "place", "day"]
theorem sc_p_do_fit : FnScope N_p_do_fit ["system", "days"] (defScope s_p_do_fit) := ⟨rfl, rfl, rfl, by decide +kernel, rfl, by decide +kernel, by decide +kernel⟩
abbrev N_f_law_goes : List Str := ["_law_system", "_law_ways_here", "_law_work", "_law_way", "_law_one"]
theorem sc_f_law_goes : FnScope N_f_law_goes ["_law_system", "_law_ways_here", "_law_work", "_law_way"] (defScope s_f_law_goes) := ⟨rfl, rfl, rfl, by decide +kernel, rfl, by decide +kernel, by decide +kernel⟩
abbrev N_f_law_is_way : List Str := ["_law_system", "_law_work", "_law_thing"]
theorem sc_f_law_is_way : FnScope N_f_law_is_way ["_law_system", "_law_work", "_law_thing"] (defScope s_f_law_is_way) := ⟨rfl, rfl, rfl, by decide +kernel, rfl, by decide +kernel, by decide +kernel⟩
abbrev N_f_law_even_wish : List Str := ["_law_deck_here", "_law_work", "_law_days", "_law_ranks", "_law_weight"]
theorem sc_f_law_even_wish : FnScope N_f_law_even_wish ["_law_deck_here", "_law_work", "_law_days"] (defScope s_f_law_even_wish) := ⟨rfl, rfl, rfl, by decide +kernel, rfl, by decide +kernel, by decide +kernel⟩
abbrev N_f_law_full_days : List Str := ["_law_system", "_law_plan", "_law_place", "_law_wish", "_law_found", "_law_day", "_law_many", "_law_one", "_law_high"]
theorem sc_f_law_full_days : FnScope N_f_law_full_days ["_law_system", "_law_plan", "_law_place"] (defScope s_f_law_full_days) := ⟨rfl, rfl, rfl, by decide +kernel, rfl, by decide +kernel, by decide +kernel⟩
abbrev N_f_law_uneven : List Str := ["_law_deck_here", "_law_system", "_law_way", "_law_number", "_law_days", "_law_hands", "_law_works", "_law_wishes", "_law_last", "_law_one", "_law_at"]
theorem sc_f_law_uneven : FnScope N_f_law_uneven ["_law_deck_here", "_law_system"] (defScope s_f_law_uneven) := ⟨rfl, rfl, rfl, by decide +kernel, rfl, by decide +kernel, by decide +kernel⟩
abbrev N_p_holds_full : List Str := ["system", "kept", "place", "pair", "wish", "day", "one"]
theorem sc_p_holds_full : FnScope N_p_holds_full ["system", "kept", "place", "pair"] (defScope s_p_holds_full) := ⟨rfl, rfl, rfl, by decide +kernel, rfl, by decide +kernel, by decide +kernel⟩
abbrev N_p_taken_wishes : List Str := ["system", "turns", "taken", "days", "rank", "below", "place", "day", "wish"]
theorem sc_p_taken_wishes : FnScope N_p_taken_wishes ["system"] (defScope s_p_taken_wishes) := ⟨rfl, rfl, rfl, by decide +kernel, rfl, by decide +kernel, by decide +kernel⟩
abbrev N_f_law_is_plan : List Str := ["_law_system", "_law_thing", "_law_work", "_law_way"]
theorem sc_f_law_is_plan : FnScope N_f_law_is_plan ["_law_system", "_law_thing"] (defScope s_f_law_is_plan) := ⟨rfl, rfl, rfl, by decide +kernel, rfl, by decide +kernel, by decide +kernel⟩
abbrev N_f_law_even : List Str := ["_law_deck_here", "_law_days", "_law_hands", "_law_works", "_law_length", "_law_many", "_law_able", "_law_size", "_law_room_here", "_law_count", "_law_turn", "_law_wishes", "_law_k"]
theorem sc_f_law_even : FnScope N_f_law_even ["_law_deck_here", "_law_days", "_law_hands", "_law_works", "_law_length"] (defScope s_f_law_even) := ⟨rfl, rfl, rfl, by decide +kernel, rfl, by decide +kernel, by decide +kernel⟩
abbrev N_f_law_is_pair : List Str := ["_law_system", "_law_plan", "_law_place", "_law_pair"]
theorem sc_f_law_is_pair : FnScope N_f_law_is_pair ["_law_system", "_law_plan", "_law_place", "_law_pair"] (defScope s_f_law_is_pair) := ⟨rfl, rfl, rfl, by decide +kernel, rfl, by decide +kernel, by decide +kernel⟩
abbrev N_p_full_day : List Str := ["system", "kept", "place", "day"]
theorem sc_p_full_day : FnScope N_p_full_day ["system", "kept", "place"] (defScope s_p_full_day) := ⟨rfl, rfl, rfl, by decide +kernel, rfl, by decide +kernel, by decide +kernel⟩
abbrev N_f_law_is_paper : List Str := ["_law_system", "_law_thing", "_law_plan", "_law_fulls", "_law_left", "_law_k", "_law_wish", "_law_place", "_law_pair"]
theorem sc_f_law_is_paper : FnScope N_f_law_is_paper ["_law_system", "_law_thing"] (defScope s_f_law_is_paper) := ⟨rfl, rfl, rfl, by decide +kernel, rfl, by decide +kernel, by decide +kernel⟩
abbrev N_p_even : List Str := ["system", "most", "taken", "wished", "plan", "kept", "left", "place", "day", "work"]
theorem sc_p_even : FnScope N_p_even ["system"] (defScope s_p_even) := ⟨rfl, rfl, rfl, by decide +kernel, rfl, by decide +kernel, by decide +kernel⟩
abbrev N_f_law_told : List Str := ["_law_system", "_law_found", "_law_error"]
theorem sc_f_law_told : FnScope N_f_law_told ["_law_system"] (defScope s_f_law_told) := ⟨rfl, rfl, rfl, by decide +kernel, rfl, by decide +kernel, by decide +kernel⟩
abbrev N_p_law : List Str := ["_law_script", "_law_deck_here", "_law_turn", "_law_system", "_law_word", "_law_paper", "_law_room_here"]
theorem sc_p_law : FnScope N_p_law ["_law_script"] (defScope s_p_law) := ⟨rfl, rfl, rfl, by decide +kernel, rfl, by decide +kernel, by decide +kernel⟩
set_option genInjectivity false in
set_option genSizeOf false in
structure Txt (K : PySem.W.Frag) (mg : Str → Option Value) where
  a_p_is_number : Addr
  d_p_is_number : FuncData
  F_p_is_number : Fun K "is_number" "is_number" s_p_is_number a_p_is_number d_p_is_number
  b_p_is_number : Binds K d_p_is_number ["thing"] []
  m_p_is_number : mg "is_number" = some (.ref a_p_is_number)
  a_p_is_even : Addr
  d_p_is_even : FuncData
  F_p_is_even : Fun K "is_even" "is_even" s_p_is_even a_p_is_even d_p_is_even
  b_p_is_even : Binds K d_p_is_even ["system"] []
  m_p_is_even : mg "is_even" = some (.ref a_p_is_even)
  a_p_room_up_to : Addr
  d_p_room_up_to : FuncData
  F_p_room_up_to : Fun K "room_up_to" "room_up_to" s_p_room_up_to a_p_room_up_to d_p_room_up_to
  b_p_room_up_to : Binds K d_p_room_up_to ["system", "day"] []
  m_p_room_up_to : mg "room_up_to" = some (.ref a_p_room_up_to)
  a_p_is_no_lower : Addr
  d_p_is_no_lower : FuncData
  F_p_is_no_lower : Fun K "is_no_lower" "is_no_lower" s_p_is_no_lower a_p_is_no_lower d_p_is_no_lower
  b_p_is_no_lower : Binds K d_p_is_no_lower ["wish", "other"] []
  m_p_is_no_lower : mg "is_no_lower" = some (.ref a_p_is_no_lower)
  a_p_in_blocks : Addr
  d_p_in_blocks : FuncData
  F_p_in_blocks : Fun K "in_blocks" "in_blocks" s_p_in_blocks a_p_in_blocks d_p_in_blocks
  b_p_in_blocks : Binds K d_p_in_blocks ["system", "works"] []
  m_p_in_blocks : mg "in_blocks" = some (.ref a_p_in_blocks)
  a_f_law_deck : Addr
  d_f_law_deck : FuncData
  F_f_law_deck : Fun K "_law_deck" "_law_deck" s_f_law_deck a_f_law_deck d_f_law_deck
  b_f_law_deck : Binds K d_f_law_deck ["_law_script"] []
  m_f_law_deck : mg "_law_deck" = some (.ref a_f_law_deck)
  a_f_law_next : Addr
  d_f_law_next : FuncData
  F_f_law_next : Fun K "_law_next" "_law_next" s_f_law_next a_f_law_next d_f_law_next
  b_f_law_next : Binds K d_f_law_next ["_law_deck_here"] []
  m_f_law_next : mg "_law_next" = some (.ref a_f_law_next)
  a_f_law_put : Addr
  d_f_law_put : FuncData
  F_f_law_put : Fun K "_law_put" "_law_put" s_f_law_put a_f_law_put d_f_law_put
  b_f_law_put : Binds K d_f_law_put ["_law_row", "_law_at", "_law_thing"] []
  m_f_law_put : mg "_law_put" = some (.ref a_f_law_put)
  a_f_law_same : Addr
  d_f_law_same : FuncData
  F_f_law_same : Fun K "_law_same" "_law_same" s_f_law_same a_f_law_same d_f_law_same
  b_f_law_same : Binds K d_f_law_same ["_law_found", "_law_due"] []
  m_f_law_same : mg "_law_same" = some (.ref a_f_law_same)
  a_f_law_is_from : Addr
  d_f_law_is_from : FuncData
  F_f_law_is_from : Fun K "_law_is_from" "_law_is_from" s_f_law_is_from a_f_law_is_from d_f_law_is_from
  b_f_law_is_from : Binds K d_f_law_is_from ["_law_thing", "_law_low", "_law_high"] []
  m_f_law_is_from : mg "_law_is_from" = some (.ref a_f_law_is_from)
  a_f_law_ways : Addr
  d_f_law_ways : FuncData
  F_f_law_ways : Fun K "_law_ways" "_law_ways" s_f_law_ways a_f_law_ways d_f_law_ways
  b_f_law_ways : Binds K d_f_law_ways ["_law_system", "_law_work"] []
  m_f_law_ways : mg "_law_ways" = some (.ref a_f_law_ways)
  a_f_law_clash : Addr
  d_f_law_clash : FuncData
  F_f_law_clash : Fun K "_law_clash" "_law_clash" s_f_law_clash a_f_law_clash d_f_law_clash
  b_f_law_clash : Binds K d_f_law_clash ["_law_system", "_law_one", "_law_way", "_law_other", "_law_other_way"] []
  m_f_law_clash : mg "_law_clash" = some (.ref a_f_law_clash)
  a_f_law_kept : Addr
  d_f_law_kept : FuncData
  F_f_law_kept : Fun K "_law_kept" "_law_kept" s_f_law_kept a_f_law_kept d_f_law_kept
  b_f_law_kept : Binds K d_f_law_kept ["_law_system", "_law_wish", "_law_way"] []
  m_f_law_kept : mg "_law_kept" = some (.ref a_f_law_kept)
  a_f_law_room : Addr
  d_f_law_room : FuncData
  F_f_law_room : Fun K "_law_room" "_law_room" s_f_law_room a_f_law_room d_f_law_room
  b_f_law_room : Binds K d_f_law_room ["_law_system", "_law_day"] []
  m_f_law_room : mg "_law_room" = some (.ref a_f_law_room)
  a_f_law_is_kind : Addr
  d_f_law_is_kind : FuncData
  F_f_law_is_kind : Fun K "_law_is_kind" "_law_is_kind" s_f_law_is_kind a_f_law_is_kind d_f_law_is_kind
  b_f_law_is_kind : Binds K d_f_law_is_kind ["_law_error", "_law_at"] []
  m_f_law_is_kind : mg "_law_is_kind" = some (.ref a_f_law_is_kind)
  a_p_is_from : Addr
  d_p_is_from : FuncData
  F_p_is_from : Fun K "is_from" "is_from" s_p_is_from a_p_is_from d_p_is_from
  b_p_is_from : Binds K d_p_is_from ["thing", "low", "high"] []
  m_p_is_from : mg "is_from" = some (.ref a_p_is_from)
  a_p_do_fit : Addr
  d_p_do_fit : FuncData
  F_p_do_fit : Fun K "do_fit" "do_fit" s_p_do_fit a_p_do_fit d_p_do_fit
  b_p_do_fit : Binds K d_p_do_fit ["system", "days"] []
  m_p_do_fit : mg "do_fit" = some (.ref a_p_do_fit)
  a_f_law_goes : Addr
  d_f_law_goes : FuncData
  F_f_law_goes : Fun K "_law_goes" "_law_goes" s_f_law_goes a_f_law_goes d_f_law_goes
  b_f_law_goes : Binds K d_f_law_goes ["_law_system", "_law_ways_here", "_law_work", "_law_way"] []
  m_f_law_goes : mg "_law_goes" = some (.ref a_f_law_goes)
  a_f_law_is_way : Addr
  d_f_law_is_way : FuncData
  F_f_law_is_way : Fun K "_law_is_way" "_law_is_way" s_f_law_is_way a_f_law_is_way d_f_law_is_way
  b_f_law_is_way : Binds K d_f_law_is_way ["_law_system", "_law_work", "_law_thing"] []
  m_f_law_is_way : mg "_law_is_way" = some (.ref a_f_law_is_way)
  a_f_law_even_wish : Addr
  d_f_law_even_wish : FuncData
  F_f_law_even_wish : Fun K "_law_even_wish" "_law_even_wish" s_f_law_even_wish a_f_law_even_wish d_f_law_even_wish
  b_f_law_even_wish : Binds K d_f_law_even_wish ["_law_deck_here", "_law_work", "_law_days"] []
  m_f_law_even_wish : mg "_law_even_wish" = some (.ref a_f_law_even_wish)
  a_f_law_full_days : Addr
  d_f_law_full_days : FuncData
  F_f_law_full_days : Fun K "_law_full_days" "_law_full_days" s_f_law_full_days a_f_law_full_days d_f_law_full_days
  b_f_law_full_days : Binds K d_f_law_full_days ["_law_system", "_law_plan", "_law_place"] []
  m_f_law_full_days : mg "_law_full_days" = some (.ref a_f_law_full_days)
  a_f_law_uneven : Addr
  d_f_law_uneven : FuncData
  F_f_law_uneven : Fun K "_law_uneven" "_law_uneven" s_f_law_uneven a_f_law_uneven d_f_law_uneven
  b_f_law_uneven : Binds K d_f_law_uneven ["_law_deck_here", "_law_system"] []
  m_f_law_uneven : mg "_law_uneven" = some (.ref a_f_law_uneven)
  a_p_holds_full : Addr
  d_p_holds_full : FuncData
  F_p_holds_full : Fun K "holds_full" "holds_full" s_p_holds_full a_p_holds_full d_p_holds_full
  b_p_holds_full : Binds K d_p_holds_full ["system", "kept", "place", "pair"] []
  m_p_holds_full : mg "holds_full" = some (.ref a_p_holds_full)
  a_p_taken_wishes : Addr
  d_p_taken_wishes : FuncData
  F_p_taken_wishes : Fun K "taken_wishes" "taken_wishes" s_p_taken_wishes a_p_taken_wishes d_p_taken_wishes
  b_p_taken_wishes : Binds K d_p_taken_wishes ["system"] []
  m_p_taken_wishes : mg "taken_wishes" = some (.ref a_p_taken_wishes)
  a_f_law_is_plan : Addr
  d_f_law_is_plan : FuncData
  F_f_law_is_plan : Fun K "_law_is_plan" "_law_is_plan" s_f_law_is_plan a_f_law_is_plan d_f_law_is_plan
  b_f_law_is_plan : Binds K d_f_law_is_plan ["_law_system", "_law_thing"] []
  m_f_law_is_plan : mg "_law_is_plan" = some (.ref a_f_law_is_plan)
  a_f_law_even : Addr
  d_f_law_even : FuncData
  F_f_law_even : Fun K "_law_even" "_law_even" s_f_law_even a_f_law_even d_f_law_even
  b_f_law_even : Binds K d_f_law_even ["_law_deck_here", "_law_days", "_law_hands", "_law_works", "_law_length"] []
  m_f_law_even : mg "_law_even" = some (.ref a_f_law_even)
  a_f_law_is_pair : Addr
  d_f_law_is_pair : FuncData
  F_f_law_is_pair : Fun K "_law_is_pair" "_law_is_pair" s_f_law_is_pair a_f_law_is_pair d_f_law_is_pair
  b_f_law_is_pair : Binds K d_f_law_is_pair ["_law_system", "_law_plan", "_law_place", "_law_pair"] []
  m_f_law_is_pair : mg "_law_is_pair" = some (.ref a_f_law_is_pair)
  a_p_full_day : Addr
  d_p_full_day : FuncData
  F_p_full_day : Fun K "full_day" "full_day" s_p_full_day a_p_full_day d_p_full_day
  b_p_full_day : Binds K d_p_full_day ["system", "kept", "place"] []
  m_p_full_day : mg "full_day" = some (.ref a_p_full_day)
  a_f_law_is_paper : Addr
  d_f_law_is_paper : FuncData
  F_f_law_is_paper : Fun K "_law_is_paper" "_law_is_paper" s_f_law_is_paper a_f_law_is_paper d_f_law_is_paper
  b_f_law_is_paper : Binds K d_f_law_is_paper ["_law_system", "_law_thing"] []
  m_f_law_is_paper : mg "_law_is_paper" = some (.ref a_f_law_is_paper)
  a_p_even : Addr
  d_p_even : FuncData
  F_p_even : Fun K "even" "even" s_p_even a_p_even d_p_even
  b_p_even : Binds K d_p_even ["system"] []
  m_p_even : mg "even" = some (.ref a_p_even)
  a_f_law_told : Addr
  d_f_law_told : FuncData
  F_f_law_told : Fun K "_law_told" "_law_told" s_f_law_told a_f_law_told d_f_law_told
  b_f_law_told : Binds K d_f_law_told ["_law_system"] []
  m_f_law_told : mg "_law_told" = some (.ref a_f_law_told)
  a_p_law : Addr
  d_p_law : FuncData
  F_p_law : Fun K "law" "law" s_p_law a_p_law d_p_law
  b_p_law : Binds K d_p_law ["_law_script"] []
  m_p_law : mg "law" = some (.ref a_p_law)
  C_NoDeed : Addr
  aC_NoDeed : PySem.W.nsIn K mainGlobals "NoDeed" = some (some (.ref C_NoDeed))
  mC_NoDeed : mg "NoDeed" = some (.ref C_NoDeed)
  C_NoPlan : Addr
  aC_NoPlan : PySem.W.nsIn K mainGlobals "NoPlan" = some (some (.ref C_NoPlan))
  mC_NoPlan : mg "NoPlan" = some (.ref C_NoPlan)
  C_NoRoom : Addr
  aC_NoRoom : PySem.W.nsIn K mainGlobals "NoRoom" = some (some (.ref C_NoRoom))
  mC_NoRoom : mg "NoRoom" = some (.ref C_NoRoom)
  C_NoText : Addr
  aC_NoText : PySem.W.nsIn K mainGlobals "NoText" = some (some (.ref C_NoText))
  mC_NoText : mg "NoText" = some (.ref C_NoText)
  C_NotEven : Addr
  aC_NotEven : PySem.W.nsIn K mainGlobals "NotEven" = some (some (.ref C_NotEven))
  mC_NotEven : mg "NotEven" = some (.ref C_NotEven)
  C_TooMany : Addr
  aC_TooMany : PySem.W.nsIn K mainGlobals "TooMany" = some (some (.ref C_TooMany))
  mC_TooMany : mg "TooMany" = some (.ref C_TooMany)
  C_WishError : Addr
  aC_WishError : PySem.W.nsIn K mainGlobals "WishError" = some (some (.ref C_WishError))
  mC_WishError : mg "WishError" = some (.ref C_WishError)
  em_NoDeed_WishError : PySem.W.exmOne K (.ref C_NoDeed) (.ref C_WishError) = some true
  em_NoPlan_WishError : PySem.W.exmOne K (.ref C_NoPlan) (.ref C_WishError) = some true
  aI_NoRoom : Addr
  dI_NoRoom : FuncData
  FI_NoRoom : Fun K "__init__" "NoRoom.__init__" (inClass (topS 4) 0) aI_NoRoom dI_NoRoom
  bI_NoRoom : Binds K dI_NoRoom ["self", "work"] []
  e_NoRoom : ErrF K "NoRoom" "work" C_NoRoom aI_NoRoom
  em_NoRoom_WishError : PySem.W.exmOne K (.ref C_NoRoom) (.ref C_WishError) = some true
  em_NoText_WishError : PySem.W.exmOne K (.ref C_NoText) (.ref C_WishError) = some true
  e_NotEven : ErrC K "NotEven" C_NotEven
  em_NotEven_WishError : PySem.W.exmOne K (.ref C_NotEven) (.ref C_WishError) = some true
  em_TooMany_WishError : PySem.W.exmOne K (.ref C_TooMany) (.ref C_WishError) = some true
  vS : PySem.W.specialIn K (.builtin "object.__class__") "__get__" = some (some (.builtin "getset_descriptor.__get__"))
  vT : PySem.W.takesIn K (.builtin "object.__class__") = some true
  xc_NoDeed : ExcC K C_NoDeed
  ki_NoDeed_NoDeed : PySem.W.kitOne K (.ref C_NoDeed) (.ref C_NoDeed) = some true
  ki_NoDeed_NoPlan : PySem.W.kitOne K (.ref C_NoDeed) (.ref C_NoPlan) = some false
  ki_NoDeed_NoRoom : PySem.W.kitOne K (.ref C_NoDeed) (.ref C_NoRoom) = some false
  ki_NoDeed_NoText : PySem.W.kitOne K (.ref C_NoDeed) (.ref C_NoText) = some false
  ki_NoDeed_NotEven : PySem.W.kitOne K (.ref C_NoDeed) (.ref C_NotEven) = some false
  ki_NoDeed_TooMany : PySem.W.kitOne K (.ref C_NoDeed) (.ref C_TooMany) = some false
  ki_NoDeed_WishError : PySem.W.kitOne K (.ref C_NoDeed) (.ref C_WishError) = some true
  ki_NoDeed_ValueError : PySem.W.kitOne K (.ref C_NoDeed) (.type "ValueError") = some true
  xc_NoPlan : ExcC K C_NoPlan
  ki_NoPlan_NoDeed : PySem.W.kitOne K (.ref C_NoPlan) (.ref C_NoDeed) = some false
  ki_NoPlan_NoPlan : PySem.W.kitOne K (.ref C_NoPlan) (.ref C_NoPlan) = some true
  ki_NoPlan_NoRoom : PySem.W.kitOne K (.ref C_NoPlan) (.ref C_NoRoom) = some false
  ki_NoPlan_NoText : PySem.W.kitOne K (.ref C_NoPlan) (.ref C_NoText) = some false
  ki_NoPlan_NotEven : PySem.W.kitOne K (.ref C_NoPlan) (.ref C_NotEven) = some false
  ki_NoPlan_TooMany : PySem.W.kitOne K (.ref C_NoPlan) (.ref C_TooMany) = some false
  ki_NoPlan_WishError : PySem.W.kitOne K (.ref C_NoPlan) (.ref C_WishError) = some true
  ki_NoPlan_ValueError : PySem.W.kitOne K (.ref C_NoPlan) (.type "ValueError") = some true
  xc_NoRoom : ExcC K C_NoRoom
  ki_NoRoom_NoDeed : PySem.W.kitOne K (.ref C_NoRoom) (.ref C_NoDeed) = some false
  ki_NoRoom_NoPlan : PySem.W.kitOne K (.ref C_NoRoom) (.ref C_NoPlan) = some false
  ki_NoRoom_NoRoom : PySem.W.kitOne K (.ref C_NoRoom) (.ref C_NoRoom) = some true
  ki_NoRoom_NoText : PySem.W.kitOne K (.ref C_NoRoom) (.ref C_NoText) = some false
  ki_NoRoom_NotEven : PySem.W.kitOne K (.ref C_NoRoom) (.ref C_NotEven) = some false
  ki_NoRoom_TooMany : PySem.W.kitOne K (.ref C_NoRoom) (.ref C_TooMany) = some false
  ki_NoRoom_WishError : PySem.W.kitOne K (.ref C_NoRoom) (.ref C_WishError) = some true
  ki_NoRoom_ValueError : PySem.W.kitOne K (.ref C_NoRoom) (.type "ValueError") = some true
  xc_NoText : ExcC K C_NoText
  ki_NoText_NoDeed : PySem.W.kitOne K (.ref C_NoText) (.ref C_NoDeed) = some false
  ki_NoText_NoPlan : PySem.W.kitOne K (.ref C_NoText) (.ref C_NoPlan) = some false
  ki_NoText_NoRoom : PySem.W.kitOne K (.ref C_NoText) (.ref C_NoRoom) = some false
  ki_NoText_NoText : PySem.W.kitOne K (.ref C_NoText) (.ref C_NoText) = some true
  ki_NoText_NotEven : PySem.W.kitOne K (.ref C_NoText) (.ref C_NotEven) = some false
  ki_NoText_TooMany : PySem.W.kitOne K (.ref C_NoText) (.ref C_TooMany) = some false
  ki_NoText_WishError : PySem.W.kitOne K (.ref C_NoText) (.ref C_WishError) = some true
  ki_NoText_ValueError : PySem.W.kitOne K (.ref C_NoText) (.type "ValueError") = some true
  xc_NotEven : ExcC K C_NotEven
  ki_NotEven_NoDeed : PySem.W.kitOne K (.ref C_NotEven) (.ref C_NoDeed) = some false
  ki_NotEven_NoPlan : PySem.W.kitOne K (.ref C_NotEven) (.ref C_NoPlan) = some false
  ki_NotEven_NoRoom : PySem.W.kitOne K (.ref C_NotEven) (.ref C_NoRoom) = some false
  ki_NotEven_NoText : PySem.W.kitOne K (.ref C_NotEven) (.ref C_NoText) = some false
  ki_NotEven_NotEven : PySem.W.kitOne K (.ref C_NotEven) (.ref C_NotEven) = some true
  ki_NotEven_TooMany : PySem.W.kitOne K (.ref C_NotEven) (.ref C_TooMany) = some false
  ki_NotEven_WishError : PySem.W.kitOne K (.ref C_NotEven) (.ref C_WishError) = some true
  ki_NotEven_ValueError : PySem.W.kitOne K (.ref C_NotEven) (.type "ValueError") = some true
  xc_TooMany : ExcC K C_TooMany
  ki_TooMany_NoDeed : PySem.W.kitOne K (.ref C_TooMany) (.ref C_NoDeed) = some false
  ki_TooMany_NoPlan : PySem.W.kitOne K (.ref C_TooMany) (.ref C_NoPlan) = some false
  ki_TooMany_NoRoom : PySem.W.kitOne K (.ref C_TooMany) (.ref C_NoRoom) = some false
  ki_TooMany_NoText : PySem.W.kitOne K (.ref C_TooMany) (.ref C_NoText) = some false
  ki_TooMany_NotEven : PySem.W.kitOne K (.ref C_TooMany) (.ref C_NotEven) = some false
  ki_TooMany_TooMany : PySem.W.kitOne K (.ref C_TooMany) (.ref C_TooMany) = some true
  ki_TooMany_WishError : PySem.W.kitOne K (.ref C_TooMany) (.ref C_WishError) = some true
  ki_TooMany_ValueError : PySem.W.kitOne K (.ref C_TooMany) (.type "ValueError") = some true
  kt_NoDeed : PySem.W.kitOne K (.type "tuple") (.ref C_NoDeed) = some false
  kn_NoDeed : PySem.W.kitOne K (.type "int") (.ref C_NoDeed) = some false
  kt_NoPlan : PySem.W.kitOne K (.type "tuple") (.ref C_NoPlan) = some false
  kn_NoPlan : PySem.W.kitOne K (.type "int") (.ref C_NoPlan) = some false
  kt_NoRoom : PySem.W.kitOne K (.type "tuple") (.ref C_NoRoom) = some false
  kn_NoRoom : PySem.W.kitOne K (.type "int") (.ref C_NoRoom) = some false
  kt_NoText : PySem.W.kitOne K (.type "tuple") (.ref C_NoText) = some false
  kn_NoText : PySem.W.kitOne K (.type "int") (.ref C_NoText) = some false
  kt_NotEven : PySem.W.kitOne K (.type "tuple") (.ref C_NotEven) = some false
  kn_NotEven : PySem.W.kitOne K (.type "int") (.ref C_NotEven) = some false
  kt_TooMany : PySem.W.kitOne K (.type "tuple") (.ref C_TooMany) = some false
  kn_TooMany : PySem.W.kitOne K (.type "int") (.ref C_TooMany) = some false
  kt_WishError : PySem.W.kitOne K (.type "tuple") (.ref C_WishError) = some false
  kn_WishError : PySem.W.kitOne K (.type "int") (.ref C_WishError) = some false
  xf_NoRoom : XfC K C_NoRoom
  no_NoRoom_work : PySem.W.findIn K (.ref C_NoRoom) "work" = some none
  n_ValueError : mg "ValueError" = none
  n_abs : mg "abs" = none
  n_bool : mg "bool" = none
  n_enumerate : mg "enumerate" = none
  n_int : mg "int" = none
  n_isinstance : mg "isinstance" = none
  n_len : mg "len" = none
  n_min : mg "min" = none
  n_range : mg "range" = none
  n_repr : mg "repr" = none
  n_set : mg "set" = none
  n_sorted : mg "sorted" = none
  n_tuple : mg "tuple" = none
  n_zip : mg "zip" = none
section
variable {P : Program} {w : World} {K : PySem.W.Frag} {mg : Str → Option Value} {base : Heap}
theorem oki_NoRoom (T : Txt K mg) : FnOk P w K mg base CX0 1 T.aI_NoRoom T.dI_NoRoom ["self", "work"] (spI K "work") :=
  init_ok T.FI_NoRoom ⟨rfl, rfl, rfl, by decide +kernel, rfl, by decide +kernel, by decide +kernel⟩ ⟨_, _, _, _, rfl⟩ (by rfl) (by rfl) (by decide) (by decide) (fun _ _ _ _ _ => rfl)
theorem exm_WishError (T : Txt K mg) : ∀ y C b, mtab y "WishError" = some b → PySem.W.nsIn K mainGlobals y = some (some (.ref C)) → PySem.W.exmOne K (.ref C) (.ref T.C_WishError) = some b :=
  mtab_all (fun C h => by rw [T.aC_TooMany] at h; cases h; exact T.em_TooMany_WishError) (fun C h => by rw [T.aC_NoPlan] at h; cases h; exact T.em_NoPlan_WishError) (fun C h => by rw [T.aC_NoRoom] at h; cases h; exact T.em_NoRoom_WishError) (fun C h => by rw [T.aC_NotEven] at h; cases h; exact T.em_NotEven_WishError) (fun C h => by rw [T.aC_NoDeed] at h; cases h; exact T.em_NoDeed_WishError) (fun C h => by rw [T.aC_NoText] at h; cases h; exact T.em_NoText_WishError)
theorem xk (T : Txt K mg) : XcK K := xk_all (fun C h => by rw [T.aC_TooMany] at h; cases h; exact T.xc_TooMany) (fun C h => by rw [T.aC_NoPlan] at h; cases h; exact T.xc_NoPlan) (fun C h => by rw [T.aC_NoRoom] at h; cases h; exact T.xc_NoRoom) (fun C h => by rw [T.aC_NotEven] at h; cases h; exact T.xc_NotEven) (fun C h => by rw [T.aC_NoDeed] at h; cases h; exact T.xc_NoDeed) (fun C h => by rw [T.aC_NoText] at h; cases h; exact T.xc_NoText)
theorem is_NoDeed (T : Txt K mg) : IsKX K (.ref T.C_NoDeed) (fun c => c == "NoDeed" || "NoDeed" == "WishError") := isk_all (fun C h => by rw [T.aC_TooMany] at h; cases h; exact T.ki_TooMany_NoDeed) (fun C h => by rw [T.aC_NoPlan] at h; cases h; exact T.ki_NoPlan_NoDeed) (fun C h => by rw [T.aC_NoRoom] at h; cases h; exact T.ki_NoRoom_NoDeed) (fun C h => by rw [T.aC_NotEven] at h; cases h; exact T.ki_NotEven_NoDeed) (fun C h => by rw [T.aC_NoDeed] at h; cases h; exact T.ki_NoDeed_NoDeed) (fun C h => by rw [T.aC_NoText] at h; cases h; exact T.ki_NoText_NoDeed)
theorem is_NoPlan (T : Txt K mg) : IsKX K (.ref T.C_NoPlan) (fun c => c == "NoPlan" || "NoPlan" == "WishError") := isk_all (fun C h => by rw [T.aC_TooMany] at h; cases h; exact T.ki_TooMany_NoPlan) (fun C h => by rw [T.aC_NoPlan] at h; cases h; exact T.ki_NoPlan_NoPlan) (fun C h => by rw [T.aC_NoRoom] at h; cases h; exact T.ki_NoRoom_NoPlan) (fun C h => by rw [T.aC_NotEven] at h; cases h; exact T.ki_NotEven_NoPlan) (fun C h => by rw [T.aC_NoDeed] at h; cases h; exact T.ki_NoDeed_NoPlan) (fun C h => by rw [T.aC_NoText] at h; cases h; exact T.ki_NoText_NoPlan)
theorem is_NoRoom (T : Txt K mg) : IsKX K (.ref T.C_NoRoom) (fun c => c == "NoRoom" || "NoRoom" == "WishError") := isk_all (fun C h => by rw [T.aC_TooMany] at h; cases h; exact T.ki_TooMany_NoRoom) (fun C h => by rw [T.aC_NoPlan] at h; cases h; exact T.ki_NoPlan_NoRoom) (fun C h => by rw [T.aC_NoRoom] at h; cases h; exact T.ki_NoRoom_NoRoom) (fun C h => by rw [T.aC_NotEven] at h; cases h; exact T.ki_NotEven_NoRoom) (fun C h => by rw [T.aC_NoDeed] at h; cases h; exact T.ki_NoDeed_NoRoom) (fun C h => by rw [T.aC_NoText] at h; cases h; exact T.ki_NoText_NoRoom)
theorem is_NoText (T : Txt K mg) : IsKX K (.ref T.C_NoText) (fun c => c == "NoText" || "NoText" == "WishError") := isk_all (fun C h => by rw [T.aC_TooMany] at h; cases h; exact T.ki_TooMany_NoText) (fun C h => by rw [T.aC_NoPlan] at h; cases h; exact T.ki_NoPlan_NoText) (fun C h => by rw [T.aC_NoRoom] at h; cases h; exact T.ki_NoRoom_NoText) (fun C h => by rw [T.aC_NotEven] at h; cases h; exact T.ki_NotEven_NoText) (fun C h => by rw [T.aC_NoDeed] at h; cases h; exact T.ki_NoDeed_NoText) (fun C h => by rw [T.aC_NoText] at h; cases h; exact T.ki_NoText_NoText)
theorem is_NotEven (T : Txt K mg) : IsKX K (.ref T.C_NotEven) (fun c => c == "NotEven" || "NotEven" == "WishError") := isk_all (fun C h => by rw [T.aC_TooMany] at h; cases h; exact T.ki_TooMany_NotEven) (fun C h => by rw [T.aC_NoPlan] at h; cases h; exact T.ki_NoPlan_NotEven) (fun C h => by rw [T.aC_NoRoom] at h; cases h; exact T.ki_NoRoom_NotEven) (fun C h => by rw [T.aC_NotEven] at h; cases h; exact T.ki_NotEven_NotEven) (fun C h => by rw [T.aC_NoDeed] at h; cases h; exact T.ki_NoDeed_NotEven) (fun C h => by rw [T.aC_NoText] at h; cases h; exact T.ki_NoText_NotEven)
theorem is_TooMany (T : Txt K mg) : IsKX K (.ref T.C_TooMany) (fun c => c == "TooMany" || "TooMany" == "WishError") := isk_all (fun C h => by rw [T.aC_TooMany] at h; cases h; exact T.ki_TooMany_TooMany) (fun C h => by rw [T.aC_NoPlan] at h; cases h; exact T.ki_NoPlan_TooMany) (fun C h => by rw [T.aC_NoRoom] at h; cases h; exact T.ki_NoRoom_TooMany) (fun C h => by rw [T.aC_NotEven] at h; cases h; exact T.ki_NotEven_TooMany) (fun C h => by rw [T.aC_NoDeed] at h; cases h; exact T.ki_NoDeed_TooMany) (fun C h => by rw [T.aC_NoText] at h; cases h; exact T.ki_NoText_TooMany)
theorem is_WishError (T : Txt K mg) : IsKX K (.ref T.C_WishError) (fun c => c == "WishError" || "WishError" == "WishError") := isk_all (fun C h => by rw [T.aC_TooMany] at h; cases h; exact T.ki_TooMany_WishError) (fun C h => by rw [T.aC_NoPlan] at h; cases h; exact T.ki_NoPlan_WishError) (fun C h => by rw [T.aC_NoRoom] at h; cases h; exact T.ki_NoRoom_WishError) (fun C h => by rw [T.aC_NotEven] at h; cases h; exact T.ki_NotEven_WishError) (fun C h => by rw [T.aC_NoDeed] at h; cases h; exact T.ki_NoDeed_WishError) (fun C h => by rw [T.aC_NoText] at h; cases h; exact T.ki_NoText_WishError)
theorem is_ValueError (T : Txt K mg) : IsKX K (.type "ValueError") (fun _ => ("ValueError" : String) == "ValueError") := isk_all (fun C h => by rw [T.aC_TooMany] at h; cases h; exact T.ki_TooMany_ValueError) (fun C h => by rw [T.aC_NoPlan] at h; cases h; exact T.ki_NoPlan_ValueError) (fun C h => by rw [T.aC_NoRoom] at h; cases h; exact T.ki_NoRoom_ValueError) (fun C h => by rw [T.aC_NotEven] at h; cases h; exact T.ki_NotEven_ValueError) (fun C h => by rw [T.aC_NoDeed] at h; cases h; exact T.ki_NoDeed_ValueError) (fun C h => by rw [T.aC_NoText] at h; cases h; exact T.ki_NoText_ValueError)
theorem ok_p_is_number (T : Txt K mg) : FnG P w K mg base CX0 1 T.a_p_is_number T.d_p_is_number ["thing"] (spOf K S_p_is_number) := by
  refine fn_ok T.F_p_is_number sc_p_is_number rfl (fun cdv A outer s H E hr hgd => ?_) vc_p_is_number
  have nd := sc_p_is_number.nd
  exact wb_one (ws_ret (we_and (we_isi tok_int (by rfl) T.n_isinstance (by rfl) T.n_int bb_int (we_var (i := 0) rfl (.inl rfl))) (we_one (we_not (we_isi tok_bool (by rfl) T.n_isinstance (by rfl) T.n_bool bb_bool (we_var (i := 0) rfl (.inl rfl)))))))
theorem ok_p_is_even (T : Txt K mg) : FnG P w K mg base CX0 1 T.a_p_is_even T.d_p_is_even ["system"] (spOf K S_p_is_even) := by
  refine fn_ok T.F_p_is_even sc_p_is_even rfl (fun cdv A outer s H E hr hgd => ?_) vc_p_is_even
  have nd := sc_p_is_even.nd
  exact wb_cons (ws_asg (we_var (i := 0) rfl (.inl rfl)) (wg_tup rfl (wgs_cons (wg_name (i := 1) nd rfl (.inl rfl)) (wgs_cons (wg_name (i := 2) nd rfl (.inl rfl)) (wgs_cons (wg_name (i := 3) nd rfl (.inl rfl)) (wgs_cons (wg_name (i := 4) nd rfl (.inl rfl)) (wgs_nil))))))) (wb_cons (ws_for PassesOwn.never rfl (wi_seq (we_var (i := 2) rfl (.inl rfl))) (wg_name (i := 5) nd rfl (.inl rfl)) (wb_one (ws_if (wt_cmp (op_neC hr.units) z_eqB (we_var (i := 5) rfl (.inl rfl)) (we_tup (wa_nil)) ((nomark _))) (wb_one (ws_ret (we_bl))) (wb_nil)))) (wb_cons (ws_for PassesOwn.never rfl (wi_seq (we_var (i := 3) rfl (.inl rfl))) (wg_tup rfl (wgs_cons (wg_name (i := 6) nd rfl (.inl rfl)) (wgs_cons (wg_name (i := 7) nd rfl (.inl rfl)) (wgs_cons (wg_name (i := 8) nd rfl (.inl rfl)) (wgs_nil))))) (wb_one (ws_if ((ww_or (wt_cmp (op_neC hr.units) z_eqB (we_var (i := 6) rfl (.inl rfl)) (we_ix (we_ix (we_var (i := 3) rfl (.inl rfl)) (we_int)) (we_int)) ((nomark _))) (ww_or (wt_cmp (op_neC hr.units) z_eqB (we_var (i := 7) rfl (.inl rfl)) (we_tup (wa_nil)) ((nomark _))) (ww_or1 (wt_cmp (op_neC hr.units) z_eqB (we_callX z_len (fun h => pe_callB (CallR.or call_len_seq call_len_str) (by rfl) T.n_len bb_len h) (wa_cons (we_var (i := 8) rfl (.inl rfl)) (wa_nil))) (we_callX z_len (fun h => pe_callB (CallR.or call_len_seq call_len_str) (by rfl) T.n_len bb_len h) (wa_cons (we_var (i := 2) rfl (.inl rfl)) (wa_nil))) ((nomark _)))))).wt) (wb_one (ws_ret (we_bl))) (wb_nil)))) (wb_cons (ws_for PassesOwn.never rfl (wi_seq (we_var (i := 4) rfl (.inl rfl))) (wg_tup rfl (wgs_cons (wg_name (i := 9) nd rfl (.inl rfl)) (wgs_cons (wg_name (i := 10) nd rfl (.inl rfl)) (wgs_cons (wg_name (i := 11) nd rfl (.inl rfl)) (wgs_cons (wg_name (i := 12) nd rfl (.inl rfl)) (wgs_cons (wg_name (i := 13) nd rfl (.inl rfl)) (wgs_nil))))))) (wb_one (ws_if (wt_cmp (op_neC hr.units) z_eqB (we_var (i := 10) rfl (.inl rfl)) (we_int) ((nomark _))) (wb_one (ws_ret (we_bl))) (wb_nil)))) (wb_one (ws_ret (we_cmp (op_eqC hr.units) z_eqB (we_lenSet rfl (by rfl) T.n_len (by rfl) T.n_set (we_lc (m := false) (t := (.nm 14)) (own := [("wish", 14)]) rfl nd (wi_seq (we_var (i := 4) rfl (.inl rfl))) (blkOk_by (own := [("wish", 14)]) (N := N_p_is_even) (by kernel_rfl)) (by simp [Tg.ix]) (fun _ _ _ _ _ => pg_name (i := 14) nd rfl (.inl rfl)) (fun _ _ _ _ _ => wts_nil) (fun _ _ _ _ _ => we_ix (we_var (i := 14) rfl (.inl rfl)) (we_int)))) (we_callX z_len (fun h => pe_callB (CallR.or call_len_seq call_len_str) (by rfl) T.n_len bb_len h) (wa_cons (we_var (i := 4) rfl (.inl rfl)) (wa_nil))) ((nomark _))))))))
theorem ok_p_room_up_to (T : Txt K mg) : FnG P w K mg base CX0 1 T.a_p_room_up_to T.d_p_room_up_to ["system", "day"] (spOf K S_p_room_up_to) := by
  refine fn_ok T.F_p_room_up_to sc_p_room_up_to rfl (fun cdv A outer s H E hr hgd => ?_) vc_p_room_up_to
  have nd := sc_p_room_up_to.nd
  exact wb_one (ws_ret (we_op op_mulD z_mul (we_callX z_len (fun h => pe_callB (CallR.or call_len_seq call_len_str) (by rfl) T.n_len bb_len h) (wa_cons (we_ix (we_var (i := 0) rfl (.inl rfl)) (we_int)) (wa_nil))) (we_op op_fdivW z_fdiv (we_var (i := 1) rfl (.inl rfl)) (we_ix (we_ix (we_ix (we_var (i := 0) rfl (.inl rfl)) (we_int)) (we_int)) (we_int)))))
theorem ok_p_is_no_lower (T : Txt K mg) : FnG P w K mg base CX0 1 T.a_p_is_no_lower T.d_p_is_no_lower ["wish", "other"] (spOf K S_p_is_no_lower) := by
  refine fn_ok T.F_p_is_no_lower sc_p_is_no_lower rfl (fun cdv A outer s H E hr hgd => ?_) vc_p_is_no_lower
  have nd := sc_p_is_no_lower.nd
  exact wb_one (ws_ret (we_or (we_cmp (op_ltD hr.units0) z_lt (we_ix (we_var (i := 0) rfl (.inl rfl)) (we_int)) (we_ix (we_var (i := 1) rfl (.inl rfl)) (we_int)) ((nomark _))) (we_one (we_and (we_cmp (op_eqC hr.units) z_eqB (we_ix (we_var (i := 0) rfl (.inl rfl)) (we_int)) (we_ix (we_var (i := 1) rfl (.inl rfl)) (we_int)) ((nomark _))) (we_one (we_cmp (op_geD hr.units0) z_ge (we_ix (we_var (i := 0) rfl (.inl rfl)) (we_int)) (we_ix (we_var (i := 1) rfl (.inl rfl)) (we_int)) ((nomark _))))))))
theorem ok_p_in_blocks (T : Txt K mg) : FnG P w K mg base CX0 1 T.a_p_in_blocks T.d_p_in_blocks ["system", "works"] (spOf K S_p_in_blocks) := by
  refine fn_okP T.F_p_in_blocks sc_p_in_blocks rfl (fun cdv A outer s H E hr hgd => ?_) vc_p_in_blocks
  have nd := sc_p_in_blocks.nd
  exact wb_cons (ws_set (i := 2) nd rfl (.inl rfl) (we_op op_mulD z_mulM (we_lst (m := false) (wa_cons (we_non) (wa_nil))) (we_callX z_len (fun h => pe_callB (CallR.or call_len_seq call_len_str) (by rfl) T.n_len bb_len h) (wa_cons (we_var (i := 1) rfl (.inl rfl)) (wa_nil))))) (wb_cons (ws_for PassesOwn.never rfl (wi_enum (by rfl) T.n_enumerate (we_var (i := 1) rfl (.inl rfl))) (wg_tup rfl (wgs_cons (wg_name (i := 3) nd rfl (.inl rfl)) (wgs_cons (wg_name (i := 4) nd rfl (.inl rfl)) (wgs_nil)))) (wb_one (ws_asg (we_tup (wa_cons (we_op op_mulD z_mul (we_op op_fdivW z_fdiv (we_var (i := 3) rfl (.inl rfl)) (we_callX z_len (fun h => pe_callB (CallR.or call_len_seq call_len_str) (by rfl) T.n_len bb_len h) (wa_cons (we_ix (we_var (i := 0) rfl (.inl rfl)) (we_int)) (wa_nil)))) (we_ix (we_ix (we_ix (we_var (i := 0) rfl (.inl rfl)) (we_int)) (we_int)) (we_int))) (wa_cons (we_op op_mod z_mod (we_var (i := 3) rfl (.inl rfl)) (we_callX z_len (fun h => pe_callB (CallR.or call_len_seq call_len_str) (by rfl) T.n_len bb_len h) (wa_cons (we_ix (we_var (i := 0) rfl (.inl rfl)) (we_int)) (wa_nil)))) (wa_nil)))) (wg_sub (we_var (i := 2) rfl (.inl rfl)) (we_var (i := 4) rfl (.inl rfl)))))) (wb_one (ws_ret (we_callX z_tuple (fun h => pe_callTy call_tupleX (by rfl) T.n_tuple bb_tuple h) (wa_cons (we_var (i := 2) rfl (.inl rfl)) (wa_nil))))))
theorem ok_f_law_deck (T : Txt K mg) : FnG P w K mg base CX0 1 T.a_f_law_deck T.d_f_law_deck ["_law_script"] (spOf K S_f_law_deck) := by
  refine fn_ok T.F_f_law_deck sc_f_law_deck rfl (fun cdv A outer s H E hr hgd => ?_) vc_f_law_deck
  have nd := sc_f_law_deck.nd
  exact wb_cons (ws_set (i := 1) nd rfl (.inl rfl) (we_lst (m := true) (wa_nil))) (wb_cons (ws_set (i := 2) nd rfl (.inl rfl) (we_lst (m := true) (wa_cons (we_callX z_len (fun h => pe_callB (CallR.or call_len_seq call_len_str) (by rfl) T.n_len bb_len h) (wa_cons (we_var (i := 0) rfl (.inl rfl)) (wa_nil))) (wa_nil)))) (wb_cons (ws_for PassesOwn.never rfl (wi_seq (we_sl (m := false) (we_var (i := 0) rfl (.inl rfl)) wo_none (wo_some (we_int)))) (wg_name (i := 3) nd rfl (.inl rfl)) (wb_cons (ws_set (i := 3) nd rfl (.inl rfl) (we_callX z_abs (fun h => pe_callB call_abs (by rfl) T.n_abs bb_abs h) (wa_cons (we_var (i := 3) rfl (.inl rfl)) (wa_nil)))) (wb_cons (ws_expr (we_m PySem.F.slot_list_append PySem.F.type_list_append mt_append z_append (we_var (i := 2) rfl (.inl rfl)) (wa_cons (we_op op_mod z_mod (we_var (i := 3) rfl (.inl rfl)) (we_int)) (wa_nil)) (fun h1 h2 => pe_bm PySem.F.plainAttrs_list PySem.F.slot_list_append PySem.F.type_list_append mt_append h1 h2))) (wb_one (ws_while PassesOwn.never ((ww_and (wt_cmp (op_geD hr.units0) z_ge (we_var (i := 3) rfl (.inl rfl)) (we_op op_pow z_pow (we_int) (we_int)) ((nomark _))) (ww_and1 (wt_cmp (op_ltD hr.units0) z_lt (we_callX z_len (fun h => pe_callB (CallR.or call_len_seq call_len_str) (by rfl) T.n_len bb_len h) (wa_cons (we_var (i := 1) rfl (.inl rfl)) (wa_nil))) (we_int) ((nomark _))))).wt) (wb_cons (ws_expr (we_m PySem.F.slot_list_append PySem.F.type_list_append mt_append z_append (we_var (i := 1) rfl (.inl rfl)) (wa_cons (we_op op_mod z_mod (we_var (i := 3) rfl (.inl rfl)) (we_int)) (wa_nil)) (fun h1 h2 => pe_bm PySem.F.plainAttrs_list PySem.F.slot_list_append PySem.F.type_list_append mt_append h1 h2))) (wb_one (ws_set (i := 3) nd rfl (.inl rfl) (we_op op_fdivW z_fdiv (we_var (i := 3) rfl (.inl rfl)) (we_int)))))))))) (wb_one (ws_ret (we_lst (m := true) (wa_cons (we_var (i := 1) rfl (.inl rfl)) (wa_cons (we_var (i := 2) rfl (.inl rfl)) (wa_cons (we_int) (wa_nil)))))))))
theorem ok_f_law_next (T : Txt K mg) : FnG P w K mg base CX0 1 T.a_f_law_next T.d_f_law_next ["_law_deck_here"] (spOf K S_f_law_next) := by
  refine fn_ok T.F_f_law_next sc_f_law_next rfl (fun cdv A outer s H E hr hgd => ?_) vc_f_law_next
  have nd := sc_f_law_next.nd
  exact wb_cons (ws_if (wt_cmp (op_neC hr.units) z_eqB (we_ix (we_var (i := 0) rfl (.inl rfl)) (we_int)) (we_lst (m := false) (wa_nil)) ((nomark _))) (wb_one (ws_ret (we_m PySem.F.slot_list_pop PySem.F.type_list_pop mt_popAt z_popAt (we_ix (we_var (i := 0) rfl (.inl rfl)) (we_int)) (wa_cons (we_int) (wa_nil)) (fun h1 h2 => pe_bm PySem.F.plainAttrs_list PySem.F.slot_list_pop PySem.F.type_list_pop mt_popAt h1 h2)))) (wb_nil)) (wb_cons (ws_set (i := 1) nd rfl (.inl rfl) (we_ix (we_var (i := 0) rfl (.inl rfl)) (we_int))) (wb_cons (ws_asg (we_op op_addD z_add (we_var (i := 1) rfl (.inl rfl)) (we_int)) (wg_sub (we_var (i := 0) rfl (.inl rfl)) (we_int))) (wb_cons (ws_set (i := 2) nd rfl (.inl rfl) (we_tup (wa_cons (we_int) (wa_cons (we_int) (wa_cons (we_int) (wa_cons (we_int) (wa_cons (we_int) (wa_cons (we_int) (wa_cons (we_int) (wa_cons (we_int) (wa_cons (we_int) (wa_cons (we_int) (wa_cons (we_int) (wa_cons (we_int) (wa_nil))))))))))))))) (wb_cons (ws_set (i := 3) nd rfl (.inl rfl) (we_op op_addD z_add (we_ix (we_ix (we_var (i := 0) rfl (.inl rfl)) (we_int)) (we_op op_mod z_mod (we_op op_addD z_add (we_var (i := 1) rfl (.inl rfl)) (we_int)) (we_callX z_len (fun h => pe_callB (CallR.or call_len_seq call_len_str) (by rfl) T.n_len bb_len h) (wa_cons (we_ix (we_var (i := 0) rfl (.inl rfl)) (we_int)) (wa_nil))))) (we_op op_mulD z_mul (we_int) (we_var (i := 1) rfl (.inl rfl))))) (wb_cons (ws_set (i := 4) nd rfl (.inl rfl) (we_op op_mod z_mod (we_op op_pow z_pow (we_op op_addD z_add (we_var (i := 3) rfl (.inl rfl)) (we_op op_mulD z_mul (we_ix (we_var (i := 2) rfl (.inl rfl)) (we_op op_mod z_mod (we_var (i := 1) rfl (.inl rfl)) (we_int))) (we_op op_addD z_add (we_var (i := 1) rfl (.inl rfl)) (we_int)))) (we_int)) (we_int))) (wb_one (ws_ret (we_op op_mod z_mod (we_op op_addD z_add (we_var (i := 4) rfl (.inl rfl)) (we_op op_mulD z_mul (we_ix (we_var (i := 2) rfl (.inl rfl)) (we_op op_mod z_mod (we_op op_addD z_add (we_var (i := 1) rfl (.inl rfl)) (we_int)) (we_int))) (we_var (i := 3) rfl (.inl rfl)))) (we_int)))))))))
theorem ok_f_law_put (T : Txt K mg) : FnG P w K mg base CX0 1 T.a_f_law_put T.d_f_law_put ["_law_row", "_law_at", "_law_thing"] (spOf K S_f_law_put) := by
  refine fn_ok T.F_f_law_put sc_f_law_put rfl (fun cdv A outer s H E hr hgd => ?_) vc_f_law_put
  have nd := sc_f_law_put.nd
  exact wb_one (ws_ret (we_op op_addD z_add (we_op op_addD z_add (we_sl (m := false) (we_var (i := 0) rfl (.inl rfl)) wo_none (wo_some (we_var (i := 1) rfl (.inl rfl)))) (we_tup (wa_cons (we_var (i := 2) rfl (.inl rfl)) (wa_nil)))) (we_sl (m := false) (we_var (i := 0) rfl (.inl rfl)) (wo_some (we_op op_addD z_add (we_var (i := 1) rfl (.inl rfl)) (we_int))) wo_none)))
theorem ok_f_law_same (T : Txt K mg) : FnG P w K mg base CX0 1 T.a_f_law_same T.d_f_law_same ["_law_found", "_law_due"] (spOf K S_f_law_same) := by
  refine fn_ok T.F_f_law_same sc_f_law_same rfl (fun cdv A outer s H E hr hgd => ?_) vc_f_law_same
  have nd := sc_f_law_same.nd
  exact wb_one (ws_ret (we_cmp (op_eqC hr.units) z_eqB (we_callX z_repr (fun h => pe_callB (call_reprD hgd hr.units) (by rfl) T.n_repr bb_repr h) (wa_cons (we_var (i := 0) rfl (.inl rfl)) (wa_nil))) (we_callX z_repr (fun h => pe_callB (call_reprD hgd hr.units) (by rfl) T.n_repr bb_repr h) (wa_cons (we_var (i := 1) rfl (.inl rfl)) (wa_nil))) ((nomark _))))
theorem ok_f_law_is_from (T : Txt K mg) : FnG P w K mg base CX0 1 T.a_f_law_is_from T.d_f_law_is_from ["_law_thing", "_law_low", "_law_high"] (spOf K S_f_law_is_from) := by
  refine fn_ok T.F_f_law_is_from sc_f_law_is_from rfl (fun cdv A outer s H E hr hgd => ?_) vc_f_law_is_from
  have nd := sc_f_law_is_from.nd
  exact wb_one (ws_ret (we_and (we_isi tok_int (by rfl) T.n_isinstance (by rfl) T.n_int bb_int (we_var (i := 0) rfl (.inl rfl))) (we_and (we_not (we_isi tok_bool (by rfl) T.n_isinstance (by rfl) T.n_bool bb_bool (we_var (i := 0) rfl (.inl rfl)))) (we_one (we_chain (op_leD hr.units0) z_le (op_leD hr.units0) z_le (we_var (i := 1) rfl (.inl rfl)) (we_var (i := 0) rfl (.inl rfl)) (we_var (i := 2) rfl (.inl rfl)))))))
theorem ok_f_law_ways (T : Txt K mg) : FnG P w K mg base CX0 1 T.a_f_law_ways T.d_f_law_ways ["_law_system", "_law_work"] (spOf K S_f_law_ways) := by
  refine fn_okP T.F_f_law_ways sc_f_law_ways rfl (fun cdv A outer s H E hr hgd => ?_) vc_f_law_ways
  have nd := sc_f_law_ways.nd
  exact wb_cons (ws_asg (we_sl (m := false) (we_var (i := 0) rfl (.inl rfl)) wo_none (wo_some (we_int))) (wg_tup rfl (wgs_cons (wg_name (i := 2) nd rfl (.inl rfl)) (wgs_cons (wg_name (i := 3) nd rfl (.inl rfl)) (wgs_cons (wg_name (i := 4) nd rfl (.inl rfl)) (wgs_nil)))))) (wb_cons (ws_asg (we_ix (we_var (i := 4) rfl (.inl rfl)) (we_var (i := 1) rfl (.inl rfl))) (wg_tup rfl (wgs_cons (wg_name (i := 5) nd rfl (.inr rfl)) (wgs_cons (wg_name (i := 6) nd rfl (.inl rfl)) (wgs_cons (wg_name (i := 7) nd rfl (.inl rfl)) (wgs_nil)))))) (wb_cons (ws_set (i := 8) nd rfl (.inl rfl) (we_lst (m := true) (wa_nil))) (wb_cons (ws_for PassesOwn.never rfl (wi_range1 (by rfl) T.n_range (wa_cons (we_op op_addD z_add (we_op op_sub z_sub (we_var (i := 2) rfl (.inl rfl)) (we_var (i := 5) rfl (.inr (.inl rfl)))) (we_int)) (wa_nil))) (wg_name (i := 9) nd rfl (.inr rfl)) (wb_one (ws_for PassesOwn.never rfl (wi_seq (we_var (i := 7) rfl (.inl rfl))) (wg_name (i := 10) nd rfl (.inl rfl)) (wb_one (ws_if (wt_cmp (op_eqC hr.units) z_eqB (we_lc (m := false) (t := (.nm 11)) (own := [("_law_day", 11)]) rfl nd (wi_seq (we_ix (we_var (i := 3) rfl (.inl rfl)) (we_var (i := 10) rfl (.inl rfl)))) (blkOk_by (own := [("_law_day", 11)]) (N := N_f_law_ways) (by kernel_rfl)) (by simp [Tg.ix]) (fun _ _ _ _ _ => pg_name (i := 11) nd rfl (.inl rfl)) (fun _ _ _ _ _ => wts_one (wt_chain (op_leD hr.units0) z_le (op_ltD hr.units0) z_lt (we_var (i := 9) rfl (.inr (.inl rfl))) (we_var (i := 11) rfl (.inl rfl)) (we_op op_addD z_add (we_var (i := 9) rfl (.inr (.inl rfl))) (we_var (i := 5) rfl (.inr (.inl rfl)))))) (fun _ _ _ _ _ => we_var (i := 11) rfl (.inl rfl))) (we_lst (m := false) (wa_nil)) ((nomark _))) (wb_one (ws_expr (we_m PySem.F.slot_list_append PySem.F.type_list_append mt_append z_append (we_var (i := 8) rfl (.inl rfl)) (wa_cons (we_tup (wa_cons (we_var (i := 9) rfl (.inr (.inl rfl))) (wa_cons (we_var (i := 10) rfl (.inl rfl)) (wa_nil)))) (wa_nil)) (fun h1 h2 => pe_bm PySem.F.plainAttrs_list PySem.F.slot_list_append PySem.F.type_list_append mt_append h1 h2)))) (wb_nil)))))) (wb_one (ws_ret (we_callX z_tuple (fun h => pe_callTy call_tupleX (by rfl) T.n_tuple bb_tuple h) (wa_cons (we_var (i := 8) rfl (.inl rfl)) (wa_nil))))))))
theorem ok_f_law_clash (T : Txt K mg) : FnG P w K mg base CX0 1 T.a_f_law_clash T.d_f_law_clash ["_law_system", "_law_one", "_law_way", "_law_other", "_law_other_way"] (spOf K S_f_law_clash) := by
  refine fn_ok T.F_f_law_clash sc_f_law_clash rfl (fun cdv A outer s H E hr hgd => ?_) vc_f_law_clash
  have nd := sc_f_law_clash.nd
  exact wb_cons (ws_set (i := 5) nd rfl (.inl rfl) (we_op op_addD z_add (we_ix (we_var (i := 2) rfl (.inl rfl)) (we_int)) (we_ix (we_ix (we_ix (we_var (i := 0) rfl (.inl rfl)) (we_int)) (we_var (i := 1) rfl (.inl rfl))) (we_int)))) (wb_cons (ws_set (i := 6) nd rfl (.inl rfl) (we_op op_addD z_add (we_ix (we_var (i := 4) rfl (.inl rfl)) (we_int)) (we_ix (we_ix (we_ix (we_var (i := 0) rfl (.inl rfl)) (we_int)) (we_var (i := 3) rfl (.inl rfl))) (we_int)))) (wb_cons (ws_if ((ww_and (wt_cmp (op_eqC hr.units) z_eqB (we_ix (we_var (i := 2) rfl (.inl rfl)) (we_int)) (we_ix (we_var (i := 4) rfl (.inl rfl)) (we_int)) ((nomark _))) (ww_and (wt_cmp (op_ltD hr.units0) z_lt (we_ix (we_var (i := 2) rfl (.inl rfl)) (we_int)) (we_var (i := 6) rfl (.inl rfl)) ((nomark _))) (ww_and1 (wt_cmp (op_ltD hr.units0) z_lt (we_ix (we_var (i := 4) rfl (.inl rfl)) (we_int)) (we_var (i := 5) rfl (.inl rfl)) ((nomark _)))))).wt) (wb_one (ws_ret (we_bl))) (wb_nil)) (wb_cons (ws_if ((ww_and (wt_cmp (op_inB hr.units) z_inB (we_var (i := 1) rfl (.inl rfl)) (we_ix (we_ix (we_ix (we_var (i := 0) rfl (.inl rfl)) (we_int)) (we_var (i := 3) rfl (.inl rfl))) (we_int)) (by rfl)) (ww_and1 (wt_cmp (op_ltD hr.units0) z_lt (we_ix (we_var (i := 4) rfl (.inl rfl)) (we_int)) (we_var (i := 5) rfl (.inl rfl)) ((nomark _))))).wt) (wb_one (ws_ret (we_bl))) (wb_nil)) (wb_one (ws_ret (we_and (we_cmp (op_inB hr.units) z_inB (we_var (i := 3) rfl (.inl rfl)) (we_ix (we_ix (we_ix (we_var (i := 0) rfl (.inl rfl)) (we_int)) (we_var (i := 1) rfl (.inl rfl))) (we_int)) (by rfl)) (we_one (we_cmp (op_ltD hr.units0) z_lt (we_ix (we_var (i := 2) rfl (.inl rfl)) (we_int)) (we_var (i := 6) rfl (.inl rfl)) ((nomark _))))))))))
theorem ok_f_law_kept (T : Txt K mg) : FnG P w K mg base CX0 1 T.a_f_law_kept T.d_f_law_kept ["_law_system", "_law_wish", "_law_way"] (spOf K S_f_law_kept) := by
  refine fn_ok T.F_f_law_kept sc_f_law_kept rfl (fun cdv A outer s H E hr hgd => ?_) vc_f_law_kept
  have nd := sc_f_law_kept.nd
  exact wb_cons (ws_if (wt_cmp (op_eqC hr.units) z_eqB (we_ix (we_var (i := 1) rfl (.inl rfl)) (we_int)) (we_int) ((nomark _))) (wb_one (ws_ret (we_cmp (op_geD hr.units0) z_ge (we_ix (we_var (i := 2) rfl (.inl rfl)) (we_int)) (we_ix (we_var (i := 1) rfl (.inl rfl)) (we_int)) ((nomark _))))) (wb_nil)) (wb_one (ws_ret (we_cmp (op_leD hr.units0) z_le (we_op op_addD z_add (we_ix (we_var (i := 2) rfl (.inl rfl)) (we_int)) (we_ix (we_ix (we_ix (we_var (i := 0) rfl (.inl rfl)) (we_int)) (we_ix (we_var (i := 1) rfl (.inl rfl)) (we_int))) (we_int))) (we_ix (we_var (i := 1) rfl (.inl rfl)) (we_int)) ((nomark _)))))
theorem ok_f_law_room (T : Txt K mg) : FnG P w K mg base CX0 1 T.a_f_law_room T.d_f_law_room ["_law_system", "_law_day"] (spOf K S_f_law_room) := by
  refine fn_ok T.F_f_law_room sc_f_law_room rfl (fun cdv A outer s H E hr hgd => ?_) vc_f_law_room
  have nd := sc_f_law_room.nd
  exact wb_one (ws_ret (we_op op_mulD z_mul (we_callX z_len (fun h => pe_callB (CallR.or call_len_seq call_len_str) (by rfl) T.n_len bb_len h) (wa_cons (we_ix (we_var (i := 0) rfl (.inl rfl)) (we_int)) (wa_nil))) (we_op op_fdivW z_fdiv (we_var (i := 1) rfl (.inl rfl)) (we_ix (we_ix (we_ix (we_var (i := 0) rfl (.inl rfl)) (we_int)) (we_int)) (we_int)))))
theorem okH_f_law_is_kind (T : Txt K mg) : FnX P w K mg base CX0 1 T.a_f_law_is_kind T.d_f_law_is_kind ["_law_error", "_law_at"] (spXP K S_f_law_is_kind) := by
  refine fn_okE T.F_f_law_is_kind sc_f_law_is_kind (fun _ _ => rfl) (fun cdv A outer s H E p e hr hgd hot hp => ?_) vc_f_law_is_kind
  have nd := sc_f_law_is_kind.nd
  exact wb_cons (ws_if ((ww_or (wt_not (wt_val (we_isPC hp (xk T) (is_WishError T) (by rfl) T.n_isinstance (by rfl) T.mC_WishError (we_var (i := 0) rfl (.inl rfl))))) (ww_or1 (wt_not (wt_val (we_isPT hp (xk T) (is_ValueError T) (by rfl) T.n_isinstance (by rfl) T.n_ValueError bb_ValueError (we_var (i := 0) rfl (.inl rfl))))))).wt) (wb_one (ws_ret (we_bl))) (wb_nil)) (wb_cons (ws_set (i := 2) nd rfl (.inl rfl) (we_lst (m := false) (wa_cons (we_isPC hp (xk T) (is_TooMany T) (by rfl) T.n_isinstance (by rfl) T.mC_TooMany (we_var (i := 0) rfl (.inl rfl))) (wa_cons (we_isPC hp (xk T) (is_NoPlan T) (by rfl) T.n_isinstance (by rfl) T.mC_NoPlan (we_var (i := 0) rfl (.inl rfl))) (wa_cons (we_isPC hp (xk T) (is_NoRoom T) (by rfl) T.n_isinstance (by rfl) T.mC_NoRoom (we_var (i := 0) rfl (.inl rfl))) (wa_nil)))))) (wb_cons (ws_set (i := 2) nd rfl (.inl rfl) (we_op op_addD z_add (we_var (i := 2) rfl (.inl rfl)) (we_lst (m := false) (wa_cons (we_isPC hp (xk T) (is_NotEven T) (by rfl) T.n_isinstance (by rfl) T.mC_NotEven (we_var (i := 0) rfl (.inl rfl))) (wa_cons (we_isPC hp (xk T) (is_NoDeed T) (by rfl) T.n_isinstance (by rfl) T.mC_NoDeed (we_var (i := 0) rfl (.inl rfl))) (wa_cons (we_isPC hp (xk T) (is_NoText T) (by rfl) T.n_isinstance (by rfl) T.mC_NoText (we_var (i := 0) rfl (.inl rfl))) (wa_nil))))))) (wb_one (ws_ret (we_cmp (op_eqC hr.units) z_eqB (we_var (i := 2) rfl (.inl rfl)) (we_lcH (m := false) (t := (.nm 3)) (own := [("_law_k", 3)]) hot nd (wi_range1H (by rfl) T.n_range (wa_cons (we_int) (wa_nil))) (blkOk_by (own := [("_law_k", 3)]) (N := N_f_law_is_kind) (by kernel_rfl)) (by simp [Tg.ix]) (fun _ _ _ _ _ _ hot => pg_name (i := 3) nd rfl (.inl rfl)) (fun _ _ _ _ _ _ hot => wts_nil) (fun _ _ _ _ _ _ hot => we_cmp (op_eqC hr.units) z_eqB (we_var (i := 3) rfl (.inl rfl)) (we_var (i := 1) rfl (.inr (.inl rfl))) ((nomark _)))) ((nomark _)))))))
theorem ok_p_is_from (T : Txt K mg) : FnG P w K mg base CX0 2 T.a_p_is_from T.d_p_is_from ["thing", "low", "high"] (spOf K S_p_is_from) := by
  refine fn_ok T.F_p_is_from sc_p_is_from rfl (fun cdv A outer s H E hr hgd => ?_) vc_p_is_from
  have nd := sc_p_is_from.nd
  exact wb_one (ws_ret (we_and (we_call (ok_p_is_number T) (hr.mono (by decide)) hgd (by rfl) T.m_p_is_number T.F_p_is_number.kp T.b_p_is_number (wa_cons (we_var (i := 0) rfl (.inl rfl)) (wa_nil))) (we_one (we_chain (op_leD hr.units0) z_le (op_leD hr.units0) z_le (we_var (i := 1) rfl (.inl rfl)) (we_var (i := 0) rfl (.inl rfl)) (we_var (i := 2) rfl (.inl rfl))))))
theorem ok_p_do_fit (T : Txt K mg) : FnG P w K mg base CX0 2 T.a_p_do_fit T.d_p_do_fit ["system", "days"] (spOf K S_p_do_fit) := by
  refine fn_ok T.F_p_do_fit sc_p_do_fit rfl (fun cdv A outer s H E hr hgd => ?_) vc_p_do_fit
  have nd := sc_p_do_fit.nd
  exact wb_cons (ws_for PassesOwn.never rfl (wi_enum (by rfl) T.n_enumerate (we_callX (z_sortK (m := false)) (fun h => pe_callB cr_sortedAll (by rfl) T.n_sorted bb_sorted h) (wa_cons (we_var (i := 1) rfl (.inl rfl)) (wa_nil)))) (wg_tup rfl (wgs_cons (wg_name (i := 2) nd rfl (.inl rfl)) (wgs_cons (wg_name (i := 3) nd rfl (.inl rfl)) (wgs_nil)))) (wb_one (ws_if (wt_cmp (op_gtD hr.units0) z_gt (we_op op_addD z_add (we_var (i := 2) rfl (.inl rfl)) (we_int)) (we_call (ok_p_room_up_to T) (hr.mono (by decide)) hgd (by rfl) T.m_p_room_up_to T.F_p_room_up_to.kp T.b_p_room_up_to (wa_cons (we_var (i := 0) rfl (.inl rfl)) (wa_cons (we_var (i := 3) rfl (.inl rfl)) (wa_nil)))) ((nomark _))) (wb_one (ws_ret (we_bl))) (wb_nil)))) (wb_one (ws_ret (we_bl)))
theorem ok_f_law_goes (T : Txt K mg) : FnG P w K mg base CX0 2 T.a_f_law_goes T.d_f_law_goes ["_law_system", "_law_ways_here", "_law_work", "_law_way"] (spOf K S_f_law_goes) := by
  refine fn_ok T.F_f_law_goes sc_f_law_goes rfl (fun cdv A outer s H E hr hgd => ?_) vc_f_law_goes
  have nd := sc_f_law_goes.nd
  exact wb_one (ws_ret (we_cmp (op_eqC hr.units) z_eqB (we_lc (m := false) (t := (.nm 4)) (own := [("_law_one", 4)]) rfl nd (wi_range1 (by rfl) T.n_range (wa_cons (we_callX z_len (fun h => pe_callB (CallR.or call_len_seq call_len_str) (by rfl) T.n_len bb_len h) (wa_cons (we_var (i := 1) rfl (.inr (.inl rfl))) (wa_nil))) (wa_nil))) (blkOk_by (own := [("_law_one", 4)]) (N := N_f_law_goes) (by kernel_rfl)) (by simp [Tg.ix]) (fun _ _ _ _ _ => pg_name (i := 4) nd rfl (.inl rfl)) (fun _ _ _ _ _ => wts_one (wt_val (we_call (ok_f_law_clash T) (hr.mono (by decide)) hgd (by rfl) T.m_f_law_clash T.F_f_law_clash.kp T.b_f_law_clash (wa_cons (we_var (i := 0) rfl (.inr (.inl rfl))) (wa_cons (we_var (i := 4) rfl (.inl rfl)) (wa_cons (we_ix (we_var (i := 1) rfl (.inr (.inl rfl))) (we_var (i := 4) rfl (.inl rfl))) (wa_cons (we_var (i := 2) rfl (.inr (.inl rfl))) (wa_cons (we_var (i := 3) rfl (.inr (.inl rfl))) (wa_nil))))))))) (fun _ _ _ _ _ => we_var (i := 4) rfl (.inl rfl))) (we_lst (m := false) (wa_nil)) ((nomark _))))
theorem ok_f_law_is_way (T : Txt K mg) : FnG P w K mg base CX0 2 T.a_f_law_is_way T.d_f_law_is_way ["_law_system", "_law_work", "_law_thing"] (spOf K S_f_law_is_way) := by
  refine fn_ok T.F_f_law_is_way sc_f_law_is_way rfl (fun cdv A outer s H E hr hgd => ?_) vc_f_law_is_way
  have nd := sc_f_law_is_way.nd
  exact wb_cons (ws_if ((ww_or (wt_not (wt_val (we_isi tok_tuple (by rfl) T.n_isinstance (by rfl) T.n_tuple bb_tuple (we_var (i := 2) rfl (.inl rfl))))) (ww_or1 (wt_cmp (op_neC hr.units) z_eqB (we_callX z_len (fun h => pe_callB (CallR.or call_len_seq call_len_str) (by rfl) T.n_len bb_len h) (wa_cons (we_var (i := 2) rfl (.inl rfl)) (wa_nil))) (we_int) ((nomark _))))).wt) (wb_one (ws_ret (we_bl))) (wb_nil)) (wb_cons (ws_if ((ww_or (wt_not (wt_val (we_call (ok_f_law_is_from T) (hr.mono (by decide)) hgd (by rfl) T.m_f_law_is_from T.F_f_law_is_from.kp T.b_f_law_is_from (wa_cons (we_ix (we_var (i := 2) rfl (.inl rfl)) (we_int)) (wa_cons (we_int) (wa_cons (we_int) (wa_nil))))))) (ww_or1 (wt_not (wt_val (we_call (ok_f_law_is_from T) (hr.mono (by decide)) hgd (by rfl) T.m_f_law_is_from T.F_f_law_is_from.kp T.b_f_law_is_from (wa_cons (we_ix (we_var (i := 2) rfl (.inl rfl)) (we_int)) (wa_cons (we_int) (wa_cons (we_int) (wa_nil))))))))).wt) (wb_one (ws_ret (we_bl))) (wb_nil)) (wb_one (ws_ret (we_cmp (op_inB hr.units) z_inB (we_var (i := 2) rfl (.inl rfl)) (we_call (ok_f_law_ways T) (hr.mono (by decide)) hgd (by rfl) T.m_f_law_ways T.F_f_law_ways.kp T.b_f_law_ways (wa_cons (we_var (i := 0) rfl (.inl rfl)) (wa_cons (we_var (i := 1) rfl (.inl rfl)) (wa_nil)))) (by rfl)))))
theorem ok_f_law_even_wish (T : Txt K mg) : FnG P w K mg base CX0 2 T.a_f_law_even_wish T.d_f_law_even_wish ["_law_deck_here", "_law_work", "_law_days"] (spOf K S_f_law_even_wish) := by
  refine fn_ok T.F_f_law_even_wish sc_f_law_even_wish rfl (fun cdv A outer s H E hr hgd => ?_) vc_f_law_even_wish
  have nd := sc_f_law_even_wish.nd
  exact wb_cons (ws_set (i := 3) nd rfl (.inl rfl) (we_ix (we_lst (m := false) (wa_cons (we_int) (wa_cons (we_int) (wa_cons (we_int) (wa_nil))))) (we_op op_mod z_mod (we_call (ok_f_law_next T) (hr.mono (by decide)) hgd (by rfl) T.m_f_law_next T.F_f_law_next.kp T.b_f_law_next (wa_cons (we_var (i := 0) rfl (.inl rfl)) (wa_nil))) (we_int)))) (wb_cons (ws_set (i := 4) nd rfl (.inl rfl) (we_ix (we_lst (m := false) (wa_cons (we_op op_addD z_add (we_int) (we_op op_mod z_mod (we_call (ok_f_law_next T) (hr.mono (by decide)) hgd (by rfl) T.m_f_law_next T.F_f_law_next.kp T.b_f_law_next (wa_cons (we_var (i := 0) rfl (.inl rfl)) (wa_nil))) (we_int))) (wa_cons (we_op op_addD z_add (we_int) (we_op op_mod z_mod (we_call (ok_f_law_next T) (hr.mono (by decide)) hgd (by rfl) T.m_f_law_next T.F_f_law_next.kp T.b_f_law_next (wa_cons (we_var (i := 0) rfl (.inl rfl)) (wa_nil))) (we_int))) (wa_nil)))) (we_op op_mod z_mod (we_call (ok_f_law_next T) (hr.mono (by decide)) hgd (by rfl) T.m_f_law_next T.F_f_law_next.kp T.b_f_law_next (wa_cons (we_var (i := 0) rfl (.inl rfl)) (wa_nil))) (we_int)))) (wb_one (ws_ret (we_tup (wa_cons (we_var (i := 1) rfl (.inl rfl)) (wa_cons (we_int) (wa_cons (we_op op_mod z_mod (we_call (ok_f_law_next T) (hr.mono (by decide)) hgd (by rfl) T.m_f_law_next T.F_f_law_next.kp T.b_f_law_next (wa_cons (we_var (i := 0) rfl (.inl rfl)) (wa_nil))) (we_op op_addD z_add (we_var (i := 2) rfl (.inl rfl)) (we_int))) (wa_cons (we_var (i := 4) rfl (.inl rfl)) (wa_cons (we_op op_mod z_mod (we_call (ok_f_law_next T) (hr.mono (by decide)) hgd (by rfl) T.m_f_law_next T.F_f_law_next.kp T.b_f_law_next (wa_cons (we_var (i := 0) rfl (.inl rfl)) (wa_nil))) (we_var (i := 3) rfl (.inl rfl))) (wa_nil))))))))))
theorem ok_f_law_full_days (T : Txt K mg) : FnG P w K mg base CX0 2 T.a_f_law_full_days T.d_f_law_full_days ["_law_system", "_law_plan", "_law_place"] (spOf K S_f_law_full_days) := by
  refine fn_okP T.F_f_law_full_days sc_f_law_full_days rfl (fun cdv A outer s H E hr hgd => ?_) vc_f_law_full_days
  have nd := sc_f_law_full_days.nd
  exact wb_cons (ws_set (i := 3) nd rfl (.inl rfl) (we_ix (we_ix (we_var (i := 0) rfl (.inl rfl)) (we_int)) (we_var (i := 2) rfl (.inl rfl)))) (wb_cons (ws_set (i := 4) nd rfl (.inl rfl) (we_lst (m := true) (wa_nil))) (wb_cons (ws_for PassesOwn.never rfl (wi_range2 (by rfl) T.n_range (wa_cons (we_ix (we_var (i := 3) rfl (.inl rfl)) (we_int)) (wa_cons (we_op op_addD z_add (we_ix (we_var (i := 0) rfl (.inl rfl)) (we_int)) (we_int)) (wa_nil)))) (wg_name (i := 5) nd rfl (.inl rfl)) (wb_cons (ws_set (i := 6) nd rfl (.inl rfl) (we_int)) (wb_cons (ws_for PassesOwn.never rfl (wi_seq (we_ix (we_var (i := 0) rfl (.inl rfl)) (we_int))) (wg_name (i := 7) nd rfl (.inl rfl)) (wb_cons (ws_set (i := 8) nd rfl (.inl rfl) (we_or (we_cmp (op_ltD hr.units0) z_lt (we_ix (we_var (i := 7) rfl (.inl rfl)) (we_int)) (we_ix (we_var (i := 3) rfl (.inl rfl)) (we_int)) ((nomark _))) (we_one (we_and (we_cmp (op_eqC hr.units) z_eqB (we_ix (we_var (i := 7) rfl (.inl rfl)) (we_int)) (we_ix (we_var (i := 3) rfl (.inl rfl)) (we_int)) ((nomark _))) (we_one (we_cmp (op_geD hr.units0) z_ge (we_ix (we_var (i := 7) rfl (.inl rfl)) (we_int)) (we_ix (we_var (i := 3) rfl (.inl rfl)) (we_int)) ((nomark _)))))))) (wb_one (ws_if ((ww_and (wt_val (we_var (i := 8) rfl (.inl rfl))) (ww_and (wt_cmp (op_leD hr.units0) z_le (we_ix (we_var (i := 7) rfl (.inl rfl)) (we_int)) (we_var (i := 5) rfl (.inl rfl)) ((nomark _))) (ww_and1 (wt_val (we_call (ok_f_law_kept T) (hr.mono (by decide)) hgd (by rfl) T.m_f_law_kept T.F_f_law_kept.kp T.b_f_law_kept (wa_cons (we_var (i := 0) rfl (.inl rfl)) (wa_cons (we_var (i := 7) rfl (.inl rfl)) (wa_cons (we_ix (we_var (i := 1) rfl (.inl rfl)) (we_ix (we_var (i := 7) rfl (.inl rfl)) (we_int))) (wa_nil))))))))).wt) (wb_one (ws_set (i := 6) nd rfl (.inl rfl) (we_op op_addD z_add (we_var (i := 6) rfl (.inl rfl)) (we_int)))) (wb_nil))))) (wb_one (ws_if (wt_cmp (op_eqC hr.units) z_eqB (we_var (i := 6) rfl (.inl rfl)) (we_call (ok_f_law_room T) (hr.mono (by decide)) hgd (by rfl) T.m_f_law_room T.F_f_law_room.kp T.b_f_law_room (wa_cons (we_var (i := 0) rfl (.inl rfl)) (wa_cons (we_var (i := 5) rfl (.inl rfl)) (wa_nil)))) ((nomark _))) (wb_one (ws_expr (we_m PySem.F.slot_list_append PySem.F.type_list_append mt_append z_append (we_var (i := 4) rfl (.inl rfl)) (wa_cons (we_var (i := 5) rfl (.inl rfl)) (wa_nil)) (fun h1 h2 => pe_bm PySem.F.plainAttrs_list PySem.F.slot_list_append PySem.F.type_list_append mt_append h1 h2)))) (wb_nil)))))) (wb_one (ws_ret (we_frz (i := 4) rfl (.inl rfl))))))
theorem ok_f_law_uneven (T : Txt K mg) : FnG P w K mg base CX0 2 T.a_f_law_uneven T.d_f_law_uneven ["_law_deck_here", "_law_system"] (spOf K S_f_law_uneven) := by
  refine fn_ok T.F_f_law_uneven sc_f_law_uneven rfl (fun cdv A outer s H E hr hgd => ?_) vc_f_law_uneven
  have nd := sc_f_law_uneven.nd
  exact wb_cons (ws_set (i := 2) nd rfl (.inl rfl) (we_op op_mod z_mod (we_call (ok_f_law_next T) (hr.mono (by decide)) hgd (by rfl) T.m_f_law_next T.F_f_law_next.kp T.b_f_law_next (wa_cons (we_var (i := 0) rfl (.inl rfl)) (wa_nil))) (we_int))) (wb_cons (ws_set (i := 3) nd rfl (.inl rfl) (we_call (ok_f_law_next T) (hr.mono (by decide)) hgd (by rfl) T.m_f_law_next T.F_f_law_next.kp T.b_f_law_next (wa_cons (we_var (i := 0) rfl (.inl rfl)) (wa_nil)))) (wb_cons (ws_asg (we_var (i := 1) rfl (.inl rfl)) (wg_tup rfl (wgs_cons (wg_name (i := 4) nd rfl (.inl rfl)) (wgs_cons (wg_name (i := 5) nd rfl (.inl rfl)) (wgs_cons (wg_name (i := 6) nd rfl (.inl rfl)) (wgs_cons (wg_name (i := 7) nd rfl (.inl rfl)) (wgs_nil))))))) (wb_cons (ws_if ((ww_and (wt_cmp (op_eqC hr.units) z_eqB (we_var (i := 2) rfl (.inl rfl)) (we_int) ((nomark _))) (ww_and1 (wt_cmp (op_gtD hr.units0) z_gt (we_callX z_len (fun h => pe_callB (CallR.or call_len_seq call_len_str) (by rfl) T.n_len bb_len h) (wa_cons (we_var (i := 6) rfl (.inl rfl)) (wa_nil))) (we_int) ((nomark _))))).wt) (wb_cons (ws_set (i := 8) nd rfl (.inl rfl) (we_ix (we_var (i := 6) rfl (.inl rfl)) (we_neg (we_int)))) (wb_one (ws_ret (we_tup (wa_cons (we_var (i := 4) rfl (.inl rfl)) (wa_cons (we_var (i := 5) rfl (.inl rfl)) (wa_cons (we_op op_addD z_add (we_sl (m := false) (we_var (i := 6) rfl (.inl rfl)) wo_none (wo_some (we_neg (we_int)))) (we_tup (wa_cons (we_op op_addD z_add (we_tup (wa_cons (we_op op_addD z_add (we_op op_mod z_mod (we_ix (we_var (i := 8) rfl (.inl rfl)) (we_int)) (we_int)) (we_int)) (wa_nil))) (we_sl (m := false) (we_var (i := 8) rfl (.inl rfl)) (wo_some (we_int)) wo_none)) (wa_nil)))) (wa_cons (we_var (i := 7) rfl (.inl rfl)) (wa_nil))))))))) (wb_nil)) (wb_cons (ws_if ((ww_and (wt_cmp (op_eqC hr.units) z_eqB (we_var (i := 2) rfl (.inl rfl)) (we_int) ((nomark _))) (ww_and (wt_cmp (op_neC hr.units) z_eqB (we_var (i := 6) rfl (.inl rfl)) (we_tup (wa_nil)) ((nomark _))) (ww_and1 (wt_cmp (op_gtD hr.units0) z_gt (we_callX z_len (fun h => pe_callB (CallR.or call_len_seq call_len_str) (by rfl) T.n_len bb_len h) (wa_cons (we_var (i := 5) rfl (.inl rfl)) (wa_nil))) (we_int) ((nomark _)))))).wt) (wb_cons (ws_set (i := 8) nd rfl (.inl rfl) (we_ix (we_var (i := 6) rfl (.inl rfl)) (we_neg (we_int)))) (wb_one (ws_ret (we_tup (wa_cons (we_var (i := 4) rfl (.inl rfl)) (wa_cons (we_var (i := 5) rfl (.inl rfl)) (wa_cons (we_op op_addD z_add (we_sl (m := false) (we_var (i := 6) rfl (.inl rfl)) wo_none (wo_some (we_neg (we_int)))) (we_tup (wa_cons (we_op op_addD z_add (we_sl (m := false) (we_var (i := 8) rfl (.inl rfl)) wo_none (wo_some (we_int))) (we_tup (wa_cons (we_sl (m := false) (we_ix (we_var (i := 8) rfl (.inl rfl)) (we_int)) wo_none (wo_some (we_neg (we_int)))) (wa_nil)))) (wa_nil)))) (wa_cons (we_var (i := 7) rfl (.inl rfl)) (wa_nil))))))))) (wb_nil)) (wb_cons (ws_if ((ww_and (wt_cmp (op_eqC hr.units) z_eqB (we_var (i := 2) rfl (.inl rfl)) (we_int) ((nomark _))) (ww_and1 (wt_cmp (op_neC hr.units) z_eqB (we_var (i := 7) rfl (.inl rfl)) (we_tup (wa_nil)) ((nomark _))))).wt) (wb_cons (ws_set (i := 9) nd rfl (.inl rfl) (we_ix (we_var (i := 7) rfl (.inl rfl)) (we_int))) (wb_one (ws_ret (we_tup (wa_cons (we_var (i := 4) rfl (.inl rfl)) (wa_cons (we_var (i := 5) rfl (.inl rfl)) (wa_cons (we_var (i := 6) rfl (.inl rfl)) (wa_cons (we_op op_addD z_add (we_var (i := 7) rfl (.inl rfl)) (we_tup (wa_cons (we_op op_addD z_add (we_op op_addD z_add (we_sl (m := false) (we_var (i := 9) rfl (.inl rfl)) wo_none (wo_some (we_int))) (we_tup (wa_cons (we_op op_mod z_mod (we_op op_addD z_add (we_ix (we_var (i := 9) rfl (.inl rfl)) (we_int)) (we_int)) (we_op op_addD z_add (we_var (i := 4) rfl (.inl rfl)) (we_int))) (wa_nil)))) (we_sl (m := false) (we_var (i := 9) rfl (.inl rfl)) (wo_some (we_int)) wo_none)) (wa_nil)))) (wa_nil))))))))) (wb_nil)) (wb_cons (ws_if ((ww_and (wt_cmp (op_eqC hr.units) z_eqB (we_var (i := 2) rfl (.inl rfl)) (we_int) ((nomark _))) (ww_and1 (wt_cmp (op_neC hr.units) z_eqB (we_var (i := 7) rfl (.inl rfl)) (we_tup (wa_nil)) ((nomark _))))).wt) (wb_cons (ws_set (i := 10) nd rfl (.inl rfl) (we_op op_mod z_mod (we_var (i := 3) rfl (.inl rfl)) (we_callX z_len (fun h => pe_callB (CallR.or call_len_seq call_len_str) (by rfl) T.n_len bb_len h) (wa_cons (we_var (i := 7) rfl (.inl rfl)) (wa_nil))))) (wb_one (ws_ret (we_tup (wa_cons (we_var (i := 4) rfl (.inl rfl)) (wa_cons (we_var (i := 5) rfl (.inl rfl)) (wa_cons (we_var (i := 6) rfl (.inl rfl)) (wa_cons (we_call (ok_f_law_put T) (hr.mono (by decide)) hgd (by rfl) T.m_f_law_put T.F_f_law_put.kp T.b_f_law_put (wa_cons (we_var (i := 7) rfl (.inl rfl)) (wa_cons (we_var (i := 10) rfl (.inl rfl)) (wa_cons (we_op op_addD z_add (we_tup (wa_cons (we_ix (we_ix (we_var (i := 7) rfl (.inl rfl)) (we_var (i := 10) rfl (.inl rfl))) (we_int)) (wa_cons (we_int) (wa_nil)))) (we_sl (m := false) (we_ix (we_var (i := 7) rfl (.inl rfl)) (we_var (i := 10) rfl (.inl rfl))) (wo_some (we_int)) wo_none)) (wa_nil))))) (wa_nil))))))))) (wb_nil)) (wb_cons (ws_if ((ww_and (wt_cmp (op_eqC hr.units) z_eqB (we_var (i := 2) rfl (.inl rfl)) (we_int) ((nomark _))) (ww_and1 (wt_cmp (op_gtD hr.units0) z_gt (we_callX z_len (fun h => pe_callB (CallR.or call_len_seq call_len_str) (by rfl) T.n_len bb_len h) (wa_cons (we_var (i := 6) rfl (.inl rfl)) (wa_nil))) (we_int) ((nomark _))))).wt) (wb_one (ws_ret (we_tup (wa_cons (we_var (i := 4) rfl (.inl rfl)) (wa_cons (we_var (i := 5) rfl (.inl rfl)) (wa_cons (we_op op_addD z_add (we_sl (m := false) (we_var (i := 6) rfl (.inl rfl)) wo_none (wo_some (we_neg (we_int)))) (we_tup (wa_cons (we_tup (wa_cons (we_ix (we_ix (we_var (i := 6) rfl (.inl rfl)) (we_int)) (we_int)) (wa_cons (we_tup (wa_cons (we_op op_mod z_mod (we_var (i := 3) rfl (.inl rfl)) (we_op op_sub z_sub (we_callX z_len (fun h => pe_callB (CallR.or call_len_seq call_len_str) (by rfl) T.n_len bb_len h) (wa_cons (we_var (i := 6) rfl (.inl rfl)) (wa_nil))) (we_int))) (wa_nil))) (wa_cons (we_ix (we_ix (we_var (i := 6) rfl (.inl rfl)) (we_int)) (we_int)) (wa_nil))))) (wa_nil)))) (wa_cons (we_var (i := 7) rfl (.inl rfl)) (wa_nil)))))))) (wb_nil)) (wb_one (ws_ret (we_tup (wa_cons (we_var (i := 4) rfl (.inl rfl)) (wa_cons (we_call (ok_f_law_put T) (hr.mono (by decide)) hgd (by rfl) T.m_f_law_put T.F_f_law_put.kp T.b_f_law_put (wa_cons (we_var (i := 5) rfl (.inl rfl)) (wa_cons (we_op op_mod z_mod (we_var (i := 3) rfl (.inl rfl)) (we_callX z_len (fun h => pe_callB (CallR.or call_len_seq call_len_str) (by rfl) T.n_len bb_len h) (wa_cons (we_var (i := 5) rfl (.inl rfl)) (wa_nil)))) (wa_cons (we_tup (wa_cons (we_op op_mod z_mod (we_op op_fdivW z_fdiv (we_var (i := 3) rfl (.inl rfl)) (we_int)) (we_var (i := 4) rfl (.inl rfl))) (wa_nil))) (wa_nil))))) (wa_cons (we_var (i := 6) rfl (.inl rfl)) (wa_cons (we_var (i := 7) rfl (.inl rfl)) (wa_nil)))))))))))))))
theorem ok_p_holds_full (T : Txt K mg) : FnG P w K mg base CX0 3 T.a_p_holds_full T.d_p_holds_full ["system", "kept", "place", "pair"] (spOf K S_p_holds_full) := by
  refine fn_ok T.F_p_holds_full sc_p_holds_full rfl (fun cdv A outer s H E hr hgd => ?_) vc_p_holds_full
  have nd := sc_p_holds_full.nd
  exact wb_cons (ws_set (i := 4) nd rfl (.inr rfl) (we_ix (we_ix (we_var (i := 0) rfl (.inl rfl)) (we_int)) (we_var (i := 2) rfl (.inl rfl)))) (wb_cons (ws_if ((ww_or (wt_not (wt_val (we_isi tok_tuple (by rfl) T.n_isinstance (by rfl) T.n_tuple bb_tuple (we_var (i := 3) rfl (.inl rfl))))) (ww_or (wt_cmp (op_neC hr.units) z_eqB (we_callX z_len (fun h => pe_callB (CallR.or call_len_seq call_len_str) (by rfl) T.n_len bb_len h) (wa_cons (we_var (i := 3) rfl (.inl rfl)) (wa_nil))) (we_int) ((nomark _))) (ww_or1 (wt_not (wt_val (we_call (ok_p_is_from T) (hr.mono (by decide)) hgd (by rfl) T.m_p_is_from T.F_p_is_from.kp T.b_p_is_from (wa_cons (we_ix (we_var (i := 3) rfl (.inl rfl)) (we_int)) (wa_cons (we_var (i := 2) rfl (.inl rfl)) (wa_cons (we_var (i := 2) rfl (.inl rfl)) (wa_nil)))))))))).wt) (wb_one (ws_ret (we_bl))) (wb_nil)) (wb_cons (ws_set (i := 5) nd rfl (.inr rfl) (we_ix (we_var (i := 3) rfl (.inl rfl)) (we_int))) (wb_cons (ws_if (wt_not (wt_val (we_call (ok_p_is_from T) (hr.mono (by decide)) hgd (by rfl) T.m_p_is_from T.F_p_is_from.kp T.b_p_is_from (wa_cons (we_var (i := 5) rfl (.inr (.inl rfl))) (wa_cons (we_ix (we_var (i := 4) rfl (.inr (.inl rfl))) (we_int)) (wa_cons (we_ix (we_var (i := 0) rfl (.inl rfl)) (we_int)) (wa_nil))))))) (wb_one (ws_ret (we_bl))) (wb_nil)) (wb_one (ws_ret (we_cmp (op_eqC hr.units) z_eqB (we_callX z_len (fun h => pe_callB (CallR.or call_len_seq call_len_str) (by rfl) T.n_len bb_len h) (wa_cons (we_lc (m := false) (t := (.nm 6)) (own := [("one", 6)]) rfl nd (wi_seq (we_var (i := 1) rfl (.inl rfl))) (blkOk_by (own := [("one", 6)]) (N := N_p_holds_full) (by kernel_rfl)) (by simp [Tg.ix]) (fun _ _ _ _ _ => pg_name (i := 6) nd rfl (.inl rfl)) (fun _ _ _ _ _ => wts_one ((ww_and (wt_val (we_call (ok_p_is_no_lower T) (hr.mono (by decide)) hgd (by rfl) T.m_p_is_no_lower T.F_p_is_no_lower.kp T.b_p_is_no_lower (wa_cons (we_var (i := 6) rfl (.inl rfl)) (wa_cons (we_var (i := 4) rfl (.inr (.inl rfl))) (wa_nil))))) (ww_and1 (wt_cmp (op_leD hr.units0) z_le (we_ix (we_var (i := 6) rfl (.inl rfl)) (we_int)) (we_var (i := 5) rfl (.inr (.inl rfl))) ((nomark _))))).wt)) (fun _ _ _ _ _ => we_var (i := 6) rfl (.inl rfl))) (wa_nil))) (we_call (ok_p_room_up_to T) (hr.mono (by decide)) hgd (by rfl) T.m_p_room_up_to T.F_p_room_up_to.kp T.b_p_room_up_to (wa_cons (we_var (i := 0) rfl (.inl rfl)) (wa_cons (we_var (i := 5) rfl (.inr (.inl rfl))) (wa_nil)))) ((nomark _))))))))
theorem ok_p_taken_wishes (T : Txt K mg) : FnG P w K mg base CX0 3 T.a_p_taken_wishes T.d_p_taken_wishes ["system"] (spOf K S_p_taken_wishes) := by
  refine fn_okP T.F_p_taken_wishes sc_p_taken_wishes rfl (fun cdv A outer s H E hr hgd => ?_) vc_p_taken_wishes
  have nd := sc_p_taken_wishes.nd
  exact wb_cons (ws_set (i := 1) nd rfl (.inl rfl) (we_callX (z_sort3 (m := false)) (fun h => pe_callB cr_sorted3 (by rfl) T.n_sorted bb_sorted h) (wa_cons (we_lc (m := false) (t := (.tp [6, 8])) (own := [("place", 6), ("wish", 8)]) rfl nd (wi_enum (by rfl) T.n_enumerate (we_ix (we_var (i := 0) rfl (.inl rfl)) (we_int))) (blkOk_by (own := [("place", 6), ("wish", 8)]) (N := N_p_taken_wishes) (by kernel_rfl)) (by simp [Tg.ix]) (fun _ _ _ _ _ => pg_tup rfl (pgs_cons (pg_name (i := 6) nd rfl (.inl rfl)) (pgs_cons (pg_name (i := 8) nd rfl (.inl rfl)) (pgs_nil)))) (fun _ _ _ _ _ => wts_nil) (fun _ _ _ _ _ => we_tup (wa_cons (we_ix (we_var (i := 8) rfl (.inl rfl)) (we_int)) (wa_cons (we_op op_sub z_sub (we_int) (we_ix (we_var (i := 8) rfl (.inl rfl)) (we_int))) (wa_cons (we_var (i := 6) rfl (.inl rfl)) (wa_nil)))))) (wa_nil)))) (wb_cons (ws_set (i := 2) nd rfl (.inl rfl) (we_lst (m := true) (wa_nil))) (wb_cons (ws_set (i := 3) nd rfl (.inl rfl) (we_lst (m := true) (wa_nil))) (wb_cons (ws_for PassesOwn.never rfl (wi_seq (we_var (i := 1) rfl (.inl rfl))) (wg_tup rfl (wgs_cons (wg_name (i := 4) nd rfl (.inl rfl)) (wgs_cons (wg_name (i := 5) nd rfl (.inl rfl)) (wgs_cons (wg_name (i := 6) nd rfl (.inl rfl)) (wgs_nil))))) (wb_cons (ws_set (i := 7) nd rfl (.inl rfl) (we_ix (we_ix (we_ix (we_var (i := 0) rfl (.inl rfl)) (we_int)) (we_var (i := 6) rfl (.inl rfl))) (we_int))) (wb_one (ws_if (wt_val (we_call (ok_p_do_fit T) (hr.mono (by decide)) hgd (by rfl) T.m_p_do_fit T.F_p_do_fit.kp T.b_p_do_fit (wa_cons (we_var (i := 0) rfl (.inl rfl)) (wa_cons (we_op op_addD z_add (we_var (i := 3) rfl (.inl rfl)) (we_lst (m := false) (wa_cons (we_var (i := 7) rfl (.inl rfl)) (wa_nil)))) (wa_nil))))) (wb_cons (ws_expr (we_m PySem.F.slot_list_append PySem.F.type_list_append mt_append z_append (we_var (i := 2) rfl (.inl rfl)) (wa_cons (we_var (i := 6) rfl (.inl rfl)) (wa_nil)) (fun h1 h2 => pe_bm PySem.F.plainAttrs_list PySem.F.slot_list_append PySem.F.type_list_append mt_append h1 h2))) (wb_one (ws_expr (we_m PySem.F.slot_list_append PySem.F.type_list_append mt_append z_append (we_var (i := 3) rfl (.inl rfl)) (wa_cons (we_var (i := 7) rfl (.inl rfl)) (wa_nil)) (fun h1 h2 => pe_bm PySem.F.plainAttrs_list PySem.F.slot_list_append PySem.F.type_list_append mt_append h1 h2))))) (wb_nil))))) (wb_one (ws_ret (we_frz (i := 2) rfl (.inl rfl)))))))
theorem ok_f_law_is_plan (T : Txt K mg) : FnG P w K mg base CX0 3 T.a_f_law_is_plan T.d_f_law_is_plan ["_law_system", "_law_thing"] (spOf K S_f_law_is_plan) := by
  refine fn_ok T.F_f_law_is_plan sc_f_law_is_plan rfl (fun cdv A outer s H E hr hgd => ?_) vc_f_law_is_plan
  have nd := sc_f_law_is_plan.nd
  exact wb_cons (ws_if ((ww_or (wt_not (wt_val (we_isi tok_tuple (by rfl) T.n_isinstance (by rfl) T.n_tuple bb_tuple (we_var (i := 1) rfl (.inl rfl))))) (ww_or1 (wt_cmp (op_neC hr.units) z_eqB (we_callX z_len (fun h => pe_callB (CallR.or call_len_seq call_len_str) (by rfl) T.n_len bb_len h) (wa_cons (we_var (i := 1) rfl (.inl rfl)) (wa_nil))) (we_callX z_len (fun h => pe_callB (CallR.or call_len_seq call_len_str) (by rfl) T.n_len bb_len h) (wa_cons (we_ix (we_var (i := 0) rfl (.inl rfl)) (we_int)) (wa_nil))) ((nomark _))))).wt) (wb_one (ws_ret (we_bl))) (wb_nil)) (wb_cons (ws_for PassesOwn.never rfl (wi_enum (by rfl) T.n_enumerate (we_var (i := 1) rfl (.inl rfl))) (wg_tup rfl (wgs_cons (wg_name (i := 2) nd rfl (.inl rfl)) (wgs_cons (wg_name (i := 3) nd rfl (.inl rfl)) (wgs_nil)))) (wb_one (ws_if ((ww_or (wt_not (wt_val (we_call (ok_f_law_is_way T) (hr.mono (by decide)) hgd (by rfl) T.m_f_law_is_way T.F_f_law_is_way.kp T.b_f_law_is_way (wa_cons (we_var (i := 0) rfl (.inl rfl)) (wa_cons (we_var (i := 2) rfl (.inl rfl)) (wa_cons (we_var (i := 3) rfl (.inl rfl)) (wa_nil))))))) (ww_or1 (wt_not (wt_val (we_call (ok_f_law_goes T) (hr.mono (by decide)) hgd (by rfl) T.m_f_law_goes T.F_f_law_goes.kp T.b_f_law_goes (wa_cons (we_var (i := 0) rfl (.inl rfl)) (wa_cons (we_sl (m := false) (we_var (i := 1) rfl (.inl rfl)) wo_none (wo_some (we_var (i := 2) rfl (.inl rfl)))) (wa_cons (we_var (i := 2) rfl (.inl rfl)) (wa_cons (we_var (i := 3) rfl (.inl rfl)) (wa_nil)))))))))).wt) (wb_one (ws_ret (we_bl))) (wb_nil)))) (wb_one (ws_ret (we_bl))))
theorem ok_f_law_even (T : Txt K mg) : FnG P w K mg base CX0 3 T.a_f_law_even T.d_f_law_even ["_law_deck_here", "_law_days", "_law_hands", "_law_works", "_law_length"] (spOf K S_f_law_even) := by
  refine fn_okP T.F_f_law_even sc_f_law_even rfl (fun cdv A outer s H E hr hgd => ?_) vc_f_law_even
  have nd := sc_f_law_even.nd
  exact wb_cons (ws_set (i := 5) nd rfl (.inl rfl) (we_op op_addD z_add (we_int) (we_op op_mod z_mod (we_call (ok_f_law_next T) (hr.mono (by decide)) hgd (by rfl) T.m_f_law_next T.F_f_law_next.kp T.b_f_law_next (wa_cons (we_var (i := 0) rfl (.inl rfl)) (wa_nil))) (we_var (i := 1) rfl (.inl rfl))))) (wb_cons (ws_set (i := 6) nd rfl (.inl rfl) (we_rgT1 rfl (by rfl) T.n_tuple (by rfl) T.n_range (we_op op_addD z_add (we_int) (we_op op_mod z_mod (we_call (ok_f_law_next T) (hr.mono (by decide)) hgd (by rfl) T.m_f_law_next T.F_f_law_next.kp T.b_f_law_next (wa_cons (we_var (i := 0) rfl (.inl rfl)) (wa_nil))) (we_var (i := 2) rfl (.inl rfl)))))) (wb_cons (ws_set (i := 7) nd rfl (.inl rfl) (we_op op_addD z_add (we_int) (we_op op_mod z_mod (we_call (ok_f_law_next T) (hr.mono (by decide)) hgd (by rfl) T.m_f_law_next T.F_f_law_next.kp T.b_f_law_next (wa_cons (we_var (i := 0) rfl (.inl rfl)) (wa_nil))) (we_var (i := 4) rfl (.inl rfl))))) (wb_cons (ws_set (i := 8) nd rfl (.inl rfl) (we_op op_mulD z_mul (we_callX z_len (fun h => pe_callB (CallR.or call_len_seq call_len_str) (by rfl) T.n_len bb_len h) (wa_cons (we_var (i := 6) rfl (.inl rfl)) (wa_nil))) (we_op op_fdivW z_fdiv (we_var (i := 5) rfl (.inl rfl)) (we_var (i := 7) rfl (.inl rfl))))) (wb_cons (ws_set (i := 9) nd rfl (.inl rfl) (we_callX z_min2 (fun h => pe_callB (call_min2 rfl) (by rfl) T.n_min bb_min h) (wa_cons (we_var (i := 3) rfl (.inl rfl)) (wa_cons (we_ix (we_lst (m := false) (wa_cons (we_var (i := 8) rfl (.inl rfl)) (wa_cons (we_op op_mod z_mod (we_call (ok_f_law_next T) (hr.mono (by decide)) hgd (by rfl) T.m_f_law_next T.F_f_law_next.kp T.b_f_law_next (wa_cons (we_var (i := 0) rfl (.inl rfl)) (wa_nil))) (we_op op_addD z_add (we_var (i := 8) rfl (.inl rfl)) (we_int))) (wa_cons (we_op op_addD z_add (we_var (i := 8) rfl (.inl rfl)) (we_int)) (wa_nil))))) (we_ix (we_lst (m := false) (wa_cons (we_int) (wa_cons (we_int) (wa_cons (we_int) (wa_cons (we_int) (wa_cons (we_int) (wa_cons (we_int) (wa_nil)))))))) (we_op op_mod z_mod (we_call (ok_f_law_next T) (hr.mono (by decide)) hgd (by rfl) T.m_f_law_next T.F_f_law_next.kp T.b_f_law_next (wa_cons (we_var (i := 0) rfl (.inl rfl)) (wa_nil))) (we_int)))) (wa_nil))))) (wb_cons (ws_set (i := 10) nd rfl (.inl rfl) (we_call (ok_f_law_next T) (hr.mono (by decide)) hgd (by rfl) T.m_f_law_next T.F_f_law_next.kp T.b_f_law_next (wa_cons (we_var (i := 0) rfl (.inl rfl)) (wa_nil)))) (wb_cons (ws_set (i := 11) nd rfl (.inl rfl) (we_lst (m := true) (wa_nil))) (wb_cons (ws_for PassesOwn.never rfl (wi_range1 (by rfl) T.n_range (wa_cons (we_var (i := 9) rfl (.inl rfl)) (wa_nil))) (wg_name (i := 12) nd rfl (.inl rfl)) (wb_one (ws_if (wt_cmp (op_gtD hr.units0) z_gt (we_op op_mod z_mod (we_call (ok_f_law_next T) (hr.mono (by decide)) hgd (by rfl) T.m_f_law_next T.F_f_law_next.kp T.b_f_law_next (wa_cons (we_var (i := 0) rfl (.inl rfl)) (wa_nil))) (we_int)) (we_int) ((nomark _))) (wb_one (ws_expr (we_m PySem.F.slot_list_append PySem.F.type_list_append mt_append z_append (we_var (i := 11) rfl (.inl rfl)) (wa_cons (we_call (ok_f_law_even_wish T) (hr.mono (by decide)) hgd (by rfl) T.m_f_law_even_wish T.F_f_law_even_wish.kp T.b_f_law_even_wish (wa_cons (we_var (i := 0) rfl (.inl rfl)) (wa_cons (we_op op_mod z_mod (we_op op_addD z_add (we_op op_mulD z_mul (we_var (i := 12) rfl (.inl rfl)) (we_ix (we_lst (m := false) (wa_cons (we_int) (wa_cons (we_op op_sub z_sub (we_var (i := 9) rfl (.inl rfl)) (we_int)) (wa_nil)))) (we_op op_mod z_mod (we_var (i := 10) rfl (.inl rfl)) (we_int)))) (we_var (i := 10) rfl (.inl rfl))) (we_var (i := 9) rfl (.inl rfl))) (wa_cons (we_var (i := 5) rfl (.inl rfl)) (wa_nil))))) (wa_nil)) (fun h1 h2 => pe_bm PySem.F.plainAttrs_list PySem.F.slot_list_append PySem.F.type_list_append mt_append h1 h2)))) (wb_nil)))) (wb_one (ws_ret (we_tup (wa_cons (we_var (i := 5) rfl (.inl rfl)) (wa_cons (we_op op_mulD z_mul (we_tup (wa_cons (we_tup (wa_nil)) (wa_nil))) (we_callX z_len (fun h => pe_callB (CallR.or call_len_seq call_len_str) (by rfl) T.n_len bb_len h) (wa_cons (we_var (i := 6) rfl (.inl rfl)) (wa_nil)))) (wa_cons (we_op op_mulD z_mul (we_tup (wa_cons (we_tup (wa_cons (we_var (i := 7) rfl (.inl rfl)) (wa_cons (we_tup (wa_nil)) (wa_cons (we_var (i := 6) rfl (.inl rfl)) (wa_nil))))) (wa_nil))) (we_var (i := 9) rfl (.inl rfl))) (wa_cons (we_callX z_tuple (fun h => pe_callTy call_tupleX (by rfl) T.n_tuple bb_tuple h) (wa_cons (we_var (i := 11) rfl (.inl rfl)) (wa_nil))) (wa_nil)))))))))))))))
theorem ok_f_law_is_pair (T : Txt K mg) : FnG P w K mg base CX0 3 T.a_f_law_is_pair T.d_f_law_is_pair ["_law_system", "_law_plan", "_law_place", "_law_pair"] (spOf K S_f_law_is_pair) := by
  refine fn_ok T.F_f_law_is_pair sc_f_law_is_pair rfl (fun cdv A outer s H E hr hgd => ?_) vc_f_law_is_pair
  have nd := sc_f_law_is_pair.nd
  exact wb_cons (ws_if ((ww_or (wt_not (wt_val (we_isi tok_tuple (by rfl) T.n_isinstance (by rfl) T.n_tuple bb_tuple (we_var (i := 3) rfl (.inl rfl))))) (ww_or (wt_cmp (op_neC hr.units) z_eqB (we_callX z_len (fun h => pe_callB (CallR.or call_len_seq call_len_str) (by rfl) T.n_len bb_len h) (wa_cons (we_var (i := 3) rfl (.inl rfl)) (wa_nil))) (we_int) ((nomark _))) (ww_or1 (wt_not (wt_val (we_call (ok_f_law_is_from T) (hr.mono (by decide)) hgd (by rfl) T.m_f_law_is_from T.F_f_law_is_from.kp T.b_f_law_is_from (wa_cons (we_ix (we_var (i := 3) rfl (.inl rfl)) (we_int)) (wa_cons (we_var (i := 2) rfl (.inl rfl)) (wa_cons (we_var (i := 2) rfl (.inl rfl)) (wa_nil)))))))))).wt) (wb_one (ws_ret (we_bl))) (wb_nil)) (wb_one (ws_ret (we_and (we_call (ok_f_law_is_from T) (hr.mono (by decide)) hgd (by rfl) T.m_f_law_is_from T.F_f_law_is_from.kp T.b_f_law_is_from (wa_cons (we_ix (we_var (i := 3) rfl (.inl rfl)) (we_int)) (wa_cons (we_int) (wa_cons (we_ix (we_var (i := 0) rfl (.inl rfl)) (we_int)) (wa_nil))))) (we_one (we_cmp (op_inB hr.units) z_inB (we_ix (we_var (i := 3) rfl (.inl rfl)) (we_int)) (we_call (ok_f_law_full_days T) (hr.mono (by decide)) hgd (by rfl) T.m_f_law_full_days T.F_f_law_full_days.kp T.b_f_law_full_days (wa_cons (we_var (i := 0) rfl (.inl rfl)) (wa_cons (we_var (i := 1) rfl (.inl rfl)) (wa_cons (we_var (i := 2) rfl (.inl rfl)) (wa_nil))))) (by rfl))))))
theorem ok_p_full_day (T : Txt K mg) : FnG P w K mg base CX0 4 T.a_p_full_day T.d_p_full_day ["system", "kept", "place"] (spOf K S_p_full_day) := by
  refine fn_ok T.F_p_full_day sc_p_full_day rfl (fun cdv A outer s H E hr hgd => ?_) vc_p_full_day
  have nd := sc_p_full_day.nd
  exact wb_cons (ws_set (i := 3) nd rfl (.inl rfl) (we_ix (we_ix (we_ix (we_var (i := 0) rfl (.inl rfl)) (we_int)) (we_var (i := 2) rfl (.inl rfl))) (we_int))) (wb_cons (ws_while PassesOwn.never ((ww_and (wt_cmp (op_ltD hr.units0) z_lt (we_var (i := 3) rfl (.inl rfl)) (we_ix (we_var (i := 0) rfl (.inl rfl)) (we_int)) ((nomark _))) (ww_and1 (wt_not (wt_val (we_call (ok_p_holds_full T) (hr.mono (by decide)) hgd (by rfl) T.m_p_holds_full T.F_p_holds_full.kp T.b_p_holds_full (wa_cons (we_var (i := 0) rfl (.inl rfl)) (wa_cons (we_var (i := 1) rfl (.inl rfl)) (wa_cons (we_var (i := 2) rfl (.inl rfl)) (wa_cons (we_tup (wa_cons (we_var (i := 2) rfl (.inl rfl)) (wa_cons (we_var (i := 3) rfl (.inl rfl)) (wa_nil)))) (wa_nil)))))))))).wt) (wb_one (ws_set (i := 3) nd rfl (.inl rfl) (we_op op_addD z_add (we_var (i := 3) rfl (.inl rfl)) (we_int))))) (wb_one (ws_ret (we_var (i := 3) rfl (.inl rfl)))))
theorem ok_f_law_is_paper (T : Txt K mg) : FnG P w K mg base CX0 4 T.a_f_law_is_paper T.d_f_law_is_paper ["_law_system", "_law_thing"] (spOf K S_f_law_is_paper) := by
  refine fn_ok T.F_f_law_is_paper sc_f_law_is_paper rfl (fun cdv A outer s H E hr hgd => ?_) vc_f_law_is_paper
  have nd := sc_f_law_is_paper.nd
  exact wb_cons (ws_if ((ww_or (wt_not (wt_val (we_isi tok_tuple (by rfl) T.n_isinstance (by rfl) T.n_tuple bb_tuple (we_var (i := 1) rfl (.inl rfl))))) (ww_or (wt_cmp (op_neC hr.units) z_eqB (we_callX z_len (fun h => pe_callB (CallR.or call_len_seq call_len_str) (by rfl) T.n_len bb_len h) (wa_cons (we_var (i := 1) rfl (.inl rfl)) (wa_nil))) (we_int) ((nomark _))) (ww_or1 (wt_not (wt_val (we_call (ok_f_law_is_plan T) (hr.mono (by decide)) hgd (by rfl) T.m_f_law_is_plan T.F_f_law_is_plan.kp T.b_f_law_is_plan (wa_cons (we_var (i := 0) rfl (.inr (.inl rfl))) (wa_cons (we_ix (we_var (i := 1) rfl (.inl rfl)) (we_int)) (wa_nil))))))))).wt) (wb_one (ws_ret (we_bl))) (wb_nil)) (wb_cons (ws_asg (we_var (i := 1) rfl (.inl rfl)) (wg_tup rfl (wgs_cons (wg_name (i := 2) nd rfl (.inr rfl)) (wgs_cons (wg_name (i := 3) nd rfl (.inl rfl)) (wgs_nil))))) (wb_cons (ws_setLc (m := false) (t := (.tp [5, 6])) (i := 4) (own := [("_law_k", 5), ("_law_wish", 6)]) rfl nd rfl rfl (sw_true rfl rfl rfl (by decide +kernel)) (wi_enum (by rfl) T.n_enumerate (we_ix (we_var (i := 0) rfl (.inr (.inl rfl))) (we_int))) (blkOk_by (own := [("_law_k", 5), ("_law_wish", 6)]) (N := N_f_law_is_paper) (by kernel_rfl)) (by simp [Tg.ix]) (fun _ _ _ _ _ => pg_tup rfl (pgs_cons (pg_name (i := 5) nd rfl (.inl rfl)) (pgs_cons (pg_name (i := 6) nd rfl (.inl rfl)) (pgs_nil)))) (fun _ _ _ _ _ => wts_one (wt_not (wt_val (we_call (ok_f_law_kept T) (hr.mono (by decide)) hgd (by rfl) T.m_f_law_kept T.F_f_law_kept.kp T.b_f_law_kept (wa_cons (we_var (i := 0) rfl (.inr (.inl rfl))) (wa_cons (we_var (i := 6) rfl (.inl rfl)) (wa_cons (we_ix (we_var (i := 2) rfl (.inr (.inl rfl))) (we_ix (we_var (i := 6) rfl (.inl rfl)) (we_int))) (wa_nil)))))))) (fun _ _ _ _ _ => we_var (i := 5) rfl (.inl rfl))) (wb_cons (ws_if ((ww_or (wt_not (wt_val (we_isi tok_tuple (by rfl) T.n_isinstance (by rfl) T.n_tuple bb_tuple (we_var (i := 3) rfl (.inl rfl))))) (ww_or1 (wt_cmp (op_neC hr.units) z_eqB (we_callX z_len (fun h => pe_callB (CallR.or call_len_seq call_len_str) (by rfl) T.n_len bb_len h) (wa_cons (we_var (i := 3) rfl (.inl rfl)) (wa_nil))) (we_callX z_len (fun h => pe_callB (CallR.or call_len_seq call_len_str) (by rfl) T.n_len bb_len h) (wa_cons (we_var (i := 4) rfl (.inl rfl)) (wa_nil))) ((nomark _))))).wt) (wb_one (ws_ret (we_bl))) (wb_nil)) (wb_one (ws_ret (we_cmp (op_eqC hr.units) z_eqB (we_lc (m := false) (t := (.tp [7, 8])) (own := [("_law_place", 7), ("_law_pair", 8)]) rfl nd (wi_zip (by rfl) T.n_zip (we_var (i := 4) rfl (.inl rfl)) (we_var (i := 3) rfl (.inl rfl))) (blkOk_by (own := [("_law_place", 7), ("_law_pair", 8)]) (N := N_f_law_is_paper) (by kernel_rfl)) (by simp [Tg.ix]) (fun _ _ _ _ _ => pg_tup rfl (pgs_cons (pg_name (i := 7) nd rfl (.inl rfl)) (pgs_cons (pg_name (i := 8) nd rfl (.inl rfl)) (pgs_nil)))) (fun _ _ _ _ _ => wts_one (wt_not (wt_val (we_call (ok_f_law_is_pair T) (hr.mono (by decide)) hgd (by rfl) T.m_f_law_is_pair T.F_f_law_is_pair.kp T.b_f_law_is_pair (wa_cons (we_var (i := 0) rfl (.inr (.inl rfl))) (wa_cons (we_var (i := 2) rfl (.inr (.inl rfl))) (wa_cons (we_var (i := 7) rfl (.inl rfl)) (wa_cons (we_var (i := 8) rfl (.inl rfl)) (wa_nil))))))))) (fun _ _ _ _ _ => we_int)) (we_lst (m := false) (wa_nil)) ((nomark _))))))))
theorem okx_p_even (T : Txt K mg) : FnG P w K mg base (L2N.CX P w) 5 T.a_p_even T.d_p_even ["system"] (spX K X_p_even) := by
  refine fn_okX (x := "even") T.F_p_even sc_p_even rfl (fun cdv A outer s H E R hr hgd tk => ?_) vcx_p_even
  have nd := sc_p_even.nd
  exact wb_cons (ws_if (wt_not (wt_val (we_call (ok_p_is_even T) (hr.mono (by decide)) hgd (by rfl) T.m_p_is_even T.F_p_is_even.kp T.b_p_is_even (wa_cons (we_var (i := 0) rfl (.inr (.inl rfl))) (wa_nil))))) (wb_one (ws_raiseA (cn := "NotEven") rfl tk T.e_NotEven T.mC_NotEven (by rfl) (wa_cons (we_str) (wa_nil)))) (wb_nil)) (wb_cons (ws_if (wt_cmp (op_eqC hr.units) z_eqB (we_callX z_len (fun h => pe_callB (CallR.or call_len_seq call_len_str) (by rfl) T.n_len bb_len h) (wa_cons (we_ix (we_var (i := 0) rfl (.inr (.inl rfl))) (we_int)) (wa_nil))) (we_int) ((nomark _))) (wb_one (ws_ret (we_tup (wa_cons (we_tup (wa_nil)) (wa_cons (we_tup (wa_nil)) (wa_nil)))))) (wb_nil)) (wb_cons (ws_set (i := 1) nd rfl (.inl rfl) (we_call (ok_p_room_up_to T) (hr.mono (by decide)) hgd (by rfl) T.m_p_room_up_to T.F_p_room_up_to.kp T.b_p_room_up_to (wa_cons (we_var (i := 0) rfl (.inr (.inl rfl))) (wa_cons (we_ix (we_var (i := 0) rfl (.inr (.inl rfl))) (we_int)) (wa_nil))))) (wb_cons (ws_if (wt_cmp (op_gtD hr.units0) z_gt (we_callX z_len (fun h => pe_callB (CallR.or call_len_seq call_len_str) (by rfl) T.n_len bb_len h) (wa_cons (we_ix (we_var (i := 0) rfl (.inr (.inl rfl))) (we_int)) (wa_nil))) (we_var (i := 1) rfl (.inl rfl)) ((nomark _))) (wb_one (ws_raiseF rfl tk T.e_NoRoom (oki_NoRoom T) (hr.mono (by decide)) T.bI_NoRoom T.mC_NoRoom (by rfl) (wa_cons (we_var (i := 1) rfl (.inl rfl)) (wa_nil)))) (wb_nil)) (wb_cons (ws_set (i := 2) nd rfl (.inr rfl) (we_call (ok_p_taken_wishes T) (hr.mono (by decide)) hgd (by rfl) T.m_p_taken_wishes T.F_p_taken_wishes.kp T.b_p_taken_wishes (wa_cons (we_var (i := 0) rfl (.inr (.inl rfl))) (wa_nil)))) (wb_cons (ws_set (i := 3) nd rfl (.inr rfl) (we_lc (m := false) (t := (.tp [8, 9])) (own := [("day", 8), ("work", 9)]) rfl nd (wi_seq (we_callX (z_sortK (m := false)) (fun h => pe_callB cr_sortedAll (by rfl) T.n_sorted bb_sorted h) (wa_cons (we_lc (m := false) (t := (.nm 7)) (own := [("place", 7)]) rfl nd (wi_seq (we_var (i := 2) rfl (.inr (.inl rfl)))) (blkOk_by (own := [("place", 7)]) (N := N_p_even) (by kernel_rfl)) (by simp [Tg.ix]) (fun _ _ _ _ _ => pg_name (i := 7) nd rfl (.inl rfl)) (fun _ _ _ _ _ => wts_nil) (fun _ _ _ _ _ => we_tup (wa_cons (we_ix (we_ix (we_ix (we_var (i := 0) rfl (.inr (.inl rfl))) (we_int)) (we_var (i := 7) rfl (.inl rfl))) (we_int)) (wa_cons (we_ix (we_ix (we_ix (we_var (i := 0) rfl (.inr (.inl rfl))) (we_int)) (we_var (i := 7) rfl (.inl rfl))) (we_int)) (wa_nil))))) (wa_nil)))) (blkOk_by (own := [("day", 8), ("work", 9)]) (N := N_p_even) (by kernel_rfl)) (by simp [Tg.ix]) (fun _ _ _ _ _ => pg_tup rfl (pgs_cons (pg_name (i := 8) nd rfl (.inl rfl)) (pgs_cons (pg_name (i := 9) nd rfl (.inl rfl)) (pgs_nil)))) (fun _ _ _ _ _ => wts_nil) (fun _ _ _ _ _ => we_var (i := 9) rfl (.inl rfl)))) (wb_cons (ws_set (i := 4) nd rfl (.inl rfl) (we_call (ok_p_in_blocks T) (hr.mono (by decide)) hgd (by rfl) T.m_p_in_blocks T.F_p_in_blocks.kp T.b_p_in_blocks (wa_cons (we_var (i := 0) rfl (.inr (.inl rfl))) (wa_cons (we_op op_addD z_add (we_var (i := 3) rfl (.inr (.inl rfl))) (we_lc (m := false) (t := (.nm 9)) (own := [("work", 9)]) rfl nd (wi_range1 (by rfl) T.n_range (wa_cons (we_callX z_len (fun h => pe_callB (CallR.or call_len_seq call_len_str) (by rfl) T.n_len bb_len h) (wa_cons (we_ix (we_var (i := 0) rfl (.inr (.inl rfl))) (we_int)) (wa_nil))) (wa_nil))) (blkOk_by (own := [("work", 9)]) (N := N_p_even) (by kernel_rfl)) (by simp [Tg.ix]) (fun _ _ _ _ _ => pg_name (i := 9) nd rfl (.inl rfl)) (fun _ _ _ _ _ => wts_one (wt_cmp (op_notInB hr.units) z_inB (we_var (i := 9) rfl (.inl rfl)) (we_var (i := 3) rfl (.inr (.inl rfl))) (by rfl))) (fun _ _ _ _ _ => we_var (i := 9) rfl (.inl rfl)))) (wa_nil))))) (wb_cons (ws_set (i := 5) nd rfl (.inr rfl) (we_lc (m := false) (t := (.nm 7)) (own := [("place", 7)]) rfl nd (wi_seq (we_var (i := 2) rfl (.inr (.inl rfl)))) (blkOk_by (own := [("place", 7)]) (N := N_p_even) (by kernel_rfl)) (by simp [Tg.ix]) (fun _ _ _ _ _ => pg_name (i := 7) nd rfl (.inl rfl)) (fun _ _ _ _ _ => wts_nil) (fun _ _ _ _ _ => we_ix (we_ix (we_var (i := 0) rfl (.inr (.inl rfl))) (we_int)) (we_var (i := 7) rfl (.inl rfl))))) (wb_cons (ws_setLc (m := false) (t := (.nm 7)) (i := 6) (own := [("place", 7)]) rfl nd rfl rfl (sw_true rfl rfl rfl (by decide +kernel)) (wi_range1 (by rfl) T.n_range (wa_cons (we_callX z_len (fun h => pe_callB (CallR.or call_len_seq call_len_str) (by rfl) T.n_len bb_len h) (wa_cons (we_ix (we_var (i := 0) rfl (.inr (.inl rfl))) (we_int)) (wa_nil))) (wa_nil))) (blkOk_by (own := [("place", 7)]) (N := N_p_even) (by kernel_rfl)) (by simp [Tg.ix]) (fun _ _ _ _ _ => pg_name (i := 7) nd rfl (.inl rfl)) (fun _ _ _ _ _ => wts_one (wt_cmp (op_notInB hr.units) z_inB (we_var (i := 7) rfl (.inl rfl)) (we_var (i := 2) rfl (.inr (.inl rfl))) (by rfl))) (fun _ _ _ _ _ => we_var (i := 7) rfl (.inl rfl))) (wb_one (ws_ret (we_tup (wa_cons (we_var (i := 4) rfl (.inl rfl)) (wa_cons (we_callX z_tuple (fun h => pe_callTy call_tupleX (by rfl) T.n_tuple bb_tuple h) (wa_cons (we_lc (m := false) (t := (.nm 7)) (own := [("place", 7)]) rfl nd (wi_seq (we_var (i := 6) rfl (.inl rfl))) (blkOk_by (own := [("place", 7)]) (N := N_p_even) (by kernel_rfl)) (by simp [Tg.ix]) (fun _ _ _ _ _ => pg_name (i := 7) nd rfl (.inl rfl)) (fun _ _ _ _ _ => wts_nil) (fun _ _ _ _ _ => we_tup (wa_cons (we_var (i := 7) rfl (.inl rfl)) (wa_cons (we_call (ok_p_full_day T) (hr.mono (by decide)) hgd (by rfl) T.m_p_full_day T.F_p_full_day.kp T.b_p_full_day (wa_cons (we_var (i := 0) rfl (.inr (.inl rfl))) (wa_cons (we_var (i := 5) rfl (.inr (.inl rfl))) (wa_cons (we_var (i := 7) rfl (.inl rfl)) (wa_nil))))) (wa_nil))))) (wa_nil))) (wa_nil))))))))))))))
theorem ok_f_law_told (T : Txt K mg) : FnG P w K mg base CX0 6 T.a_f_law_told T.d_f_law_told ["_law_system"] (spOf K S_f_law_told) := by
  refine fn_ok T.F_f_law_told sc_f_law_told rfl (fun cdv A outer s H E hr hgd => ?_) vc_f_law_told
  have nd := sc_f_law_told.nd
  exact wb_cons (ws_set (i := 1) nd rfl (.inl rfl) (we_non)) (wb_cons (ws_try rfl rfl tk_no (fun R pn xe tk hp => wb_one (ws_set (i := 1) nd rfl (.inl rfl) (we_tup (wa_cons (we_str) (wa_cons (we_callR tk (okx_p_even T) (hr.mono (by decide)) hgd (by rfl) T.m_p_even T.F_p_even.kp T.b_p_even (wa_cons (we_var (i := 0) rfl (.inl rfl)) (wa_nil))) (wa_nil)))))) (.consA (x := "WishError") (i := 2) rfl rfl nd rfl rfl ⟨by rfl, by decide, .inl T.mC_WishError⟩ (exm_WishError T) (fun a oe cls d e pn hz hf xr => by dsimp only; exact wb_cons (ws_set (i := 1) nd rfl (.inl rfl) (we_tup (wa_cons (we_str) (wa_cons (we_non) (wa_nil))))) (wb_one (ws_if (wt_val (we_callE (okH_f_law_is_kind T) ((roomS hr).mono (by decide)) hgd hz hf xr (by rfl) T.m_f_law_is_kind T.F_f_law_is_kind.kp T.b_f_law_is_kind (wa_cons (we_var (i := 2) rfl (.inl rfl)) (wa_cons (we_int) (wa_nil))))) (wb_one (ws_set (i := 1) nd rfl (.inl rfl) (we_tup (wa_cons (we_str) (wa_cons (we_non) (wa_nil)))))) (wb_one (ws_if (wt_val (we_callE (okH_f_law_is_kind T) ((roomS hr).mono (by decide)) hgd hz hf xr (by rfl) T.m_f_law_is_kind T.F_f_law_is_kind.kp T.b_f_law_is_kind (wa_cons (we_var (i := 2) rfl (.inl rfl)) (wa_cons (we_int) (wa_nil))))) (wb_one (ws_set (i := 1) nd rfl (.inl rfl) (we_tup (wa_cons (we_str) (wa_cons (we_exf T.aC_NoRoom T.xf_NoRoom T.no_NoRoom_work hz hf xr (we_var (i := 2) rfl (.inl rfl))) (wa_nil)))))) (wb_nil)))))) .nil)) (wb_one (ws_ret (we_var (i := 1) rfl (.inl rfl)))))
theorem ok_p_law (T : Txt K mg) : FnG P w K mg base CX0 7 T.a_p_law T.d_p_law ["_law_script"] (spOf K S_p_law) := by
  refine fn_ok T.F_p_law sc_p_law rfl (fun cdv A outer s H E hr hgd => ?_) vc_p_law
  have nd := sc_p_law.nd
  exact wb_cons (ws_set (i := 1) nd rfl (.inl rfl) (we_call (ok_f_law_deck T) (hr.mono (by decide)) hgd (by rfl) T.m_f_law_deck T.F_f_law_deck.kp T.b_f_law_deck (wa_cons (we_var (i := 0) rfl (.inl rfl)) (wa_nil)))) (wb_cons (ws_for PassesOwn.never rfl (wi_range1 (by rfl) T.n_range (wa_cons (we_int) (wa_nil))) (wg_name (i := 2) nd rfl (.inl rfl)) (wb_cons (ws_set (i := 3) nd rfl (.inl rfl) (we_call (ok_f_law_even T) (hr.mono (by decide)) hgd (by rfl) T.m_f_law_even T.F_f_law_even.kp T.b_f_law_even (wa_cons (we_var (i := 1) rfl (.inl rfl)) (wa_cons (we_int) (wa_cons (we_int) (wa_cons (we_int) (wa_cons (we_int) (wa_nil)))))))) (wb_cons (ws_asg (we_call (ok_f_law_told T) (hr.mono (by decide)) hgd (by rfl) T.m_f_law_told T.F_f_law_told.kp T.b_f_law_told (wa_cons (we_var (i := 3) rfl (.inl rfl)) (wa_nil))) (wg_tup rfl (wgs_cons (wg_name (i := 4) nd rfl (.inl rfl)) (wgs_cons (wg_name (i := 5) nd rfl (.inl rfl)) (wgs_nil))))) (wb_cons (ws_if (wt_not (wt_val (we_call (ok_f_law_same T) (hr.mono (by decide)) hgd (by rfl) T.m_f_law_same T.F_f_law_same.kp T.b_f_law_same (wa_cons (we_call (ok_f_law_told T) (hr.mono (by decide)) hgd (by rfl) T.m_f_law_told T.F_f_law_told.kp T.b_f_law_told (wa_cons (we_var (i := 3) rfl (.inl rfl)) (wa_nil))) (wa_cons (we_tup (wa_cons (we_var (i := 4) rfl (.inl rfl)) (wa_cons (we_var (i := 5) rfl (.inl rfl)) (wa_nil)))) (wa_nil)))))) (wb_one (ws_ret (we_bl))) (wb_nil)) (wb_cons (ws_set (i := 6) nd rfl (.inl rfl) (we_callX z_len (fun h => pe_callB (CallR.or call_len_seq call_len_str) (by rfl) T.n_len bb_len h) (wa_cons (we_ix (we_var (i := 3) rfl (.inl rfl)) (we_int)) (wa_nil)))) (wb_cons (ws_if (wt_cmp (op_neC hr.units) z_eqB (we_ix (we_var (i := 3) rfl (.inl rfl)) (we_int)) (we_tup (wa_nil)) ((nomark _))) (wb_one (ws_set (i := 6) nd rfl (.inl rfl) (we_call (ok_f_law_room T) (hr.mono (by decide)) hgd (by rfl) T.m_f_law_room T.F_f_law_room.kp T.b_f_law_room (wa_cons (we_var (i := 3) rfl (.inl rfl)) (wa_cons (we_ix (we_var (i := 3) rfl (.inl rfl)) (we_int)) (wa_nil)))))) (wb_nil)) (wb_cons (ws_if (wt_cmp (op_gtD hr.units0) z_gt (we_callX z_len (fun h => pe_callB (CallR.or call_len_seq call_len_str) (by rfl) T.n_len bb_len h) (wa_cons (we_ix (we_var (i := 3) rfl (.inl rfl)) (we_int)) (wa_nil))) (we_var (i := 6) rfl (.inl rfl)) ((nomark _))) (wb_one (ws_if (wt_not (wt_val (we_call (ok_f_law_same T) (hr.mono (by decide)) hgd (by rfl) T.m_f_law_same T.F_f_law_same.kp T.b_f_law_same (wa_cons (we_tup (wa_cons (we_var (i := 4) rfl (.inl rfl)) (wa_cons (we_var (i := 5) rfl (.inl rfl)) (wa_nil)))) (wa_cons (we_tup (wa_cons (we_str) (wa_cons (we_var (i := 6) rfl (.inl rfl)) (wa_nil)))) (wa_nil)))))) (wb_one (ws_ret (we_bl))) (wb_nil))) (wb_one (ws_if ((ww_or (wt_cmp (op_neC hr.units) z_eqB (we_var (i := 4) rfl (.inl rfl)) (we_str) ((nomark _))) (ww_or1 (wt_not (wt_val (we_call (ok_f_law_is_paper T) (hr.mono (by decide)) hgd (by rfl) T.m_f_law_is_paper T.F_f_law_is_paper.kp T.b_f_law_is_paper (wa_cons (we_var (i := 3) rfl (.inl rfl)) (wa_cons (we_var (i := 5) rfl (.inl rfl)) (wa_nil)))))))).wt) (wb_one (ws_ret (we_bl))) (wb_nil)))) (wb_one (ws_if (wt_not (wt_val (we_call (ok_f_law_same T) (hr.mono (by decide)) hgd (by rfl) T.m_f_law_same T.F_f_law_same.kp T.b_f_law_same (wa_cons (we_call (ok_f_law_told T) (hr.mono (by decide)) hgd (by rfl) T.m_f_law_told T.F_f_law_told.kp T.b_f_law_told (wa_cons (we_call (ok_f_law_uneven T) (hr.mono (by decide)) hgd (by rfl) T.m_f_law_uneven T.F_f_law_uneven.kp T.b_f_law_uneven (wa_cons (we_var (i := 1) rfl (.inl rfl)) (wa_cons (we_var (i := 3) rfl (.inl rfl)) (wa_nil)))) (wa_nil))) (wa_cons (we_tup (wa_cons (we_str) (wa_cons (we_non) (wa_nil)))) (wa_nil)))))) (wb_one (ws_ret (we_bl))) (wb_nil)))))))))) (wb_one (ws_ret (we_bl))))
end
theorem all_mk {l : PySem.W.OpenLaw} {w : World} {K : PySem.W.Frag} {h : Heap} {mg : Str → Option Value} {fa : Addr} (X : K.In h) (G : h.Ns mainGlobals mg) (hfa : mg "law" = some (.ref fa))
    {C_WishError : Addr}
    {C_TooMany : Addr}
    {C_NotEven : Addr}
    {C_NoText : Addr}
    {C_NoRoom : Addr}
    {C_NoPlan : Addr}
    {C_NoDeed : Addr}
    {f0 : Addr} {od0 an0 : Option Addr} {sl0 : Array (Option Value)} {oc0 kV0 dc0 pm0 cd0 ct0 : Value}
    {f1 : Addr} {od1 an1 : Option Addr} {sl1 : Array (Option Value)} {oc1 kV1 dc1 pm1 cd1 ct1 : Value}
    {f2 : Addr} {od2 an2 : Option Addr} {sl2 : Array (Option Value)} {oc2 kV2 dc2 pm2 cd2 ct2 : Value}
    {f3 : Addr} {od3 an3 : Option Addr} {sl3 : Array (Option Value)} {oc3 kV3 dc3 pm3 cd3 ct3 : Value}
    {f4 : Addr} {od4 an4 : Option Addr} {sl4 : Array (Option Value)} {oc4 kV4 dc4 pm4 cd4 ct4 : Value}
    {f5 : Addr} {od5 an5 : Option Addr} {sl5 : Array (Option Value)} {oc5 kV5 dc5 pm5 cd5 ct5 : Value}
    {f6 : Addr} {od6 an6 : Option Addr} {sl6 : Array (Option Value)} {oc6 kV6 dc6 pm6 cd6 ct6 : Value}
    {f7 : Addr} {od7 an7 : Option Addr} {sl7 : Array (Option Value)} {oc7 kV7 dc7 pm7 cd7 ct7 : Value}
    {f8 : Addr} {od8 an8 : Option Addr} {sl8 : Array (Option Value)} {oc8 kV8 dc8 pm8 cd8 ct8 : Value}
    {f9 : Addr} {od9 an9 : Option Addr} {sl9 : Array (Option Value)} {oc9 kV9 dc9 pm9 cd9 ct9 : Value}
    {f10 : Addr} {od10 an10 : Option Addr} {sl10 : Array (Option Value)} {oc10 kV10 dc10 pm10 cd10 ct10 : Value}
    {f11 : Addr} {od11 an11 : Option Addr} {sl11 : Array (Option Value)} {oc11 kV11 dc11 pm11 cd11 ct11 : Value}
    {f12 : Addr} {od12 an12 : Option Addr} {sl12 : Array (Option Value)} {oc12 kV12 dc12 pm12 cd12 ct12 : Value}
    {f13 : Addr} {od13 an13 : Option Addr} {sl13 : Array (Option Value)} {oc13 kV13 dc13 pm13 cd13 ct13 : Value}
    {f14 : Addr} {od14 an14 : Option Addr} {sl14 : Array (Option Value)} {oc14 kV14 dc14 pm14 cd14 ct14 : Value}
    {f15 : Addr} {od15 an15 : Option Addr} {sl15 : Array (Option Value)} {oc15 kV15 dc15 pm15 cd15 ct15 : Value}
    {f16 : Addr} {od16 an16 : Option Addr} {sl16 : Array (Option Value)} {oc16 kV16 dc16 pm16 cd16 ct16 : Value}
    {f17 : Addr} {od17 an17 : Option Addr} {sl17 : Array (Option Value)} {oc17 kV17 dc17 pm17 cd17 ct17 : Value}
    {f18 : Addr} {od18 an18 : Option Addr} {sl18 : Array (Option Value)} {oc18 kV18 dc18 pm18 cd18 ct18 : Value}
    {f19 : Addr} {od19 an19 : Option Addr} {sl19 : Array (Option Value)} {oc19 kV19 dc19 pm19 cd19 ct19 : Value}
    {f20 : Addr} {od20 an20 : Option Addr} {sl20 : Array (Option Value)} {oc20 kV20 dc20 pm20 cd20 ct20 : Value}
    {f21 : Addr} {od21 an21 : Option Addr} {sl21 : Array (Option Value)} {oc21 kV21 dc21 pm21 cd21 ct21 : Value}
    {f22 : Addr} {od22 an22 : Option Addr} {sl22 : Array (Option Value)} {oc22 kV22 dc22 pm22 cd22 ct22 : Value}
    {f23 : Addr} {od23 an23 : Option Addr} {sl23 : Array (Option Value)} {oc23 kV23 dc23 pm23 cd23 ct23 : Value}
    {f24 : Addr} {od24 an24 : Option Addr} {sl24 : Array (Option Value)} {oc24 kV24 dc24 pm24 cd24 ct24 : Value}
    {f25 : Addr} {od25 an25 : Option Addr} {sl25 : Array (Option Value)} {oc25 kV25 dc25 pm25 cd25 ct25 : Value}
    {f26 : Addr} {od26 an26 : Option Addr} {sl26 : Array (Option Value)} {oc26 kV26 dc26 pm26 cd26 ct26 : Value}
    {f27 : Addr} {od27 an27 : Option Addr} {sl27 : Array (Option Value)} {oc27 kV27 dc27 pm27 cd27 ct27 : Value}
    {f28 : Addr} {od28 an28 : Option Addr} {sl28 : Array (Option Value)} {oc28 kV28 dc28 pm28 cd28 ct28 : Value}
    {f29 : Addr} {od29 an29 : Option Addr} {sl29 : Array (Option Value)} {oc29 kV29 dc29 pm29 cd29 ct29 : Value}
    {f30 : Addr} {od30 an30 : Option Addr} {sl30 : Array (Option Value)} {oc30 kV30 dc30 pm30 cd30 ct30 : Value}
    {f31 : Addr} {od31 an31 : Option Addr} {sl31 : Array (Option Value)} {oc31 kV31 dc31 pm31 cd31 ct31 : Value}
    {fI_NoRoom : Addr} {odI_NoRoom anI_NoRoom : Option Addr} {slI_NoRoom : Array (Option Value)} {ocI_NoRoom kVI_NoRoom dcI_NoRoom pmI_NoRoom cdI_NoRoom ctI_NoRoom : Value}
    {nm_NoRoom : Str} {q_NoRoom : Str} {N_NoRoom : Addr} {bs_NoRoom : List Value} {bm_NoRoom : List Value} {sn_NoRoom : List Str} {sub_NoRoom : List Value} {ab_NoRoom : Bool} {col_NoRoom : Option Bool} {dd_NoRoom : Option Addr} {k0_NoRoom : Option Value} {k1_NoRoom : Option Value} {k2_NoRoom : Option Value} {k3_NoRoom : Option Value} {k5_NoRoom : Option Value}
    (aC_NoDeed : PySem.W.nsIn K mainGlobals "NoDeed" = some (some (.ref C_NoDeed)))
    (em_NoDeed_WishError : PySem.W.exmOne K (.ref C_NoDeed) (.ref C_WishError) = some true)
    (aC_NoPlan : PySem.W.nsIn K mainGlobals "NoPlan" = some (some (.ref C_NoPlan)))
    (em_NoPlan_WishError : PySem.W.exmOne K (.ref C_NoPlan) (.ref C_WishError) = some true)
    (aC_NoRoom : PySem.W.nsIn K mainGlobals "NoRoom" = some (some (.ref C_NoRoom)))
    (kE_NoRoom : PySem.W.keepIn K (.ref C_NoRoom) = true) (sE_NoRoom : PySem.W.subIn K (.ref C_NoRoom) (.type "BaseException") = some true) (tE_NoRoom : PySem.W.typeIn K (.ref C_NoRoom) = some (.type "type"))
    (xL_NoRoom : K.lookup C_NoRoom = some (PySem.excClassObj nm_NoRoom q_NoRoom C_NoRoom N_NoRoom bs_NoRoom bm_NoRoom true sn_NoRoom sub_NoRoom ab_NoRoom col_NoRoom dd_NoRoom k0_NoRoom k1_NoRoom k2_NoRoom k3_NoRoom k5_NoRoom "ValueError.__new__")) (xV_NoRoom : PySem.HandSPX.refsVE bm_NoRoom = true) (xS_NoRoom : PySem.W.findIn K (.ref C_NoRoom) "__setattr__" = some (some (.builtin "object.__setattr__")))
    (xI_NoRoom : PySem.W.findIn K (.ref C_NoRoom) "__init__" = some (some (.ref fI_NoRoom))) (xT_NoRoom : PySem.W.typeIn K (.ref fI_NoRoom) = some (.type "function")) (xN_NoRoom : PySem.W.findIn K (.ref C_NoRoom) "work" = some none)
    (xF_NoRoom : K.lookup fI_NoRoom = some ⟨ocI_NoRoom, odI_NoRoom, .func (PySem.W.fnOf "__init__" "NoRoom.__init__" (defArgs (inClass (topS 4) 0)) (defBody (inClass (topS 4) 0)) (defScope (inClass (topS 4) 0)) .none kVI_NoRoom dcI_NoRoom pmI_NoRoom anI_NoRoom cdI_NoRoom ctI_NoRoom), slI_NoRoom⟩) (xC_NoRoom : PySem.W.codeIn K cdI_NoRoom "NoRoom.__init__" = true) (xK_NoRoom : PySem.W.keepIn K (.ref fI_NoRoom) = true)
    (em_NoRoom_WishError : PySem.W.exmOne K (.ref C_NoRoom) (.ref C_WishError) = some true)
    (aC_NoText : PySem.W.nsIn K mainGlobals "NoText" = some (some (.ref C_NoText)))
    (em_NoText_WishError : PySem.W.exmOne K (.ref C_NoText) (.ref C_WishError) = some true)
    (aC_NotEven : PySem.W.nsIn K mainGlobals "NotEven" = some (some (.ref C_NotEven)))
    (kE_NotEven : PySem.W.keepIn K (.ref C_NotEven) = true) (sE_NotEven : PySem.W.subIn K (.ref C_NotEven) (.type "BaseException") = some true) (tE_NotEven : PySem.W.typeIn K (.ref C_NotEven) = some (.type "type"))
    (qE_NotEven : PySem.W.excIn K C_NotEven [.type "ValueError", .type "Exception", .type "BaseException", .type "object"] "ValueError.__new__" = true)
    (em_NotEven_WishError : PySem.W.exmOne K (.ref C_NotEven) (.ref C_WishError) = some true)
    (aC_TooMany : PySem.W.nsIn K mainGlobals "TooMany" = some (some (.ref C_TooMany)))
    (em_TooMany_WishError : PySem.W.exmOne K (.ref C_TooMany) (.ref C_WishError) = some true)
    (aC_WishError : PySem.W.nsIn K mainGlobals "WishError" = some (some (.ref C_WishError)))
    (vS : PySem.W.specialIn K (.builtin "object.__class__") "__get__" = some (some (.builtin "getset_descriptor.__get__"))) (vT : PySem.W.takesIn K (.builtin "object.__class__") = some true)
    (vg_NoDeed : PySem.W.findIn K (.ref C_NoDeed) "__getattribute__" = some (some (.builtin "BaseException.__getattribute__"))) (vh_NoDeed : PySem.W.findIn K (.ref C_NoDeed) "__getattr__" = some none) (ve_NoDeed : PySem.W.subIn K (.ref C_NoDeed) (.type "BaseException") = some true) (vd_NoDeed : PySem.W.hasDictIn K C_NoDeed = true) (va_NoDeed : PySem.W.findIn K (.ref C_NoDeed) "__class__" = some (some (.builtin "object.__class__"))) (vm_NoDeed : PySem.W.mroIn K C_NoDeed (.type "object") = some true)
    (ki_NoDeed_NoDeed : PySem.W.kitOne K (.ref C_NoDeed) (.ref C_NoDeed) = some true)
    (ki_NoDeed_NoPlan : PySem.W.kitOne K (.ref C_NoDeed) (.ref C_NoPlan) = some false)
    (ki_NoDeed_NoRoom : PySem.W.kitOne K (.ref C_NoDeed) (.ref C_NoRoom) = some false)
    (ki_NoDeed_NoText : PySem.W.kitOne K (.ref C_NoDeed) (.ref C_NoText) = some false)
    (ki_NoDeed_NotEven : PySem.W.kitOne K (.ref C_NoDeed) (.ref C_NotEven) = some false)
    (ki_NoDeed_TooMany : PySem.W.kitOne K (.ref C_NoDeed) (.ref C_TooMany) = some false)
    (ki_NoDeed_WishError : PySem.W.kitOne K (.ref C_NoDeed) (.ref C_WishError) = some true)
    (ki_NoDeed_ValueError : PySem.W.kitOne K (.ref C_NoDeed) (.type "ValueError") = some true)
    (vg_NoPlan : PySem.W.findIn K (.ref C_NoPlan) "__getattribute__" = some (some (.builtin "BaseException.__getattribute__"))) (vh_NoPlan : PySem.W.findIn K (.ref C_NoPlan) "__getattr__" = some none) (ve_NoPlan : PySem.W.subIn K (.ref C_NoPlan) (.type "BaseException") = some true) (vd_NoPlan : PySem.W.hasDictIn K C_NoPlan = true) (va_NoPlan : PySem.W.findIn K (.ref C_NoPlan) "__class__" = some (some (.builtin "object.__class__"))) (vm_NoPlan : PySem.W.mroIn K C_NoPlan (.type "object") = some true)
    (ki_NoPlan_NoDeed : PySem.W.kitOne K (.ref C_NoPlan) (.ref C_NoDeed) = some false)
    (ki_NoPlan_NoPlan : PySem.W.kitOne K (.ref C_NoPlan) (.ref C_NoPlan) = some true)
    (ki_NoPlan_NoRoom : PySem.W.kitOne K (.ref C_NoPlan) (.ref C_NoRoom) = some false)
    (ki_NoPlan_NoText : PySem.W.kitOne K (.ref C_NoPlan) (.ref C_NoText) = some false)
    (ki_NoPlan_NotEven : PySem.W.kitOne K (.ref C_NoPlan) (.ref C_NotEven) = some false)
    (ki_NoPlan_TooMany : PySem.W.kitOne K (.ref C_NoPlan) (.ref C_TooMany) = some false)
    (ki_NoPlan_WishError : PySem.W.kitOne K (.ref C_NoPlan) (.ref C_WishError) = some true)
    (ki_NoPlan_ValueError : PySem.W.kitOne K (.ref C_NoPlan) (.type "ValueError") = some true)
    (vg_NoRoom : PySem.W.findIn K (.ref C_NoRoom) "__getattribute__" = some (some (.builtin "BaseException.__getattribute__"))) (vh_NoRoom : PySem.W.findIn K (.ref C_NoRoom) "__getattr__" = some none) (ve_NoRoom : PySem.W.subIn K (.ref C_NoRoom) (.type "BaseException") = some true) (vd_NoRoom : PySem.W.hasDictIn K C_NoRoom = true) (va_NoRoom : PySem.W.findIn K (.ref C_NoRoom) "__class__" = some (some (.builtin "object.__class__"))) (vm_NoRoom : PySem.W.mroIn K C_NoRoom (.type "object") = some true)
    (ki_NoRoom_NoDeed : PySem.W.kitOne K (.ref C_NoRoom) (.ref C_NoDeed) = some false)
    (ki_NoRoom_NoPlan : PySem.W.kitOne K (.ref C_NoRoom) (.ref C_NoPlan) = some false)
    (ki_NoRoom_NoRoom : PySem.W.kitOne K (.ref C_NoRoom) (.ref C_NoRoom) = some true)
    (ki_NoRoom_NoText : PySem.W.kitOne K (.ref C_NoRoom) (.ref C_NoText) = some false)
    (ki_NoRoom_NotEven : PySem.W.kitOne K (.ref C_NoRoom) (.ref C_NotEven) = some false)
    (ki_NoRoom_TooMany : PySem.W.kitOne K (.ref C_NoRoom) (.ref C_TooMany) = some false)
    (ki_NoRoom_WishError : PySem.W.kitOne K (.ref C_NoRoom) (.ref C_WishError) = some true)
    (ki_NoRoom_ValueError : PySem.W.kitOne K (.ref C_NoRoom) (.type "ValueError") = some true)
    (vg_NoText : PySem.W.findIn K (.ref C_NoText) "__getattribute__" = some (some (.builtin "BaseException.__getattribute__"))) (vh_NoText : PySem.W.findIn K (.ref C_NoText) "__getattr__" = some none) (ve_NoText : PySem.W.subIn K (.ref C_NoText) (.type "BaseException") = some true) (vd_NoText : PySem.W.hasDictIn K C_NoText = true) (va_NoText : PySem.W.findIn K (.ref C_NoText) "__class__" = some (some (.builtin "object.__class__"))) (vm_NoText : PySem.W.mroIn K C_NoText (.type "object") = some true)
    (ki_NoText_NoDeed : PySem.W.kitOne K (.ref C_NoText) (.ref C_NoDeed) = some false)
    (ki_NoText_NoPlan : PySem.W.kitOne K (.ref C_NoText) (.ref C_NoPlan) = some false)
    (ki_NoText_NoRoom : PySem.W.kitOne K (.ref C_NoText) (.ref C_NoRoom) = some false)
    (ki_NoText_NoText : PySem.W.kitOne K (.ref C_NoText) (.ref C_NoText) = some true)
    (ki_NoText_NotEven : PySem.W.kitOne K (.ref C_NoText) (.ref C_NotEven) = some false)
    (ki_NoText_TooMany : PySem.W.kitOne K (.ref C_NoText) (.ref C_TooMany) = some false)
    (ki_NoText_WishError : PySem.W.kitOne K (.ref C_NoText) (.ref C_WishError) = some true)
    (ki_NoText_ValueError : PySem.W.kitOne K (.ref C_NoText) (.type "ValueError") = some true)
    (vg_NotEven : PySem.W.findIn K (.ref C_NotEven) "__getattribute__" = some (some (.builtin "BaseException.__getattribute__"))) (vh_NotEven : PySem.W.findIn K (.ref C_NotEven) "__getattr__" = some none) (ve_NotEven : PySem.W.subIn K (.ref C_NotEven) (.type "BaseException") = some true) (vd_NotEven : PySem.W.hasDictIn K C_NotEven = true) (va_NotEven : PySem.W.findIn K (.ref C_NotEven) "__class__" = some (some (.builtin "object.__class__"))) (vm_NotEven : PySem.W.mroIn K C_NotEven (.type "object") = some true)
    (ki_NotEven_NoDeed : PySem.W.kitOne K (.ref C_NotEven) (.ref C_NoDeed) = some false)
    (ki_NotEven_NoPlan : PySem.W.kitOne K (.ref C_NotEven) (.ref C_NoPlan) = some false)
    (ki_NotEven_NoRoom : PySem.W.kitOne K (.ref C_NotEven) (.ref C_NoRoom) = some false)
    (ki_NotEven_NoText : PySem.W.kitOne K (.ref C_NotEven) (.ref C_NoText) = some false)
    (ki_NotEven_NotEven : PySem.W.kitOne K (.ref C_NotEven) (.ref C_NotEven) = some true)
    (ki_NotEven_TooMany : PySem.W.kitOne K (.ref C_NotEven) (.ref C_TooMany) = some false)
    (ki_NotEven_WishError : PySem.W.kitOne K (.ref C_NotEven) (.ref C_WishError) = some true)
    (ki_NotEven_ValueError : PySem.W.kitOne K (.ref C_NotEven) (.type "ValueError") = some true)
    (vg_TooMany : PySem.W.findIn K (.ref C_TooMany) "__getattribute__" = some (some (.builtin "BaseException.__getattribute__"))) (vh_TooMany : PySem.W.findIn K (.ref C_TooMany) "__getattr__" = some none) (ve_TooMany : PySem.W.subIn K (.ref C_TooMany) (.type "BaseException") = some true) (vd_TooMany : PySem.W.hasDictIn K C_TooMany = true) (va_TooMany : PySem.W.findIn K (.ref C_TooMany) "__class__" = some (some (.builtin "object.__class__"))) (vm_TooMany : PySem.W.mroIn K C_TooMany (.type "object") = some true)
    (ki_TooMany_NoDeed : PySem.W.kitOne K (.ref C_TooMany) (.ref C_NoDeed) = some false)
    (ki_TooMany_NoPlan : PySem.W.kitOne K (.ref C_TooMany) (.ref C_NoPlan) = some false)
    (ki_TooMany_NoRoom : PySem.W.kitOne K (.ref C_TooMany) (.ref C_NoRoom) = some false)
    (ki_TooMany_NoText : PySem.W.kitOne K (.ref C_TooMany) (.ref C_NoText) = some false)
    (ki_TooMany_NotEven : PySem.W.kitOne K (.ref C_TooMany) (.ref C_NotEven) = some false)
    (ki_TooMany_TooMany : PySem.W.kitOne K (.ref C_TooMany) (.ref C_TooMany) = some true)
    (ki_TooMany_WishError : PySem.W.kitOne K (.ref C_TooMany) (.ref C_WishError) = some true)
    (ki_TooMany_ValueError : PySem.W.kitOne K (.ref C_TooMany) (.type "ValueError") = some true)
    (kt_NoDeed : PySem.W.kitOne K (.type "tuple") (.ref C_NoDeed) = some false) (kn_NoDeed : PySem.W.kitOne K (.type "int") (.ref C_NoDeed) = some false)
    (kt_NoPlan : PySem.W.kitOne K (.type "tuple") (.ref C_NoPlan) = some false) (kn_NoPlan : PySem.W.kitOne K (.type "int") (.ref C_NoPlan) = some false)
    (kt_NoRoom : PySem.W.kitOne K (.type "tuple") (.ref C_NoRoom) = some false) (kn_NoRoom : PySem.W.kitOne K (.type "int") (.ref C_NoRoom) = some false)
    (kt_NoText : PySem.W.kitOne K (.type "tuple") (.ref C_NoText) = some false) (kn_NoText : PySem.W.kitOne K (.type "int") (.ref C_NoText) = some false)
    (kt_NotEven : PySem.W.kitOne K (.type "tuple") (.ref C_NotEven) = some false) (kn_NotEven : PySem.W.kitOne K (.type "int") (.ref C_NotEven) = some false)
    (kt_TooMany : PySem.W.kitOne K (.type "tuple") (.ref C_TooMany) = some false) (kn_TooMany : PySem.W.kitOne K (.type "int") (.ref C_TooMany) = some false)
    (kt_WishError : PySem.W.kitOne K (.type "tuple") (.ref C_WishError) = some false) (kn_WishError : PySem.W.kitOne K (.type "int") (.ref C_WishError) = some false)
    (xg_NoRoom : PySem.W.findIn K (.ref C_NoRoom) "__getattribute__" = some (some (.builtin "BaseException.__getattribute__"))) (xh_NoRoom : PySem.W.findIn K (.ref C_NoRoom) "__getattr__" = some none) (xe_NoRoom : PySem.W.subIn K (.ref C_NoRoom) (.type "BaseException") = some true) (xd_NoRoom : PySem.W.hasDictIn K C_NoRoom = true) (xn_NoRoom_work : PySem.W.findIn K (.ref C_NoRoom) "work" = some none)
    (a0 : PySem.W.nsIn K mainGlobals "is_number" = some (some (.ref f0))) (l0 : K.lookup f0 = some ⟨oc0, od0, .func (PySem.W.fnOf "is_number" "is_number" (defArgs s_p_is_number) (defBody s_p_is_number) (defScope s_p_is_number) .none kV0 dc0 pm0 an0 cd0 ct0), sl0⟩) (c0 : PySem.W.codeIn K cd0 "is_number" = true) (k0 : PySem.W.keepIn K (.ref f0) = true)
    (a1 : PySem.W.nsIn K mainGlobals "is_even" = some (some (.ref f1))) (l1 : K.lookup f1 = some ⟨oc1, od1, .func (PySem.W.fnOf "is_even" "is_even" (defArgs s_p_is_even) (defBody s_p_is_even) (defScope s_p_is_even) .none kV1 dc1 pm1 an1 cd1 ct1), sl1⟩) (c1 : PySem.W.codeIn K cd1 "is_even" = true) (k1 : PySem.W.keepIn K (.ref f1) = true)
    (a2 : PySem.W.nsIn K mainGlobals "room_up_to" = some (some (.ref f2))) (l2 : K.lookup f2 = some ⟨oc2, od2, .func (PySem.W.fnOf "room_up_to" "room_up_to" (defArgs s_p_room_up_to) (defBody s_p_room_up_to) (defScope s_p_room_up_to) .none kV2 dc2 pm2 an2 cd2 ct2), sl2⟩) (c2 : PySem.W.codeIn K cd2 "room_up_to" = true) (k2 : PySem.W.keepIn K (.ref f2) = true)
    (a3 : PySem.W.nsIn K mainGlobals "is_no_lower" = some (some (.ref f3))) (l3 : K.lookup f3 = some ⟨oc3, od3, .func (PySem.W.fnOf "is_no_lower" "is_no_lower" (defArgs s_p_is_no_lower) (defBody s_p_is_no_lower) (defScope s_p_is_no_lower) .none kV3 dc3 pm3 an3 cd3 ct3), sl3⟩) (c3 : PySem.W.codeIn K cd3 "is_no_lower" = true) (k3 : PySem.W.keepIn K (.ref f3) = true)
    (a4 : PySem.W.nsIn K mainGlobals "in_blocks" = some (some (.ref f4))) (l4 : K.lookup f4 = some ⟨oc4, od4, .func (PySem.W.fnOf "in_blocks" "in_blocks" (defArgs s_p_in_blocks) (defBody s_p_in_blocks) (defScope s_p_in_blocks) .none kV4 dc4 pm4 an4 cd4 ct4), sl4⟩) (c4 : PySem.W.codeIn K cd4 "in_blocks" = true) (k4 : PySem.W.keepIn K (.ref f4) = true)
    (a5 : PySem.W.nsIn K mainGlobals "_law_deck" = some (some (.ref f5))) (l5 : K.lookup f5 = some ⟨oc5, od5, .func (PySem.W.fnOf "_law_deck" "_law_deck" (defArgs s_f_law_deck) (defBody s_f_law_deck) (defScope s_f_law_deck) .none kV5 dc5 pm5 an5 cd5 ct5), sl5⟩) (c5 : PySem.W.codeIn K cd5 "_law_deck" = true) (k5 : PySem.W.keepIn K (.ref f5) = true)
    (a6 : PySem.W.nsIn K mainGlobals "_law_next" = some (some (.ref f6))) (l6 : K.lookup f6 = some ⟨oc6, od6, .func (PySem.W.fnOf "_law_next" "_law_next" (defArgs s_f_law_next) (defBody s_f_law_next) (defScope s_f_law_next) .none kV6 dc6 pm6 an6 cd6 ct6), sl6⟩) (c6 : PySem.W.codeIn K cd6 "_law_next" = true) (k6 : PySem.W.keepIn K (.ref f6) = true)
    (a7 : PySem.W.nsIn K mainGlobals "_law_put" = some (some (.ref f7))) (l7 : K.lookup f7 = some ⟨oc7, od7, .func (PySem.W.fnOf "_law_put" "_law_put" (defArgs s_f_law_put) (defBody s_f_law_put) (defScope s_f_law_put) .none kV7 dc7 pm7 an7 cd7 ct7), sl7⟩) (c7 : PySem.W.codeIn K cd7 "_law_put" = true) (k7 : PySem.W.keepIn K (.ref f7) = true)
    (a8 : PySem.W.nsIn K mainGlobals "_law_same" = some (some (.ref f8))) (l8 : K.lookup f8 = some ⟨oc8, od8, .func (PySem.W.fnOf "_law_same" "_law_same" (defArgs s_f_law_same) (defBody s_f_law_same) (defScope s_f_law_same) .none kV8 dc8 pm8 an8 cd8 ct8), sl8⟩) (c8 : PySem.W.codeIn K cd8 "_law_same" = true) (k8 : PySem.W.keepIn K (.ref f8) = true)
    (a9 : PySem.W.nsIn K mainGlobals "_law_is_from" = some (some (.ref f9))) (l9 : K.lookup f9 = some ⟨oc9, od9, .func (PySem.W.fnOf "_law_is_from" "_law_is_from" (defArgs s_f_law_is_from) (defBody s_f_law_is_from) (defScope s_f_law_is_from) .none kV9 dc9 pm9 an9 cd9 ct9), sl9⟩) (c9 : PySem.W.codeIn K cd9 "_law_is_from" = true) (k9 : PySem.W.keepIn K (.ref f9) = true)
    (a10 : PySem.W.nsIn K mainGlobals "_law_ways" = some (some (.ref f10))) (l10 : K.lookup f10 = some ⟨oc10, od10, .func (PySem.W.fnOf "_law_ways" "_law_ways" (defArgs s_f_law_ways) (defBody s_f_law_ways) (defScope s_f_law_ways) .none kV10 dc10 pm10 an10 cd10 ct10), sl10⟩) (c10 : PySem.W.codeIn K cd10 "_law_ways" = true) (k10 : PySem.W.keepIn K (.ref f10) = true)
    (a11 : PySem.W.nsIn K mainGlobals "_law_clash" = some (some (.ref f11))) (l11 : K.lookup f11 = some ⟨oc11, od11, .func (PySem.W.fnOf "_law_clash" "_law_clash" (defArgs s_f_law_clash) (defBody s_f_law_clash) (defScope s_f_law_clash) .none kV11 dc11 pm11 an11 cd11 ct11), sl11⟩) (c11 : PySem.W.codeIn K cd11 "_law_clash" = true) (k11 : PySem.W.keepIn K (.ref f11) = true)
    (a12 : PySem.W.nsIn K mainGlobals "_law_kept" = some (some (.ref f12))) (l12 : K.lookup f12 = some ⟨oc12, od12, .func (PySem.W.fnOf "_law_kept" "_law_kept" (defArgs s_f_law_kept) (defBody s_f_law_kept) (defScope s_f_law_kept) .none kV12 dc12 pm12 an12 cd12 ct12), sl12⟩) (c12 : PySem.W.codeIn K cd12 "_law_kept" = true) (k12 : PySem.W.keepIn K (.ref f12) = true)
    (a13 : PySem.W.nsIn K mainGlobals "_law_room" = some (some (.ref f13))) (l13 : K.lookup f13 = some ⟨oc13, od13, .func (PySem.W.fnOf "_law_room" "_law_room" (defArgs s_f_law_room) (defBody s_f_law_room) (defScope s_f_law_room) .none kV13 dc13 pm13 an13 cd13 ct13), sl13⟩) (c13 : PySem.W.codeIn K cd13 "_law_room" = true) (k13 : PySem.W.keepIn K (.ref f13) = true)
    (a14 : PySem.W.nsIn K mainGlobals "_law_is_kind" = some (some (.ref f14))) (l14 : K.lookup f14 = some ⟨oc14, od14, .func (PySem.W.fnOf "_law_is_kind" "_law_is_kind" (defArgs s_f_law_is_kind) (defBody s_f_law_is_kind) (defScope s_f_law_is_kind) .none kV14 dc14 pm14 an14 cd14 ct14), sl14⟩) (c14 : PySem.W.codeIn K cd14 "_law_is_kind" = true) (k14 : PySem.W.keepIn K (.ref f14) = true)
    (a15 : PySem.W.nsIn K mainGlobals "is_from" = some (some (.ref f15))) (l15 : K.lookup f15 = some ⟨oc15, od15, .func (PySem.W.fnOf "is_from" "is_from" (defArgs s_p_is_from) (defBody s_p_is_from) (defScope s_p_is_from) .none kV15 dc15 pm15 an15 cd15 ct15), sl15⟩) (c15 : PySem.W.codeIn K cd15 "is_from" = true) (k15 : PySem.W.keepIn K (.ref f15) = true)
    (a16 : PySem.W.nsIn K mainGlobals "do_fit" = some (some (.ref f16))) (l16 : K.lookup f16 = some ⟨oc16, od16, .func (PySem.W.fnOf "do_fit" "do_fit" (defArgs s_p_do_fit) (defBody s_p_do_fit) (defScope s_p_do_fit) .none kV16 dc16 pm16 an16 cd16 ct16), sl16⟩) (c16 : PySem.W.codeIn K cd16 "do_fit" = true) (k16 : PySem.W.keepIn K (.ref f16) = true)
    (a17 : PySem.W.nsIn K mainGlobals "_law_goes" = some (some (.ref f17))) (l17 : K.lookup f17 = some ⟨oc17, od17, .func (PySem.W.fnOf "_law_goes" "_law_goes" (defArgs s_f_law_goes) (defBody s_f_law_goes) (defScope s_f_law_goes) .none kV17 dc17 pm17 an17 cd17 ct17), sl17⟩) (c17 : PySem.W.codeIn K cd17 "_law_goes" = true) (k17 : PySem.W.keepIn K (.ref f17) = true)
    (a18 : PySem.W.nsIn K mainGlobals "_law_is_way" = some (some (.ref f18))) (l18 : K.lookup f18 = some ⟨oc18, od18, .func (PySem.W.fnOf "_law_is_way" "_law_is_way" (defArgs s_f_law_is_way) (defBody s_f_law_is_way) (defScope s_f_law_is_way) .none kV18 dc18 pm18 an18 cd18 ct18), sl18⟩) (c18 : PySem.W.codeIn K cd18 "_law_is_way" = true) (k18 : PySem.W.keepIn K (.ref f18) = true)
    (a19 : PySem.W.nsIn K mainGlobals "_law_even_wish" = some (some (.ref f19))) (l19 : K.lookup f19 = some ⟨oc19, od19, .func (PySem.W.fnOf "_law_even_wish" "_law_even_wish" (defArgs s_f_law_even_wish) (defBody s_f_law_even_wish) (defScope s_f_law_even_wish) .none kV19 dc19 pm19 an19 cd19 ct19), sl19⟩) (c19 : PySem.W.codeIn K cd19 "_law_even_wish" = true) (k19 : PySem.W.keepIn K (.ref f19) = true)
    (a20 : PySem.W.nsIn K mainGlobals "_law_full_days" = some (some (.ref f20))) (l20 : K.lookup f20 = some ⟨oc20, od20, .func (PySem.W.fnOf "_law_full_days" "_law_full_days" (defArgs s_f_law_full_days) (defBody s_f_law_full_days) (defScope s_f_law_full_days) .none kV20 dc20 pm20 an20 cd20 ct20), sl20⟩) (c20 : PySem.W.codeIn K cd20 "_law_full_days" = true) (k20 : PySem.W.keepIn K (.ref f20) = true)
    (a21 : PySem.W.nsIn K mainGlobals "_law_uneven" = some (some (.ref f21))) (l21 : K.lookup f21 = some ⟨oc21, od21, .func (PySem.W.fnOf "_law_uneven" "_law_uneven" (defArgs s_f_law_uneven) (defBody s_f_law_uneven) (defScope s_f_law_uneven) .none kV21 dc21 pm21 an21 cd21 ct21), sl21⟩) (c21 : PySem.W.codeIn K cd21 "_law_uneven" = true) (k21 : PySem.W.keepIn K (.ref f21) = true)
    (a22 : PySem.W.nsIn K mainGlobals "holds_full" = some (some (.ref f22))) (l22 : K.lookup f22 = some ⟨oc22, od22, .func (PySem.W.fnOf "holds_full" "holds_full" (defArgs s_p_holds_full) (defBody s_p_holds_full) (defScope s_p_holds_full) .none kV22 dc22 pm22 an22 cd22 ct22), sl22⟩) (c22 : PySem.W.codeIn K cd22 "holds_full" = true) (k22 : PySem.W.keepIn K (.ref f22) = true)
    (a23 : PySem.W.nsIn K mainGlobals "taken_wishes" = some (some (.ref f23))) (l23 : K.lookup f23 = some ⟨oc23, od23, .func (PySem.W.fnOf "taken_wishes" "taken_wishes" (defArgs s_p_taken_wishes) (defBody s_p_taken_wishes) (defScope s_p_taken_wishes) .none kV23 dc23 pm23 an23 cd23 ct23), sl23⟩) (c23 : PySem.W.codeIn K cd23 "taken_wishes" = true) (k23 : PySem.W.keepIn K (.ref f23) = true)
    (a24 : PySem.W.nsIn K mainGlobals "_law_is_plan" = some (some (.ref f24))) (l24 : K.lookup f24 = some ⟨oc24, od24, .func (PySem.W.fnOf "_law_is_plan" "_law_is_plan" (defArgs s_f_law_is_plan) (defBody s_f_law_is_plan) (defScope s_f_law_is_plan) .none kV24 dc24 pm24 an24 cd24 ct24), sl24⟩) (c24 : PySem.W.codeIn K cd24 "_law_is_plan" = true) (k24 : PySem.W.keepIn K (.ref f24) = true)
    (a25 : PySem.W.nsIn K mainGlobals "_law_even" = some (some (.ref f25))) (l25 : K.lookup f25 = some ⟨oc25, od25, .func (PySem.W.fnOf "_law_even" "_law_even" (defArgs s_f_law_even) (defBody s_f_law_even) (defScope s_f_law_even) .none kV25 dc25 pm25 an25 cd25 ct25), sl25⟩) (c25 : PySem.W.codeIn K cd25 "_law_even" = true) (k25 : PySem.W.keepIn K (.ref f25) = true)
    (a26 : PySem.W.nsIn K mainGlobals "_law_is_pair" = some (some (.ref f26))) (l26 : K.lookup f26 = some ⟨oc26, od26, .func (PySem.W.fnOf "_law_is_pair" "_law_is_pair" (defArgs s_f_law_is_pair) (defBody s_f_law_is_pair) (defScope s_f_law_is_pair) .none kV26 dc26 pm26 an26 cd26 ct26), sl26⟩) (c26 : PySem.W.codeIn K cd26 "_law_is_pair" = true) (k26 : PySem.W.keepIn K (.ref f26) = true)
    (a27 : PySem.W.nsIn K mainGlobals "full_day" = some (some (.ref f27))) (l27 : K.lookup f27 = some ⟨oc27, od27, .func (PySem.W.fnOf "full_day" "full_day" (defArgs s_p_full_day) (defBody s_p_full_day) (defScope s_p_full_day) .none kV27 dc27 pm27 an27 cd27 ct27), sl27⟩) (c27 : PySem.W.codeIn K cd27 "full_day" = true) (k27 : PySem.W.keepIn K (.ref f27) = true)
    (a28 : PySem.W.nsIn K mainGlobals "_law_is_paper" = some (some (.ref f28))) (l28 : K.lookup f28 = some ⟨oc28, od28, .func (PySem.W.fnOf "_law_is_paper" "_law_is_paper" (defArgs s_f_law_is_paper) (defBody s_f_law_is_paper) (defScope s_f_law_is_paper) .none kV28 dc28 pm28 an28 cd28 ct28), sl28⟩) (c28 : PySem.W.codeIn K cd28 "_law_is_paper" = true) (k28 : PySem.W.keepIn K (.ref f28) = true)
    (a29 : PySem.W.nsIn K mainGlobals "even" = some (some (.ref f29))) (l29 : K.lookup f29 = some ⟨oc29, od29, .func (PySem.W.fnOf "even" "even" (defArgs s_p_even) (defBody s_p_even) (defScope s_p_even) .none kV29 dc29 pm29 an29 cd29 ct29), sl29⟩) (c29 : PySem.W.codeIn K cd29 "even" = true) (k29 : PySem.W.keepIn K (.ref f29) = true)
    (a30 : PySem.W.nsIn K mainGlobals "_law_told" = some (some (.ref f30))) (l30 : K.lookup f30 = some ⟨oc30, od30, .func (PySem.W.fnOf "_law_told" "_law_told" (defArgs s_f_law_told) (defBody s_f_law_told) (defScope s_f_law_told) .none kV30 dc30 pm30 an30 cd30 ct30), sl30⟩) (c30 : PySem.W.codeIn K cd30 "_law_told" = true) (k30 : PySem.W.keepIn K (.ref f30) = true)
    (a31 : PySem.W.nsIn K mainGlobals "law" = some (some (.ref f31))) (l31 : K.lookup f31 = some ⟨oc31, od31, .func (PySem.W.fnOf "law" "law" (defArgs s_p_law) (defBody s_p_law) (defScope s_p_law) .none kV31 dc31 pm31 an31 cd31 ct31), sl31⟩) (c31 : PySem.W.codeIn K cd31 "law" = true) (k31 : PySem.W.keepIn K (.ref f31) = true)
    (z_ValueError : PySem.W.nsIn K mainGlobals "ValueError" = some none)
    (z_abs : PySem.W.nsIn K mainGlobals "abs" = some none)
    (z_bool : PySem.W.nsIn K mainGlobals "bool" = some none)
    (z_enumerate : PySem.W.nsIn K mainGlobals "enumerate" = some none)
    (z_int : PySem.W.nsIn K mainGlobals "int" = some none)
    (z_isinstance : PySem.W.nsIn K mainGlobals "isinstance" = some none)
    (z_len : PySem.W.nsIn K mainGlobals "len" = some none)
    (z_min : PySem.W.nsIn K mainGlobals "min" = some none)
    (z_range : PySem.W.nsIn K mainGlobals "range" = some none)
    (z_repr : PySem.W.nsIn K mainGlobals "repr" = some none)
    (z_set : PySem.W.nsIn K mainGlobals "set" = some none)
    (z_sorted : PySem.W.nsIn K mainGlobals "sorted" = some none)
    (z_tuple : PySem.W.nsIn K mainGlobals "tuple" = some none)
    (z_zip : PySem.W.nsIn K mainGlobals "zip" = some none) :
    ∃ fd : FuncData, (∀ (s : Shared) (v : Value), BindsTo s fd ⟨[v], []⟩ [("_law_script", v)]) ∧ ∀ base : Heap, K.In base → base.Ns mainGlobals mg → (∀ p ∈ tabCs K, LamX.TabB base mg p.1 p.2) → FnG l.prog w K mg base CX0 7 fa fd ["_law_script"] (spOf K S_p_law) := by
  have e := hfa.symm.trans (PySem.W.mg_of X G a31)
  have e2 : f31 = fa := (Value.ref.inj (Option.some.inj e)).symm
  subst e2
  let T : Txt K mg := { a_p_is_number := f0, d_p_is_number := _, F_p_is_number := fun_mk (st := s_p_is_number) l0 c0 k0, b_p_is_number := (fun_mk (st := s_p_is_number) l0 c0 k0).binds (fun _ _ _ _ _ _ us hl => match us, hl with | [_], _ => rfl), m_p_is_number := PySem.W.mg_of X G a0, a_p_is_even := f1, d_p_is_even := _, F_p_is_even := fun_mk (st := s_p_is_even) l1 c1 k1, b_p_is_even := (fun_mk (st := s_p_is_even) l1 c1 k1).binds (fun _ _ _ _ _ _ us hl => match us, hl with | [_], _ => rfl), m_p_is_even := PySem.W.mg_of X G a1, a_p_room_up_to := f2, d_p_room_up_to := _, F_p_room_up_to := fun_mk (st := s_p_room_up_to) l2 c2 k2, b_p_room_up_to := (fun_mk (st := s_p_room_up_to) l2 c2 k2).binds (fun _ _ _ _ _ _ us hl => match us, hl with | [_, _], _ => rfl), m_p_room_up_to := PySem.W.mg_of X G a2, a_p_is_no_lower := f3, d_p_is_no_lower := _, F_p_is_no_lower := fun_mk (st := s_p_is_no_lower) l3 c3 k3, b_p_is_no_lower := (fun_mk (st := s_p_is_no_lower) l3 c3 k3).binds (fun _ _ _ _ _ _ us hl => match us, hl with | [_, _], _ => rfl), m_p_is_no_lower := PySem.W.mg_of X G a3, a_p_in_blocks := f4, d_p_in_blocks := _, F_p_in_blocks := fun_mk (st := s_p_in_blocks) l4 c4 k4, b_p_in_blocks := (fun_mk (st := s_p_in_blocks) l4 c4 k4).binds (fun _ _ _ _ _ _ us hl => match us, hl with | [_, _], _ => rfl), m_p_in_blocks := PySem.W.mg_of X G a4, a_f_law_deck := f5, d_f_law_deck := _, F_f_law_deck := fun_mk (st := s_f_law_deck) l5 c5 k5, b_f_law_deck := (fun_mk (st := s_f_law_deck) l5 c5 k5).binds (fun _ _ _ _ _ _ us hl => match us, hl with | [_], _ => rfl), m_f_law_deck := PySem.W.mg_of X G a5, a_f_law_next := f6, d_f_law_next := _, F_f_law_next := fun_mk (st := s_f_law_next) l6 c6 k6, b_f_law_next := (fun_mk (st := s_f_law_next) l6 c6 k6).binds (fun _ _ _ _ _ _ us hl => match us, hl with | [_], _ => rfl), m_f_law_next := PySem.W.mg_of X G a6, a_f_law_put := f7, d_f_law_put := _, F_f_law_put := fun_mk (st := s_f_law_put) l7 c7 k7, b_f_law_put := (fun_mk (st := s_f_law_put) l7 c7 k7).binds (fun _ _ _ _ _ _ us hl => match us, hl with | [_, _, _], _ => rfl), m_f_law_put := PySem.W.mg_of X G a7, a_f_law_same := f8, d_f_law_same := _, F_f_law_same := fun_mk (st := s_f_law_same) l8 c8 k8, b_f_law_same := (fun_mk (st := s_f_law_same) l8 c8 k8).binds (fun _ _ _ _ _ _ us hl => match us, hl with | [_, _], _ => rfl), m_f_law_same := PySem.W.mg_of X G a8, a_f_law_is_from := f9, d_f_law_is_from := _, F_f_law_is_from := fun_mk (st := s_f_law_is_from) l9 c9 k9, b_f_law_is_from := (fun_mk (st := s_f_law_is_from) l9 c9 k9).binds (fun _ _ _ _ _ _ us hl => match us, hl with | [_, _, _], _ => rfl), m_f_law_is_from := PySem.W.mg_of X G a9, a_f_law_ways := f10, d_f_law_ways := _, F_f_law_ways := fun_mk (st := s_f_law_ways) l10 c10 k10, b_f_law_ways := (fun_mk (st := s_f_law_ways) l10 c10 k10).binds (fun _ _ _ _ _ _ us hl => match us, hl with | [_, _], _ => rfl), m_f_law_ways := PySem.W.mg_of X G a10, a_f_law_clash := f11, d_f_law_clash := _, F_f_law_clash := fun_mk (st := s_f_law_clash) l11 c11 k11, b_f_law_clash := (fun_mk (st := s_f_law_clash) l11 c11 k11).binds (fun _ _ _ _ _ _ us hl => match us, hl with | [_, _, _, _, _], _ => rfl), m_f_law_clash := PySem.W.mg_of X G a11, a_f_law_kept := f12, d_f_law_kept := _, F_f_law_kept := fun_mk (st := s_f_law_kept) l12 c12 k12, b_f_law_kept := (fun_mk (st := s_f_law_kept) l12 c12 k12).binds (fun _ _ _ _ _ _ us hl => match us, hl with | [_, _, _], _ => rfl), m_f_law_kept := PySem.W.mg_of X G a12, a_f_law_room := f13, d_f_law_room := _, F_f_law_room := fun_mk (st := s_f_law_room) l13 c13 k13, b_f_law_room := (fun_mk (st := s_f_law_room) l13 c13 k13).binds (fun _ _ _ _ _ _ us hl => match us, hl with | [_, _], _ => rfl), m_f_law_room := PySem.W.mg_of X G a13, a_f_law_is_kind := f14, d_f_law_is_kind := _, F_f_law_is_kind := fun_mk (st := s_f_law_is_kind) l14 c14 k14, b_f_law_is_kind := (fun_mk (st := s_f_law_is_kind) l14 c14 k14).binds (fun _ _ _ _ _ _ us hl => match us, hl with | [_, _], _ => rfl), m_f_law_is_kind := PySem.W.mg_of X G a14, a_p_is_from := f15, d_p_is_from := _, F_p_is_from := fun_mk (st := s_p_is_from) l15 c15 k15, b_p_is_from := (fun_mk (st := s_p_is_from) l15 c15 k15).binds (fun _ _ _ _ _ _ us hl => match us, hl with | [_, _, _], _ => rfl), m_p_is_from := PySem.W.mg_of X G a15, a_p_do_fit := f16, d_p_do_fit := _, F_p_do_fit := fun_mk (st := s_p_do_fit) l16 c16 k16, b_p_do_fit := (fun_mk (st := s_p_do_fit) l16 c16 k16).binds (fun _ _ _ _ _ _ us hl => match us, hl with | [_, _], _ => rfl), m_p_do_fit := PySem.W.mg_of X G a16, a_f_law_goes := f17, d_f_law_goes := _, F_f_law_goes := fun_mk (st := s_f_law_goes) l17 c17 k17, b_f_law_goes := (fun_mk (st := s_f_law_goes) l17 c17 k17).binds (fun _ _ _ _ _ _ us hl => match us, hl with | [_, _, _, _], _ => rfl), m_f_law_goes := PySem.W.mg_of X G a17, a_f_law_is_way := f18, d_f_law_is_way := _, F_f_law_is_way := fun_mk (st := s_f_law_is_way) l18 c18 k18, b_f_law_is_way := (fun_mk (st := s_f_law_is_way) l18 c18 k18).binds (fun _ _ _ _ _ _ us hl => match us, hl with | [_, _, _], _ => rfl), m_f_law_is_way := PySem.W.mg_of X G a18, a_f_law_even_wish := f19, d_f_law_even_wish := _, F_f_law_even_wish := fun_mk (st := s_f_law_even_wish) l19 c19 k19, b_f_law_even_wish := (fun_mk (st := s_f_law_even_wish) l19 c19 k19).binds (fun _ _ _ _ _ _ us hl => match us, hl with | [_, _, _], _ => rfl), m_f_law_even_wish := PySem.W.mg_of X G a19, a_f_law_full_days := f20, d_f_law_full_days := _, F_f_law_full_days := fun_mk (st := s_f_law_full_days) l20 c20 k20, b_f_law_full_days := (fun_mk (st := s_f_law_full_days) l20 c20 k20).binds (fun _ _ _ _ _ _ us hl => match us, hl with | [_, _, _], _ => rfl), m_f_law_full_days := PySem.W.mg_of X G a20, a_f_law_uneven := f21, d_f_law_uneven := _, F_f_law_uneven := fun_mk (st := s_f_law_uneven) l21 c21 k21, b_f_law_uneven := (fun_mk (st := s_f_law_uneven) l21 c21 k21).binds (fun _ _ _ _ _ _ us hl => match us, hl with | [_, _], _ => rfl), m_f_law_uneven := PySem.W.mg_of X G a21, a_p_holds_full := f22, d_p_holds_full := _, F_p_holds_full := fun_mk (st := s_p_holds_full) l22 c22 k22, b_p_holds_full := (fun_mk (st := s_p_holds_full) l22 c22 k22).binds (fun _ _ _ _ _ _ us hl => match us, hl with | [_, _, _, _], _ => rfl), m_p_holds_full := PySem.W.mg_of X G a22, a_p_taken_wishes := f23, d_p_taken_wishes := _, F_p_taken_wishes := fun_mk (st := s_p_taken_wishes) l23 c23 k23, b_p_taken_wishes := (fun_mk (st := s_p_taken_wishes) l23 c23 k23).binds (fun _ _ _ _ _ _ us hl => match us, hl with | [_], _ => rfl), m_p_taken_wishes := PySem.W.mg_of X G a23, a_f_law_is_plan := f24, d_f_law_is_plan := _, F_f_law_is_plan := fun_mk (st := s_f_law_is_plan) l24 c24 k24, b_f_law_is_plan := (fun_mk (st := s_f_law_is_plan) l24 c24 k24).binds (fun _ _ _ _ _ _ us hl => match us, hl with | [_, _], _ => rfl), m_f_law_is_plan := PySem.W.mg_of X G a24, a_f_law_even := f25, d_f_law_even := _, F_f_law_even := fun_mk (st := s_f_law_even) l25 c25 k25, b_f_law_even := (fun_mk (st := s_f_law_even) l25 c25 k25).binds (fun _ _ _ _ _ _ us hl => match us, hl with | [_, _, _, _, _], _ => rfl), m_f_law_even := PySem.W.mg_of X G a25, a_f_law_is_pair := f26, d_f_law_is_pair := _, F_f_law_is_pair := fun_mk (st := s_f_law_is_pair) l26 c26 k26, b_f_law_is_pair := (fun_mk (st := s_f_law_is_pair) l26 c26 k26).binds (fun _ _ _ _ _ _ us hl => match us, hl with | [_, _, _, _], _ => rfl), m_f_law_is_pair := PySem.W.mg_of X G a26, a_p_full_day := f27, d_p_full_day := _, F_p_full_day := fun_mk (st := s_p_full_day) l27 c27 k27, b_p_full_day := (fun_mk (st := s_p_full_day) l27 c27 k27).binds (fun _ _ _ _ _ _ us hl => match us, hl with | [_, _, _], _ => rfl), m_p_full_day := PySem.W.mg_of X G a27, a_f_law_is_paper := f28, d_f_law_is_paper := _, F_f_law_is_paper := fun_mk (st := s_f_law_is_paper) l28 c28 k28, b_f_law_is_paper := (fun_mk (st := s_f_law_is_paper) l28 c28 k28).binds (fun _ _ _ _ _ _ us hl => match us, hl with | [_, _], _ => rfl), m_f_law_is_paper := PySem.W.mg_of X G a28, a_p_even := f29, d_p_even := _, F_p_even := fun_mk (st := s_p_even) l29 c29 k29, b_p_even := (fun_mk (st := s_p_even) l29 c29 k29).binds (fun _ _ _ _ _ _ us hl => match us, hl with | [_], _ => rfl), m_p_even := PySem.W.mg_of X G a29, a_f_law_told := f30, d_f_law_told := _, F_f_law_told := fun_mk (st := s_f_law_told) l30 c30 k30, b_f_law_told := (fun_mk (st := s_f_law_told) l30 c30 k30).binds (fun _ _ _ _ _ _ us hl => match us, hl with | [_], _ => rfl), m_f_law_told := PySem.W.mg_of X G a30, a_p_law := f31, d_p_law := _, F_p_law := fun_mk (st := s_p_law) l31 c31 k31, b_p_law := (fun_mk (st := s_p_law) l31 c31 k31).binds (fun _ _ _ _ _ _ us hl => match us, hl with | [_], _ => rfl), m_p_law := PySem.W.mg_of X G a31, C_NoDeed := C_NoDeed, aC_NoDeed := aC_NoDeed, mC_NoDeed := PySem.W.mg_of X G aC_NoDeed, em_NoDeed_WishError := em_NoDeed_WishError, C_NoPlan := C_NoPlan, aC_NoPlan := aC_NoPlan, mC_NoPlan := PySem.W.mg_of X G aC_NoPlan, em_NoPlan_WishError := em_NoPlan_WishError, C_NoRoom := C_NoRoom, aC_NoRoom := aC_NoRoom, mC_NoRoom := PySem.W.mg_of X G aC_NoRoom, aI_NoRoom := fI_NoRoom, dI_NoRoom := _, FI_NoRoom := fun_mk (st := inClass (topS 4) 0) xF_NoRoom xC_NoRoom xK_NoRoom, bI_NoRoom := (fun_mk (st := inClass (topS 4) 0) xF_NoRoom xC_NoRoom xK_NoRoom).binds (fun _ _ _ _ _ _ us hl => match us, hl with | [_, _], _ => rfl), e_NoRoom := ⟨aC_NoRoom, ⟨⟨_, _, _, _, _, _, _, _, _, _, _, _, _, _, _, xL_NoRoom, xV_NoRoom⟩, xS_NoRoom, sE_NoRoom, tE_NoRoom, kE_NoRoom⟩, xI_NoRoom, xT_NoRoom, xN_NoRoom⟩, em_NoRoom_WishError := em_NoRoom_WishError, C_NoText := C_NoText, aC_NoText := aC_NoText, mC_NoText := PySem.W.mg_of X G aC_NoText, em_NoText_WishError := em_NoText_WishError, C_NotEven := C_NotEven, aC_NotEven := aC_NotEven, mC_NotEven := PySem.W.mg_of X G aC_NotEven, e_NotEven := ⟨aC_NotEven, qE_NotEven, kE_NotEven, sE_NotEven, tE_NotEven⟩, em_NotEven_WishError := em_NotEven_WishError, C_TooMany := C_TooMany, aC_TooMany := aC_TooMany, mC_TooMany := PySem.W.mg_of X G aC_TooMany, em_TooMany_WishError := em_TooMany_WishError, C_WishError := C_WishError, aC_WishError := aC_WishError, mC_WishError := PySem.W.mg_of X G aC_WishError, vS := vS, vT := vT, xc_NoDeed := ⟨vg_NoDeed, vh_NoDeed, ve_NoDeed, vd_NoDeed, va_NoDeed, vS, vT, vm_NoDeed⟩, ki_NoDeed_NoDeed := ki_NoDeed_NoDeed, ki_NoDeed_NoPlan := ki_NoDeed_NoPlan, ki_NoDeed_NoRoom := ki_NoDeed_NoRoom, ki_NoDeed_NoText := ki_NoDeed_NoText, ki_NoDeed_NotEven := ki_NoDeed_NotEven, ki_NoDeed_TooMany := ki_NoDeed_TooMany, ki_NoDeed_WishError := ki_NoDeed_WishError, ki_NoDeed_ValueError := ki_NoDeed_ValueError, xc_NoPlan := ⟨vg_NoPlan, vh_NoPlan, ve_NoPlan, vd_NoPlan, va_NoPlan, vS, vT, vm_NoPlan⟩, ki_NoPlan_NoDeed := ki_NoPlan_NoDeed, ki_NoPlan_NoPlan := ki_NoPlan_NoPlan, ki_NoPlan_NoRoom := ki_NoPlan_NoRoom, ki_NoPlan_NoText := ki_NoPlan_NoText, ki_NoPlan_NotEven := ki_NoPlan_NotEven, ki_NoPlan_TooMany := ki_NoPlan_TooMany, ki_NoPlan_WishError := ki_NoPlan_WishError, ki_NoPlan_ValueError := ki_NoPlan_ValueError, xc_NoRoom := ⟨vg_NoRoom, vh_NoRoom, ve_NoRoom, vd_NoRoom, va_NoRoom, vS, vT, vm_NoRoom⟩, ki_NoRoom_NoDeed := ki_NoRoom_NoDeed, ki_NoRoom_NoPlan := ki_NoRoom_NoPlan, ki_NoRoom_NoRoom := ki_NoRoom_NoRoom, ki_NoRoom_NoText := ki_NoRoom_NoText, ki_NoRoom_NotEven := ki_NoRoom_NotEven, ki_NoRoom_TooMany := ki_NoRoom_TooMany, ki_NoRoom_WishError := ki_NoRoom_WishError, ki_NoRoom_ValueError := ki_NoRoom_ValueError, xc_NoText := ⟨vg_NoText, vh_NoText, ve_NoText, vd_NoText, va_NoText, vS, vT, vm_NoText⟩, ki_NoText_NoDeed := ki_NoText_NoDeed, ki_NoText_NoPlan := ki_NoText_NoPlan, ki_NoText_NoRoom := ki_NoText_NoRoom, ki_NoText_NoText := ki_NoText_NoText, ki_NoText_NotEven := ki_NoText_NotEven, ki_NoText_TooMany := ki_NoText_TooMany, ki_NoText_WishError := ki_NoText_WishError, ki_NoText_ValueError := ki_NoText_ValueError, xc_NotEven := ⟨vg_NotEven, vh_NotEven, ve_NotEven, vd_NotEven, va_NotEven, vS, vT, vm_NotEven⟩, ki_NotEven_NoDeed := ki_NotEven_NoDeed, ki_NotEven_NoPlan := ki_NotEven_NoPlan, ki_NotEven_NoRoom := ki_NotEven_NoRoom, ki_NotEven_NoText := ki_NotEven_NoText, ki_NotEven_NotEven := ki_NotEven_NotEven, ki_NotEven_TooMany := ki_NotEven_TooMany, ki_NotEven_WishError := ki_NotEven_WishError, ki_NotEven_ValueError := ki_NotEven_ValueError, xc_TooMany := ⟨vg_TooMany, vh_TooMany, ve_TooMany, vd_TooMany, va_TooMany, vS, vT, vm_TooMany⟩, ki_TooMany_NoDeed := ki_TooMany_NoDeed, ki_TooMany_NoPlan := ki_TooMany_NoPlan, ki_TooMany_NoRoom := ki_TooMany_NoRoom, ki_TooMany_NoText := ki_TooMany_NoText, ki_TooMany_NotEven := ki_TooMany_NotEven, ki_TooMany_TooMany := ki_TooMany_TooMany, ki_TooMany_WishError := ki_TooMany_WishError, ki_TooMany_ValueError := ki_TooMany_ValueError, kt_NoDeed := kt_NoDeed, kn_NoDeed := kn_NoDeed, kt_NoPlan := kt_NoPlan, kn_NoPlan := kn_NoPlan, kt_NoRoom := kt_NoRoom, kn_NoRoom := kn_NoRoom, kt_NoText := kt_NoText, kn_NoText := kn_NoText, kt_NotEven := kt_NotEven, kn_NotEven := kn_NotEven, kt_TooMany := kt_TooMany, kn_TooMany := kn_TooMany, kt_WishError := kt_WishError, kn_WishError := kn_WishError, xf_NoRoom := ⟨xg_NoRoom, xh_NoRoom, xe_NoRoom, xd_NoRoom⟩, no_NoRoom_work := xn_NoRoom_work, n_ValueError := PySem.W.mg_none_of X G z_ValueError, n_abs := PySem.W.mg_none_of X G z_abs, n_bool := PySem.W.mg_none_of X G z_bool, n_enumerate := PySem.W.mg_none_of X G z_enumerate, n_int := PySem.W.mg_none_of X G z_int, n_isinstance := PySem.W.mg_none_of X G z_isinstance, n_len := PySem.W.mg_none_of X G z_len, n_min := PySem.W.mg_none_of X G z_min, n_range := PySem.W.mg_none_of X G z_range, n_repr := PySem.W.mg_none_of X G z_repr, n_set := PySem.W.mg_none_of X G z_set, n_sorted := PySem.W.mg_none_of X G z_sorted, n_tuple := PySem.W.mg_none_of X G z_tuple, n_zip := PySem.W.mg_none_of X G z_zip }
  exact ⟨T.d_p_law, fun s v => .of_eq rfl, fun base _ _ _ => ok_p_law T⟩
end DL.M
namespace DL
namespace HeadF
open PySem PySem.Spec PyProof.Rows L2
theorem facts {w : World} {K : PySem.W.Frag} {h : Heap} {mg : Str → Option Value} {fa : Addr} (X : K.In h) (G : h.Ns mainGlobals mg) (hfa : mg "law" = some (.ref fa)) (c : SaysW dfs (fun K => exs.all fun f => f K) h K) :
    ∃ fd : FuncData, (∀ (s : Shared) (v : Value), BindsTo s fd ⟨[v], []⟩ [("_law_script", v)]) ∧ ∀ base : Heap, K.In base → base.Ns mainGlobals mg → (∀ p ∈ tabCs K, LamX.TabB base mg p.1 p.2) → FnG PySem.Challenge.rw_workwishes_k42_even_told_or_refused.prog w K mg base CX0 7 fa fd ["_law_script"] (spOf K DL.M.S_p_law) := by
  obtain ⟨_, _, _, _, _, _, _, _, _, _, _, _, _, _, _, xL_NoRoom, xV_NoRoom⟩ := oexB_ok (exs_at c.ex 8 (f := fun K => oexB K (He.ga K "NoRoom")) rfl)
  obtain ⟨_, _, _, _, _, _, _, _, _, xF_NoRoom, xC_NoRoom, xK_NoRoom⟩ := def_at c.d 32 (d := d_init_NoRoom) rfl rfl
  obtain ⟨_, _, _, _, _, _, _, _, _, l0, c0, k0⟩ := def_at c.d 0 (d := d_p_is_number) rfl rfl
  obtain ⟨_, _, _, _, _, _, _, _, _, l1, c1, k1⟩ := def_at c.d 1 (d := d_p_is_even) rfl rfl
  obtain ⟨_, _, _, _, _, _, _, _, _, l2, c2, k2⟩ := def_at c.d 2 (d := d_p_room_up_to) rfl rfl
  obtain ⟨_, _, _, _, _, _, _, _, _, l3, c3, k3⟩ := def_at c.d 3 (d := d_p_is_no_lower) rfl rfl
  obtain ⟨_, _, _, _, _, _, _, _, _, l4, c4, k4⟩ := def_at c.d 4 (d := d_p_in_blocks) rfl rfl
  obtain ⟨_, _, _, _, _, _, _, _, _, l5, c5, k5⟩ := def_at c.d 5 (d := d_f_law_deck) rfl rfl
  obtain ⟨_, _, _, _, _, _, _, _, _, l6, c6, k6⟩ := def_at c.d 6 (d := d_f_law_next) rfl rfl
  obtain ⟨_, _, _, _, _, _, _, _, _, l7, c7, k7⟩ := def_at c.d 7 (d := d_f_law_put) rfl rfl
  obtain ⟨_, _, _, _, _, _, _, _, _, l8, c8, k8⟩ := def_at c.d 8 (d := d_f_law_same) rfl rfl
  obtain ⟨_, _, _, _, _, _, _, _, _, l9, c9, k9⟩ := def_at c.d 9 (d := d_f_law_is_from) rfl rfl
  obtain ⟨_, _, _, _, _, _, _, _, _, l10, c10, k10⟩ := def_at c.d 10 (d := d_f_law_ways) rfl rfl
  obtain ⟨_, _, _, _, _, _, _, _, _, l11, c11, k11⟩ := def_at c.d 11 (d := d_f_law_clash) rfl rfl
  obtain ⟨_, _, _, _, _, _, _, _, _, l12, c12, k12⟩ := def_at c.d 12 (d := d_f_law_kept) rfl rfl
  obtain ⟨_, _, _, _, _, _, _, _, _, l13, c13, k13⟩ := def_at c.d 13 (d := d_f_law_room) rfl rfl
  obtain ⟨_, _, _, _, _, _, _, _, _, l14, c14, k14⟩ := def_at c.d 14 (d := d_f_law_is_kind) rfl rfl
  obtain ⟨_, _, _, _, _, _, _, _, _, l15, c15, k15⟩ := def_at c.d 15 (d := d_p_is_from) rfl rfl
  obtain ⟨_, _, _, _, _, _, _, _, _, l16, c16, k16⟩ := def_at c.d 16 (d := d_p_do_fit) rfl rfl
  obtain ⟨_, _, _, _, _, _, _, _, _, l17, c17, k17⟩ := def_at c.d 17 (d := d_f_law_goes) rfl rfl
  obtain ⟨_, _, _, _, _, _, _, _, _, l18, c18, k18⟩ := def_at c.d 18 (d := d_f_law_is_way) rfl rfl
  obtain ⟨_, _, _, _, _, _, _, _, _, l19, c19, k19⟩ := def_at c.d 19 (d := d_f_law_even_wish) rfl rfl
  obtain ⟨_, _, _, _, _, _, _, _, _, l20, c20, k20⟩ := def_at c.d 20 (d := d_f_law_full_days) rfl rfl
  obtain ⟨_, _, _, _, _, _, _, _, _, l21, c21, k21⟩ := def_at c.d 21 (d := d_f_law_uneven) rfl rfl
  obtain ⟨_, _, _, _, _, _, _, _, _, l22, c22, k22⟩ := def_at c.d 22 (d := d_p_holds_full) rfl rfl
  obtain ⟨_, _, _, _, _, _, _, _, _, l23, c23, k23⟩ := def_at c.d 23 (d := d_p_taken_wishes) rfl rfl
  obtain ⟨_, _, _, _, _, _, _, _, _, l24, c24, k24⟩ := def_at c.d 24 (d := d_f_law_is_plan) rfl rfl
  obtain ⟨_, _, _, _, _, _, _, _, _, l25, c25, k25⟩ := def_at c.d 25 (d := d_f_law_even) rfl rfl
  obtain ⟨_, _, _, _, _, _, _, _, _, l26, c26, k26⟩ := def_at c.d 26 (d := d_f_law_is_pair) rfl rfl
  obtain ⟨_, _, _, _, _, _, _, _, _, l27, c27, k27⟩ := def_at c.d 27 (d := d_p_full_day) rfl rfl
  obtain ⟨_, _, _, _, _, _, _, _, _, l28, c28, k28⟩ := def_at c.d 28 (d := d_f_law_is_paper) rfl rfl
  obtain ⟨_, _, _, _, _, _, _, _, _, l29, c29, k29⟩ := def_at c.d 29 (d := d_p_even) rfl rfl
  obtain ⟨_, _, _, _, _, _, _, _, _, l30, c30, k30⟩ := def_at c.d 30 (d := d_f_law_told) rfl rfl
  obtain ⟨_, _, _, _, _, _, _, _, _, l31, c31, k31⟩ := def_at c.d 31 (d := d_p_law) rfl rfl
  exact DL.M.all_mk (l := PySem.Challenge.rw_workwishes_k42_even_told_or_refused) X G hfa (of_decide_eq_true (exs_at c.ex 0 (f := fun K => decide (PySem.W.nsIn K mainGlobals "NoDeed" = some (some (.ref (He.ga K "NoDeed"))))) rfl)) (of_decide_eq_true (exs_at c.ex 1 (f := fun K => decide (PySem.W.exmOne K (.ref (He.ga K "NoDeed")) (.ref (He.ga K "WishError")) = some true)) rfl)) (of_decide_eq_true (exs_at c.ex 2 (f := fun K => decide (PySem.W.nsIn K mainGlobals "NoPlan" = some (some (.ref (He.ga K "NoPlan"))))) rfl)) (of_decide_eq_true (exs_at c.ex 3 (f := fun K => decide (PySem.W.exmOne K (.ref (He.ga K "NoPlan")) (.ref (He.ga K "WishError")) = some true)) rfl)) (of_decide_eq_true (exs_at c.ex 4 (f := fun K => decide (PySem.W.nsIn K mainGlobals "NoRoom" = some (some (.ref (He.ga K "NoRoom"))))) rfl)) (of_decide_eq_true (exs_at c.ex 5 (f := fun K => decide (PySem.W.keepIn K (.ref (He.ga K "NoRoom")) = true)) rfl)) (of_decide_eq_true (exs_at c.ex 6 (f := fun K => decide (PySem.W.subIn K (.ref (He.ga K "NoRoom")) (.type "BaseException") = some true)) rfl)) (of_decide_eq_true (exs_at c.ex 7 (f := fun K => decide (PySem.W.typeIn K (.ref (He.ga K "NoRoom")) = some (.type "type"))) rfl)) xL_NoRoom xV_NoRoom (of_decide_eq_true (exs_at c.ex 9 (f := fun K => decide (PySem.W.findIn K (.ref (He.ga K "NoRoom")) "__setattr__" = some (some (.builtin "object.__setattr__")))) rfl)) (of_decide_eq_true (exs_at c.ex 10 (f := fun K => decide (PySem.W.findIn K (.ref (He.ga K "NoRoom")) "__init__" = some (some (.ref (He.fAd K d_init_NoRoom.at_))))) rfl)) (of_decide_eq_true (exs_at c.ex 11 (f := fun K => decide (PySem.W.typeIn K (.ref (He.fAd K d_init_NoRoom.at_)) = some (.type "function"))) rfl)) (of_decide_eq_true (exs_at c.ex 12 (f := fun K => decide (PySem.W.findIn K (.ref (He.ga K "NoRoom")) "work" = some none)) rfl)) xF_NoRoom xC_NoRoom xK_NoRoom (of_decide_eq_true (exs_at c.ex 13 (f := fun K => decide (PySem.W.exmOne K (.ref (He.ga K "NoRoom")) (.ref (He.ga K "WishError")) = some true)) rfl)) (of_decide_eq_true (exs_at c.ex 14 (f := fun K => decide (PySem.W.nsIn K mainGlobals "NoText" = some (some (.ref (He.ga K "NoText"))))) rfl)) (of_decide_eq_true (exs_at c.ex 15 (f := fun K => decide (PySem.W.exmOne K (.ref (He.ga K "NoText")) (.ref (He.ga K "WishError")) = some true)) rfl)) (of_decide_eq_true (exs_at c.ex 16 (f := fun K => decide (PySem.W.nsIn K mainGlobals "NotEven" = some (some (.ref (He.ga K "NotEven"))))) rfl)) (of_decide_eq_true (exs_at c.ex 17 (f := fun K => decide (PySem.W.keepIn K (.ref (He.ga K "NotEven")) = true)) rfl)) (of_decide_eq_true (exs_at c.ex 18 (f := fun K => decide (PySem.W.subIn K (.ref (He.ga K "NotEven")) (.type "BaseException") = some true)) rfl)) (of_decide_eq_true (exs_at c.ex 19 (f := fun K => decide (PySem.W.typeIn K (.ref (He.ga K "NotEven")) = some (.type "type"))) rfl)) (of_decide_eq_true (exs_at c.ex 20 (f := fun K => decide (PySem.W.excIn K (He.ga K "NotEven") [.type "ValueError", .type "Exception", .type "BaseException", .type "object"] "ValueError.__new__" = true)) rfl)) (of_decide_eq_true (exs_at c.ex 21 (f := fun K => decide (PySem.W.exmOne K (.ref (He.ga K "NotEven")) (.ref (He.ga K "WishError")) = some true)) rfl)) (of_decide_eq_true (exs_at c.ex 22 (f := fun K => decide (PySem.W.nsIn K mainGlobals "TooMany" = some (some (.ref (He.ga K "TooMany"))))) rfl)) (of_decide_eq_true (exs_at c.ex 23 (f := fun K => decide (PySem.W.exmOne K (.ref (He.ga K "TooMany")) (.ref (He.ga K "WishError")) = some true)) rfl)) (of_decide_eq_true (exs_at c.ex 24 (f := fun K => decide (PySem.W.nsIn K mainGlobals "WishError" = some (some (.ref (He.ga K "WishError"))))) rfl)) (of_decide_eq_true (exs_at c.ex 25 (f := fun K => decide (PySem.W.specialIn K (.builtin "object.__class__") "__get__" = some (some (.builtin "getset_descriptor.__get__")))) rfl)) (of_decide_eq_true (exs_at c.ex 26 (f := fun K => decide (PySem.W.takesIn K (.builtin "object.__class__") = some true)) rfl)) (of_decide_eq_true (exs_at c.ex 27 (f := fun K => decide (PySem.W.findIn K (.ref (He.ga K "NoDeed")) "__getattribute__" = some (some (.builtin "BaseException.__getattribute__")))) rfl)) (of_decide_eq_true (exs_at c.ex 28 (f := fun K => decide (PySem.W.findIn K (.ref (He.ga K "NoDeed")) "__getattr__" = some none)) rfl)) (of_decide_eq_true (exs_at c.ex 29 (f := fun K => decide (PySem.W.subIn K (.ref (He.ga K "NoDeed")) (.type "BaseException") = some true)) rfl)) (of_decide_eq_true (exs_at c.ex 30 (f := fun K => decide (PySem.W.hasDictIn K (He.ga K "NoDeed") = true)) rfl)) (of_decide_eq_true (exs_at c.ex 31 (f := fun K => decide (PySem.W.findIn K (.ref (He.ga K "NoDeed")) "__class__" = some (some (.builtin "object.__class__")))) rfl)) (of_decide_eq_true (exs_at c.ex 32 (f := fun K => decide (PySem.W.mroIn K (He.ga K "NoDeed") (.type "object") = some true)) rfl)) (of_decide_eq_true (exs_at c.ex 33 (f := fun K => decide (PySem.W.kitOne K (.ref (He.ga K "NoDeed")) (.ref (He.ga K "NoDeed")) = some true)) rfl)) (of_decide_eq_true (exs_at c.ex 34 (f := fun K => decide (PySem.W.kitOne K (.ref (He.ga K "NoDeed")) (.ref (He.ga K "NoPlan")) = some false)) rfl)) (of_decide_eq_true (exs_at c.ex 35 (f := fun K => decide (PySem.W.kitOne K (.ref (He.ga K "NoDeed")) (.ref (He.ga K "NoRoom")) = some false)) rfl)) (of_decide_eq_true (exs_at c.ex 36 (f := fun K => decide (PySem.W.kitOne K (.ref (He.ga K "NoDeed")) (.ref (He.ga K "NoText")) = some false)) rfl)) (of_decide_eq_true (exs_at c.ex 37 (f := fun K => decide (PySem.W.kitOne K (.ref (He.ga K "NoDeed")) (.ref (He.ga K "NotEven")) = some false)) rfl)) (of_decide_eq_true (exs_at c.ex 38 (f := fun K => decide (PySem.W.kitOne K (.ref (He.ga K "NoDeed")) (.ref (He.ga K "TooMany")) = some false)) rfl)) (of_decide_eq_true (exs_at c.ex 39 (f := fun K => decide (PySem.W.kitOne K (.ref (He.ga K "NoDeed")) (.ref (He.ga K "WishError")) = some true)) rfl)) (of_decide_eq_true (exs_at c.ex 40 (f := fun K => decide (PySem.W.kitOne K (.ref (He.ga K "NoDeed")) (.type "ValueError") = some true)) rfl)) (of_decide_eq_true (exs_at c.ex 41 (f := fun K => decide (PySem.W.findIn K (.ref (He.ga K "NoPlan")) "__getattribute__" = some (some (.builtin "BaseException.__getattribute__")))) rfl)) (of_decide_eq_true (exs_at c.ex 42 (f := fun K => decide (PySem.W.findIn K (.ref (He.ga K "NoPlan")) "__getattr__" = some none)) rfl)) (of_decide_eq_true (exs_at c.ex 43 (f := fun K => decide (PySem.W.subIn K (.ref (He.ga K "NoPlan")) (.type "BaseException") = some true)) rfl)) (of_decide_eq_true (exs_at c.ex 44 (f := fun K => decide (PySem.W.hasDictIn K (He.ga K "NoPlan") = true)) rfl)) (of_decide_eq_true (exs_at c.ex 45 (f := fun K => decide (PySem.W.findIn K (.ref (He.ga K "NoPlan")) "__class__" = some (some (.builtin "object.__class__")))) rfl)) (of_decide_eq_true (exs_at c.ex 46 (f := fun K => decide (PySem.W.mroIn K (He.ga K "NoPlan") (.type "object") = some true)) rfl)) (of_decide_eq_true (exs_at c.ex 47 (f := fun K => decide (PySem.W.kitOne K (.ref (He.ga K "NoPlan")) (.ref (He.ga K "NoDeed")) = some false)) rfl)) (of_decide_eq_true (exs_at c.ex 48 (f := fun K => decide (PySem.W.kitOne K (.ref (He.ga K "NoPlan")) (.ref (He.ga K "NoPlan")) = some true)) rfl)) (of_decide_eq_true (exs_at c.ex 49 (f := fun K => decide (PySem.W.kitOne K (.ref (He.ga K "NoPlan")) (.ref (He.ga K "NoRoom")) = some false)) rfl)) (of_decide_eq_true (exs_at c.ex 50 (f := fun K => decide (PySem.W.kitOne K (.ref (He.ga K "NoPlan")) (.ref (He.ga K "NoText")) = some false)) rfl)) (of_decide_eq_true (exs_at c.ex 51 (f := fun K => decide (PySem.W.kitOne K (.ref (He.ga K "NoPlan")) (.ref (He.ga K "NotEven")) = some false)) rfl)) (of_decide_eq_true (exs_at c.ex 52 (f := fun K => decide (PySem.W.kitOne K (.ref (He.ga K "NoPlan")) (.ref (He.ga K "TooMany")) = some false)) rfl)) (of_decide_eq_true (exs_at c.ex 53 (f := fun K => decide (PySem.W.kitOne K (.ref (He.ga K "NoPlan")) (.ref (He.ga K "WishError")) = some true)) rfl)) (of_decide_eq_true (exs_at c.ex 54 (f := fun K => decide (PySem.W.kitOne K (.ref (He.ga K "NoPlan")) (.type "ValueError") = some true)) rfl)) (of_decide_eq_true (exs_at c.ex 55 (f := fun K => decide (PySem.W.findIn K (.ref (He.ga K "NoRoom")) "__getattribute__" = some (some (.builtin "BaseException.__getattribute__")))) rfl)) (of_decide_eq_true (exs_at c.ex 56 (f := fun K => decide (PySem.W.findIn K (.ref (He.ga K "NoRoom")) "__getattr__" = some none)) rfl)) (of_decide_eq_true (exs_at c.ex 57 (f := fun K => decide (PySem.W.subIn K (.ref (He.ga K "NoRoom")) (.type "BaseException") = some true)) rfl)) (of_decide_eq_true (exs_at c.ex 58 (f := fun K => decide (PySem.W.hasDictIn K (He.ga K "NoRoom") = true)) rfl)) (of_decide_eq_true (exs_at c.ex 59 (f := fun K => decide (PySem.W.findIn K (.ref (He.ga K "NoRoom")) "__class__" = some (some (.builtin "object.__class__")))) rfl)) (of_decide_eq_true (exs_at c.ex 60 (f := fun K => decide (PySem.W.mroIn K (He.ga K "NoRoom") (.type "object") = some true)) rfl)) (of_decide_eq_true (exs_at c.ex 61 (f := fun K => decide (PySem.W.kitOne K (.ref (He.ga K "NoRoom")) (.ref (He.ga K "NoDeed")) = some false)) rfl)) (of_decide_eq_true (exs_at c.ex 62 (f := fun K => decide (PySem.W.kitOne K (.ref (He.ga K "NoRoom")) (.ref (He.ga K "NoPlan")) = some false)) rfl)) (of_decide_eq_true (exs_at c.ex 63 (f := fun K => decide (PySem.W.kitOne K (.ref (He.ga K "NoRoom")) (.ref (He.ga K "NoRoom")) = some true)) rfl)) (of_decide_eq_true (exs_at c.ex 64 (f := fun K => decide (PySem.W.kitOne K (.ref (He.ga K "NoRoom")) (.ref (He.ga K "NoText")) = some false)) rfl)) (of_decide_eq_true (exs_at c.ex 65 (f := fun K => decide (PySem.W.kitOne K (.ref (He.ga K "NoRoom")) (.ref (He.ga K "NotEven")) = some false)) rfl)) (of_decide_eq_true (exs_at c.ex 66 (f := fun K => decide (PySem.W.kitOne K (.ref (He.ga K "NoRoom")) (.ref (He.ga K "TooMany")) = some false)) rfl)) (of_decide_eq_true (exs_at c.ex 67 (f := fun K => decide (PySem.W.kitOne K (.ref (He.ga K "NoRoom")) (.ref (He.ga K "WishError")) = some true)) rfl)) (of_decide_eq_true (exs_at c.ex 68 (f := fun K => decide (PySem.W.kitOne K (.ref (He.ga K "NoRoom")) (.type "ValueError") = some true)) rfl)) (of_decide_eq_true (exs_at c.ex 69 (f := fun K => decide (PySem.W.findIn K (.ref (He.ga K "NoText")) "__getattribute__" = some (some (.builtin "BaseException.__getattribute__")))) rfl)) (of_decide_eq_true (exs_at c.ex 70 (f := fun K => decide (PySem.W.findIn K (.ref (He.ga K "NoText")) "__getattr__" = some none)) rfl)) (of_decide_eq_true (exs_at c.ex 71 (f := fun K => decide (PySem.W.subIn K (.ref (He.ga K "NoText")) (.type "BaseException") = some true)) rfl)) (of_decide_eq_true (exs_at c.ex 72 (f := fun K => decide (PySem.W.hasDictIn K (He.ga K "NoText") = true)) rfl)) (of_decide_eq_true (exs_at c.ex 73 (f := fun K => decide (PySem.W.findIn K (.ref (He.ga K "NoText")) "__class__" = some (some (.builtin "object.__class__")))) rfl)) (of_decide_eq_true (exs_at c.ex 74 (f := fun K => decide (PySem.W.mroIn K (He.ga K "NoText") (.type "object") = some true)) rfl)) (of_decide_eq_true (exs_at c.ex 75 (f := fun K => decide (PySem.W.kitOne K (.ref (He.ga K "NoText")) (.ref (He.ga K "NoDeed")) = some false)) rfl)) (of_decide_eq_true (exs_at c.ex 76 (f := fun K => decide (PySem.W.kitOne K (.ref (He.ga K "NoText")) (.ref (He.ga K "NoPlan")) = some false)) rfl)) (of_decide_eq_true (exs_at c.ex 77 (f := fun K => decide (PySem.W.kitOne K (.ref (He.ga K "NoText")) (.ref (He.ga K "NoRoom")) = some false)) rfl)) (of_decide_eq_true (exs_at c.ex 78 (f := fun K => decide (PySem.W.kitOne K (.ref (He.ga K "NoText")) (.ref (He.ga K "NoText")) = some true)) rfl)) (of_decide_eq_true (exs_at c.ex 79 (f := fun K => decide (PySem.W.kitOne K (.ref (He.ga K "NoText")) (.ref (He.ga K "NotEven")) = some false)) rfl)) (of_decide_eq_true (exs_at c.ex 80 (f := fun K => decide (PySem.W.kitOne K (.ref (He.ga K "NoText")) (.ref (He.ga K "TooMany")) = some false)) rfl)) (of_decide_eq_true (exs_at c.ex 81 (f := fun K => decide (PySem.W.kitOne K (.ref (He.ga K "NoText")) (.ref (He.ga K "WishError")) = some true)) rfl)) (of_decide_eq_true (exs_at c.ex 82 (f := fun K => decide (PySem.W.kitOne K (.ref (He.ga K "NoText")) (.type "ValueError") = some true)) rfl)) (of_decide_eq_true (exs_at c.ex 83 (f := fun K => decide (PySem.W.findIn K (.ref (He.ga K "NotEven")) "__getattribute__" = some (some (.builtin "BaseException.__getattribute__")))) rfl)) (of_decide_eq_true (exs_at c.ex 84 (f := fun K => decide (PySem.W.findIn K (.ref (He.ga K "NotEven")) "__getattr__" = some none)) rfl)) (of_decide_eq_true (exs_at c.ex 85 (f := fun K => decide (PySem.W.subIn K (.ref (He.ga K "NotEven")) (.type "BaseException") = some true)) rfl)) (of_decide_eq_true (exs_at c.ex 86 (f := fun K => decide (PySem.W.hasDictIn K (He.ga K "NotEven") = true)) rfl)) (of_decide_eq_true (exs_at c.ex 87 (f := fun K => decide (PySem.W.findIn K (.ref (He.ga K "NotEven")) "__class__" = some (some (.builtin "object.__class__")))) rfl)) (of_decide_eq_true (exs_at c.ex 88 (f := fun K => decide (PySem.W.mroIn K (He.ga K "NotEven") (.type "object") = some true)) rfl)) (of_decide_eq_true (exs_at c.ex 89 (f := fun K => decide (PySem.W.kitOne K (.ref (He.ga K "NotEven")) (.ref (He.ga K "NoDeed")) = some false)) rfl)) (of_decide_eq_true (exs_at c.ex 90 (f := fun K => decide (PySem.W.kitOne K (.ref (He.ga K "NotEven")) (.ref (He.ga K "NoPlan")) = some false)) rfl)) (of_decide_eq_true (exs_at c.ex 91 (f := fun K => decide (PySem.W.kitOne K (.ref (He.ga K "NotEven")) (.ref (He.ga K "NoRoom")) = some false)) rfl)) (of_decide_eq_true (exs_at c.ex 92 (f := fun K => decide (PySem.W.kitOne K (.ref (He.ga K "NotEven")) (.ref (He.ga K "NoText")) = some false)) rfl)) (of_decide_eq_true (exs_at c.ex 93 (f := fun K => decide (PySem.W.kitOne K (.ref (He.ga K "NotEven")) (.ref (He.ga K "NotEven")) = some true)) rfl)) (of_decide_eq_true (exs_at c.ex 94 (f := fun K => decide (PySem.W.kitOne K (.ref (He.ga K "NotEven")) (.ref (He.ga K "TooMany")) = some false)) rfl)) (of_decide_eq_true (exs_at c.ex 95 (f := fun K => decide (PySem.W.kitOne K (.ref (He.ga K "NotEven")) (.ref (He.ga K "WishError")) = some true)) rfl)) (of_decide_eq_true (exs_at c.ex 96 (f := fun K => decide (PySem.W.kitOne K (.ref (He.ga K "NotEven")) (.type "ValueError") = some true)) rfl)) (of_decide_eq_true (exs_at c.ex 97 (f := fun K => decide (PySem.W.findIn K (.ref (He.ga K "TooMany")) "__getattribute__" = some (some (.builtin "BaseException.__getattribute__")))) rfl)) (of_decide_eq_true (exs_at c.ex 98 (f := fun K => decide (PySem.W.findIn K (.ref (He.ga K "TooMany")) "__getattr__" = some none)) rfl)) (of_decide_eq_true (exs_at c.ex 99 (f := fun K => decide (PySem.W.subIn K (.ref (He.ga K "TooMany")) (.type "BaseException") = some true)) rfl)) (of_decide_eq_true (exs_at c.ex 100 (f := fun K => decide (PySem.W.hasDictIn K (He.ga K "TooMany") = true)) rfl)) (of_decide_eq_true (exs_at c.ex 101 (f := fun K => decide (PySem.W.findIn K (.ref (He.ga K "TooMany")) "__class__" = some (some (.builtin "object.__class__")))) rfl)) (of_decide_eq_true (exs_at c.ex 102 (f := fun K => decide (PySem.W.mroIn K (He.ga K "TooMany") (.type "object") = some true)) rfl)) (of_decide_eq_true (exs_at c.ex 103 (f := fun K => decide (PySem.W.kitOne K (.ref (He.ga K "TooMany")) (.ref (He.ga K "NoDeed")) = some false)) rfl)) (of_decide_eq_true (exs_at c.ex 104 (f := fun K => decide (PySem.W.kitOne K (.ref (He.ga K "TooMany")) (.ref (He.ga K "NoPlan")) = some false)) rfl)) (of_decide_eq_true (exs_at c.ex 105 (f := fun K => decide (PySem.W.kitOne K (.ref (He.ga K "TooMany")) (.ref (He.ga K "NoRoom")) = some false)) rfl)) (of_decide_eq_true (exs_at c.ex 106 (f := fun K => decide (PySem.W.kitOne K (.ref (He.ga K "TooMany")) (.ref (He.ga K "NoText")) = some false)) rfl)) (of_decide_eq_true (exs_at c.ex 107 (f := fun K => decide (PySem.W.kitOne K (.ref (He.ga K "TooMany")) (.ref (He.ga K "NotEven")) = some false)) rfl)) (of_decide_eq_true (exs_at c.ex 108 (f := fun K => decide (PySem.W.kitOne K (.ref (He.ga K "TooMany")) (.ref (He.ga K "TooMany")) = some true)) rfl)) (of_decide_eq_true (exs_at c.ex 109 (f := fun K => decide (PySem.W.kitOne K (.ref (He.ga K "TooMany")) (.ref (He.ga K "WishError")) = some true)) rfl)) (of_decide_eq_true (exs_at c.ex 110 (f := fun K => decide (PySem.W.kitOne K (.ref (He.ga K "TooMany")) (.type "ValueError") = some true)) rfl)) (of_decide_eq_true (exs_at c.ex 111 (f := fun K => decide (PySem.W.kitOne K (.type "tuple") (.ref (He.ga K "NoDeed")) = some false)) rfl)) (of_decide_eq_true (exs_at c.ex 112 (f := fun K => decide (PySem.W.kitOne K (.type "int") (.ref (He.ga K "NoDeed")) = some false)) rfl)) (of_decide_eq_true (exs_at c.ex 113 (f := fun K => decide (PySem.W.kitOne K (.type "tuple") (.ref (He.ga K "NoPlan")) = some false)) rfl)) (of_decide_eq_true (exs_at c.ex 114 (f := fun K => decide (PySem.W.kitOne K (.type "int") (.ref (He.ga K "NoPlan")) = some false)) rfl)) (of_decide_eq_true (exs_at c.ex 115 (f := fun K => decide (PySem.W.kitOne K (.type "tuple") (.ref (He.ga K "NoRoom")) = some false)) rfl)) (of_decide_eq_true (exs_at c.ex 116 (f := fun K => decide (PySem.W.kitOne K (.type "int") (.ref (He.ga K "NoRoom")) = some false)) rfl)) (of_decide_eq_true (exs_at c.ex 117 (f := fun K => decide (PySem.W.kitOne K (.type "tuple") (.ref (He.ga K "NoText")) = some false)) rfl)) (of_decide_eq_true (exs_at c.ex 118 (f := fun K => decide (PySem.W.kitOne K (.type "int") (.ref (He.ga K "NoText")) = some false)) rfl)) (of_decide_eq_true (exs_at c.ex 119 (f := fun K => decide (PySem.W.kitOne K (.type "tuple") (.ref (He.ga K "NotEven")) = some false)) rfl)) (of_decide_eq_true (exs_at c.ex 120 (f := fun K => decide (PySem.W.kitOne K (.type "int") (.ref (He.ga K "NotEven")) = some false)) rfl)) (of_decide_eq_true (exs_at c.ex 121 (f := fun K => decide (PySem.W.kitOne K (.type "tuple") (.ref (He.ga K "TooMany")) = some false)) rfl)) (of_decide_eq_true (exs_at c.ex 122 (f := fun K => decide (PySem.W.kitOne K (.type "int") (.ref (He.ga K "TooMany")) = some false)) rfl)) (of_decide_eq_true (exs_at c.ex 123 (f := fun K => decide (PySem.W.kitOne K (.type "tuple") (.ref (He.ga K "WishError")) = some false)) rfl)) (of_decide_eq_true (exs_at c.ex 124 (f := fun K => decide (PySem.W.kitOne K (.type "int") (.ref (He.ga K "WishError")) = some false)) rfl)) (of_decide_eq_true (exs_at c.ex 125 (f := fun K => decide (PySem.W.findIn K (.ref (He.ga K "NoRoom")) "__getattribute__" = some (some (.builtin "BaseException.__getattribute__")))) rfl)) (of_decide_eq_true (exs_at c.ex 126 (f := fun K => decide (PySem.W.findIn K (.ref (He.ga K "NoRoom")) "__getattr__" = some none)) rfl)) (of_decide_eq_true (exs_at c.ex 127 (f := fun K => decide (PySem.W.subIn K (.ref (He.ga K "NoRoom")) (.type "BaseException") = some true)) rfl)) (of_decide_eq_true (exs_at c.ex 128 (f := fun K => decide (PySem.W.hasDictIn K (He.ga K "NoRoom") = true)) rfl)) (of_decide_eq_true (exs_at c.ex 129 (f := fun K => decide (PySem.W.findIn K (.ref (He.ga K "NoRoom")) "work" = some none)) rfl)) (of_decide_eq_true (exs_at c.ex 130 (f := fun K => decide (PySem.W.nsIn K mainGlobals "is_number" = some (some (.ref (He.fAd K d_p_is_number.at_))))) rfl)) l0 c0 k0 (of_decide_eq_true (exs_at c.ex 131 (f := fun K => decide (PySem.W.nsIn K mainGlobals "is_even" = some (some (.ref (He.fAd K d_p_is_even.at_))))) rfl)) l1 c1 k1 (of_decide_eq_true (exs_at c.ex 132 (f := fun K => decide (PySem.W.nsIn K mainGlobals "room_up_to" = some (some (.ref (He.fAd K d_p_room_up_to.at_))))) rfl)) l2 c2 k2 (of_decide_eq_true (exs_at c.ex 133 (f := fun K => decide (PySem.W.nsIn K mainGlobals "is_no_lower" = some (some (.ref (He.fAd K d_p_is_no_lower.at_))))) rfl)) l3 c3 k3 (of_decide_eq_true (exs_at c.ex 134 (f := fun K => decide (PySem.W.nsIn K mainGlobals "in_blocks" = some (some (.ref (He.fAd K d_p_in_blocks.at_))))) rfl)) l4 c4 k4 (of_decide_eq_true (exs_at c.ex 135 (f := fun K => decide (PySem.W.nsIn K mainGlobals "_law_deck" = some (some (.ref (He.fAd K d_f_law_deck.at_))))) rfl)) l5 c5 k5 (of_decide_eq_true (exs_at c.ex 136 (f := fun K => decide (PySem.W.nsIn K mainGlobals "_law_next" = some (some (.ref (He.fAd K d_f_law_next.at_))))) rfl)) l6 c6 k6 (of_decide_eq_true (exs_at c.ex 137 (f := fun K => decide (PySem.W.nsIn K mainGlobals "_law_put" = some (some (.ref (He.fAd K d_f_law_put.at_))))) rfl)) l7 c7 k7 (of_decide_eq_true (exs_at c.ex 138 (f := fun K => decide (PySem.W.nsIn K mainGlobals "_law_same" = some (some (.ref (He.fAd K d_f_law_same.at_))))) rfl)) l8 c8 k8 (of_decide_eq_true (exs_at c.ex 139 (f := fun K => decide (PySem.W.nsIn K mainGlobals "_law_is_from" = some (some (.ref (He.fAd K d_f_law_is_from.at_))))) rfl)) l9 c9 k9 (of_decide_eq_true (exs_at c.ex 140 (f := fun K => decide (PySem.W.nsIn K mainGlobals "_law_ways" = some (some (.ref (He.fAd K d_f_law_ways.at_))))) rfl)) l10 c10 k10 (of_decide_eq_true (exs_at c.ex 141 (f := fun K => decide (PySem.W.nsIn K mainGlobals "_law_clash" = some (some (.ref (He.fAd K d_f_law_clash.at_))))) rfl)) l11 c11 k11 (of_decide_eq_true (exs_at c.ex 142 (f := fun K => decide (PySem.W.nsIn K mainGlobals "_law_kept" = some (some (.ref (He.fAd K d_f_law_kept.at_))))) rfl)) l12 c12 k12 (of_decide_eq_true (exs_at c.ex 143 (f := fun K => decide (PySem.W.nsIn K mainGlobals "_law_room" = some (some (.ref (He.fAd K d_f_law_room.at_))))) rfl)) l13 c13 k13 (of_decide_eq_true (exs_at c.ex 144 (f := fun K => decide (PySem.W.nsIn K mainGlobals "_law_is_kind" = some (some (.ref (He.fAd K d_f_law_is_kind.at_))))) rfl)) l14 c14 k14 (of_decide_eq_true (exs_at c.ex 145 (f := fun K => decide (PySem.W.nsIn K mainGlobals "is_from" = some (some (.ref (He.fAd K d_p_is_from.at_))))) rfl)) l15 c15 k15 (of_decide_eq_true (exs_at c.ex 146 (f := fun K => decide (PySem.W.nsIn K mainGlobals "do_fit" = some (some (.ref (He.fAd K d_p_do_fit.at_))))) rfl)) l16 c16 k16 (of_decide_eq_true (exs_at c.ex 147 (f := fun K => decide (PySem.W.nsIn K mainGlobals "_law_goes" = some (some (.ref (He.fAd K d_f_law_goes.at_))))) rfl)) l17 c17 k17 (of_decide_eq_true (exs_at c.ex 148 (f := fun K => decide (PySem.W.nsIn K mainGlobals "_law_is_way" = some (some (.ref (He.fAd K d_f_law_is_way.at_))))) rfl)) l18 c18 k18 (of_decide_eq_true (exs_at c.ex 149 (f := fun K => decide (PySem.W.nsIn K mainGlobals "_law_even_wish" = some (some (.ref (He.fAd K d_f_law_even_wish.at_))))) rfl)) l19 c19 k19 (of_decide_eq_true (exs_at c.ex 150 (f := fun K => decide (PySem.W.nsIn K mainGlobals "_law_full_days" = some (some (.ref (He.fAd K d_f_law_full_days.at_))))) rfl)) l20 c20 k20 (of_decide_eq_true (exs_at c.ex 151 (f := fun K => decide (PySem.W.nsIn K mainGlobals "_law_uneven" = some (some (.ref (He.fAd K d_f_law_uneven.at_))))) rfl)) l21 c21 k21 (of_decide_eq_true (exs_at c.ex 152 (f := fun K => decide (PySem.W.nsIn K mainGlobals "holds_full" = some (some (.ref (He.fAd K d_p_holds_full.at_))))) rfl)) l22 c22 k22 (of_decide_eq_true (exs_at c.ex 153 (f := fun K => decide (PySem.W.nsIn K mainGlobals "taken_wishes" = some (some (.ref (He.fAd K d_p_taken_wishes.at_))))) rfl)) l23 c23 k23 (of_decide_eq_true (exs_at c.ex 154 (f := fun K => decide (PySem.W.nsIn K mainGlobals "_law_is_plan" = some (some (.ref (He.fAd K d_f_law_is_plan.at_))))) rfl)) l24 c24 k24 (of_decide_eq_true (exs_at c.ex 155 (f := fun K => decide (PySem.W.nsIn K mainGlobals "_law_even" = some (some (.ref (He.fAd K d_f_law_even.at_))))) rfl)) l25 c25 k25 (of_decide_eq_true (exs_at c.ex 156 (f := fun K => decide (PySem.W.nsIn K mainGlobals "_law_is_pair" = some (some (.ref (He.fAd K d_f_law_is_pair.at_))))) rfl)) l26 c26 k26 (of_decide_eq_true (exs_at c.ex 157 (f := fun K => decide (PySem.W.nsIn K mainGlobals "full_day" = some (some (.ref (He.fAd K d_p_full_day.at_))))) rfl)) l27 c27 k27 (of_decide_eq_true (exs_at c.ex 158 (f := fun K => decide (PySem.W.nsIn K mainGlobals "_law_is_paper" = some (some (.ref (He.fAd K d_f_law_is_paper.at_))))) rfl)) l28 c28 k28 (of_decide_eq_true (exs_at c.ex 159 (f := fun K => decide (PySem.W.nsIn K mainGlobals "even" = some (some (.ref (He.fAd K d_p_even.at_))))) rfl)) l29 c29 k29 (of_decide_eq_true (exs_at c.ex 160 (f := fun K => decide (PySem.W.nsIn K mainGlobals "_law_told" = some (some (.ref (He.fAd K d_f_law_told.at_))))) rfl)) l30 c30 k30 (of_decide_eq_true (exs_at c.ex 161 (f := fun K => decide (PySem.W.nsIn K mainGlobals "law" = some (some (.ref (He.fAd K d_p_law.at_))))) rfl)) l31 c31 k31 (of_decide_eq_true (exs_at c.ex 162 (f := fun K => decide (PySem.W.nsIn K mainGlobals "ValueError" = some none)) rfl)) (of_decide_eq_true (exs_at c.ex 163 (f := fun K => decide (PySem.W.nsIn K mainGlobals "abs" = some none)) rfl)) (of_decide_eq_true (exs_at c.ex 164 (f := fun K => decide (PySem.W.nsIn K mainGlobals "bool" = some none)) rfl)) (of_decide_eq_true (exs_at c.ex 165 (f := fun K => decide (PySem.W.nsIn K mainGlobals "enumerate" = some none)) rfl)) (of_decide_eq_true (exs_at c.ex 166 (f := fun K => decide (PySem.W.nsIn K mainGlobals "int" = some none)) rfl)) (of_decide_eq_true (exs_at c.ex 167 (f := fun K => decide (PySem.W.nsIn K mainGlobals "isinstance" = some none)) rfl)) (of_decide_eq_true (exs_at c.ex 168 (f := fun K => decide (PySem.W.nsIn K mainGlobals "len" = some none)) rfl)) (of_decide_eq_true (exs_at c.ex 169 (f := fun K => decide (PySem.W.nsIn K mainGlobals "min" = some none)) rfl)) (of_decide_eq_true (exs_at c.ex 170 (f := fun K => decide (PySem.W.nsIn K mainGlobals "range" = some none)) rfl)) (of_decide_eq_true (exs_at c.ex 171 (f := fun K => decide (PySem.W.nsIn K mainGlobals "repr" = some none)) rfl)) (of_decide_eq_true (exs_at c.ex 172 (f := fun K => decide (PySem.W.nsIn K mainGlobals "set" = some none)) rfl)) (of_decide_eq_true (exs_at c.ex 173 (f := fun K => decide (PySem.W.nsIn K mainGlobals "sorted" = some none)) rfl)) (of_decide_eq_true (exs_at c.ex 174 (f := fun K => decide (PySem.W.nsIn K mainGlobals "tuple" = some none)) rfl)) (of_decide_eq_true (exs_at c.ex 175 (f := fun K => decide (PySem.W.nsIn K mainGlobals "zip" = some none)) rfl))
end HeadF
end DL
open PySem PySem.W PySem.Calls PyProof.Rows
set_option maxHeartbeats 0 in
theorem PySem.Challenge.cw_workwishes_k42_even_told_or_refused_holds : PySem.Challenge.rw_workwishes_k42_even_told_or_refused.Holds := by
  w_on; o_law
  refine HandSHeadRun.head_any (r := OpenLaw.row PySem.Challenge.rw_workwishes_k42_even_told_or_refused) (q := view (OpenLaw.row PySem.Challenge.rw_workwishes_k42_even_told_or_refused).prog [43]) (H := DL.HeadF.hk) (ob := DL.HeadF.ob) (M := 40000) (loose := DL.HeadF.loose) (d := HandSHeadRun.topDef (OpenLaw.row PySem.Challenge.rw_workwishes_k42_even_told_or_refused).prog 43) (kwd := []) DL.HeadF.ob_eq (by kernel_rfl) (fun s => by kernel_rfl) DL.HeadF.run (by kernel_rfl) (by kernel_rfl) (by kernel_rfl) (by rfl) (by first | assumption | decide +kernel) (by decide +kernel) ⟨rfl, rfl, rfl, rfl, rfl, by decide +kernel⟩ ?hw ?hc
  case hw => w_witness2
  case hc =>
    refine DL.walk_TE (l := PySem.Challenge.rw_workwishes_k42_even_told_or_refused) (n := 63) (k := 7) (x := "_law_script") (sp := fun K => DL.spOf K DL.M.S_p_law) rfl (by decide) (by kernel_rfl) ⟨rfl, by decide, by decide⟩ ?F (fun K H a ns hl hT hS => DL.law_end (S := DL.M.S_p_law) rfl (fun ns => ns) (fun _ => rfl) (fun ns h => ⟨h, rfl⟩) (fun _ _ _ _ h => h) H a ns hl hT hS)
    intro w mg fa h Y G hmg0
    obtain ⟨K, KX, c⟩ := Y
    have hmg : mg ("law" : PySem.Str) = some (.ref fa) := by
      have e : (HandSHeadRun.topDef (OpenLaw.row PySem.Challenge.rw_workwishes_k42_even_told_or_refused).prog 43).name = ("law" : PySem.Str) := by kernel_rfl
      rw [← e]
      exact hmg0
    exact ⟨K, KX, DL.tabs_ok KX c, DL.HeadF.facts KX G hmg c⟩
