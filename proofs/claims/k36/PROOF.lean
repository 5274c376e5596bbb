import PyProof.Rows.All
import Wide.All
import OpenK.AllK
import Wide.FinOn
import HandS.Base
import HandS.Call
import HandS.List
import HandS.Comp
import HandS.Dict
import HandS.Iter
import HandS.Ends
import HandS.Words
import HandS.Lambda
import HandS.EndTab
import HandS.Exc
import HandS.TupAny
import HandS.TupMul
import HandS.Conv
import HandS.Zip
import KE.GoesEnum
import KE.GoesMore
import KE.GoesZip
import HandS.Head0
import HandS.Head1
import HandS.Head2
import HandS.HeadHook4
import HandS.Walk
import HandS.TupLe
import HandS.Wide
import HandS.Style
import HandS.Deep
import HandS.IsInst
import HandS.Text
import HandS.RaiseMore
import PyProof.StrOps2
import HandS.Set
import HandS.SetFor
import HandS.SetTxt0
import HandS.Strs
import HandS.SortOrd
import HandS.SortRule
import HandS.SortInts
import KE.KNestM
import HandS.ExcOwn
import HandS.ExcField
import HandS.ExcInit
import HandS.TryMany
import HandS.Small
import HandS.ExcCtx
import HandS.HotCalls
import HandS.ExcIs
import HandS.ExcValue
import PySem.Challenge.RW_workwishes_k36_no_room
set_option Elab.async false
set_option linter.all false
set_option maxRecDepth 100000
set_option maxHeartbeats 4000000
namespace DL
open PySem PySem.Spec PyProof.Rows L2
inductive D where
  | non | bl (b : Bool) | int (i : Int) | str (s : Str) | tup (ds : List D) | lst (ds : List D) | scr (ds : List D) | dct (kvs : List (Key × Key)) | ref (n : Nat) | fn (a : Addr) (io : List Addr) (F : Hp) | exc (c : Str) (ns : List Str) (ds : List D)
inductive Cel where
  | lst (ds : List D) | dead | ins (C : Str) (fs : List (Str × D)) | dct (l : Option Obj) (kvs : List (Key × Key))
abbrev Sto := List Cel
abbrev En := List (Option D)
/-- a tuple whose object is known to have no dict -/
def SqE (K : PySem.W.Frag) (F : Hp) (a : Addr) (xs : List V) : Prop := (∃ o, F a = some (.frz o (.tup xs)) ∧ o.dict = none) ∨
  ∃ (o : Obj) (its : Array Value) (n : Nat), K.lookup a = some o ∧ o.cls = .type "tuple" ∧ o.data = .seq its n ∧ its.size ≤ sizeLine ∧ Vals xs its.toList ∧ o.dict = none
theorem SqE.t {K : PySem.W.Frag} {F : Hp} {a : Addr} {xs : List V} (s : SqE K F a xs) : SqT K F a xs := by
  rcases s with ⟨o, s, _⟩ | ⟨o, its, n, h1, h2, h3, h4, h5, _⟩
  · exact .inl (.inr ⟨o, s⟩)
  · exact .inr ⟨o, its, n, h1, h2, h3, h4, h5⟩
theorem SqE.mono {K : PySem.W.Frag} {F F' : Hp} {a : Addr} {xs : List V} (h : ∀ a o, F a = some o → F' a = some o) (s : SqE K F a xs) : SqE K F' a xs := by
  rcases s with ⟨o, s, d⟩ | s
  · exact .inl ⟨o, h _ _ s, d⟩
  · exact .inr s
/-- an exception's object at a, its class, its dict -/
def exV (C : Addr) (d : Option Addr) (a : Addr) : HO := .ext fun h => ∃ (oe : Obj) (vs : Array Value), h.get? a = some oe ∧ Zc (.ref C) d oe ∧ oe.data = .fields vs
def ExD (F : Hp) (d : Option Addr) (fv : List (Str × V)) : Prop := (d = none ∧ fv = []) ∨ ∃ dd, d = some dd ∧ F dd = some (.xd fv)
theorem ExD.mono {F F' : Hp} {d : Option Addr} {fv : List (Str × V)} (h : ∀ a o, F a = some o → F' a = some o) (x : ExD F d fv) : ExD F' d fv := by
  rcases x with x | ⟨dd, e, z⟩
  · exact .inl x
  · exact .inr ⟨dd, e, h _ _ z⟩
mutual
inductive Den (K : PySem.W.Frag) (io : List Addr) (F : Hp) : V → D → Prop
  | non : Den K io F .non .non
  | bl (b : Bool) : Den K io F (.bl b) (.bl b)
  | int (i : Int) : Den K io F (.int i) (.int i)
  | str (x : Str) : Den K io F (.str x) (.str x)
  | tup {a : Addr} {xs : List V} {ds : List D} : SqE K F a xs → DenL K io F xs ds → ds.length ≤ sizeLine → Den K io F (.ref a) (.tup ds)
  | lst {a : Addr} {xs : List V} {ds : List D} : F a = some (.lst xs) → DenL K io F xs ds → ds.length ≤ sizeLine → Den K io F (.ref a) (.lst ds)
  | scr {a : Addr} {xs : List V} {ds : List D} : SqL K F a xs → DenL K io F xs ds → ds.length ≤ sizeLine → Den K io F (.ref a) (.scr ds)
  | dct {a : Addr} {kvs : List (Key × Key)} : F a = some (.dK (kvs.map fun p => (p.1, kV p.2))) → Den K io F (.ref a) (.dct kvs)
  | ref {a : Addr} {n : Nat} : io[n]? = some a → Den K io F (.ref a) (.ref n)
  | fn {a : Addr} {io0 : List Addr} {F0 : Hp} : (∀ (n : Nat) b, io0[n]? = some b → io[n]? = some b) → (∀ b o, F0 b = some o → F b = some o) → Den K io F (.ref a) (.fn a io0 F0)
  | exc {a C : Addr} {c : Str} {d : Option Addr} {fv : List (Str × V)} {ns : List Str} {vs : List V} {ds : List D} : PySem.W.nsIn K mainGlobals c = some (some (.ref C)) → F a = some (exV C d a) → ExD F d fv → ns = fv.map (·.1) → vs = fv.map (·.2) → DenL K io F vs ds → Den K io F (.ref a) (.exc c ns ds)
inductive DenL (K : PySem.W.Frag) (io : List Addr) (F : Hp) : List V → List D → Prop
  | nil : DenL K io F [] []
  | cons {v : V} {vs : List V} {d : D} {ds : List D} : Den K io F v d → DenL K io F vs ds → DenL K io F (v :: vs) (d :: ds)
end
section
variable {K : PySem.W.Frag} {io io' : List Addr} {F F' : Hp}
theorem SqT_mono {a : Addr} {xs : List V} (h : ∀ a o, F a = some o → F' a = some o) (s : SqT K F a xs) : SqT K F' a xs := by
  rcases s with (s | ⟨o, s⟩) | s
  · exact .inl (.inl (h _ _ s))
  · exact .inl (.inr ⟨o, h _ _ s⟩)
  · exact .inr s
theorem SqL_mono {a : Addr} {xs : List V} (h : ∀ a o, F a = some o → F' a = some o) (s : SqL K F a xs) : SqL K F' a xs := by
  rcases s with (s | ⟨o, s⟩) | s
  · exact .inl (.inl (h _ _ s))
  · exact .inl (.inr ⟨o, h _ _ s⟩)
  · exact .inr s
mutual
theorem Den.mono (hi : ∀ (n : Nat) a, io[n]? = some a → io'[n]? = some a) (h : ∀ a o, F a = some o → F' a = some o) : ∀ {v : V} {d : D}, Den K io F v d → Den K io' F' v d
  | _, _, .non => .non
  | _, _, .bl b => .bl b
  | _, _, .int i => .int i
  | _, _, .str x => .str x
  | _, _, .tup s r z => .tup (s.mono h) (DenL.mono hi h r) z
  | _, _, .lst s r z => .lst (h _ _ s) (DenL.mono hi h r) z
  | _, _, .scr s r z => .scr (SqL_mono h s) (DenL.mono hi h r) z
  | _, _, .dct e => .dct (h _ _ e)
  | _, _, .ref e => .ref (hi _ _ e)
  | _, _, .fn a b => .fn (fun n c e => hi n c (a n c e)) (fun c o e => h c o (b c o e))
  | _, _, .exc n e x a b r => .exc n (h _ _ e) (x.mono h) a b (DenL.mono hi h r)
theorem DenL.mono (hi : ∀ (n : Nat) a, io[n]? = some a → io'[n]? = some a) (h : ∀ a o, F a = some o → F' a = some o) : ∀ {vs : List V} {ds : List D}, DenL K io F vs ds → DenL K io' F' vs ds
  | _, _, .nil => .nil
  | _, _, .cons a b => .cons (Den.mono hi h a) (DenL.mono hi h b)
end
theorem DenL.length : ∀ {vs : List V} {ds : List D}, DenL K io F vs ds → vs.length = ds.length
  | _, _, .nil => rfl
  | _, _, .cons _ r => by rw [List.length_cons, List.length_cons, r.length]
theorem DenL.get : ∀ {vs : List V} {ds : List D} {i : Nat} {d : D}, DenL K io F vs ds → ds[i]? = some d → ∃ v, vs[i]? = some v ∧ Den K io F v d
  | _, _, _, _, .nil, e => by simp at e
  | _, _, 0, _, .cons r _, e => by simp at e; subst e; exact ⟨_, rfl, r⟩
  | _, _, i + 1, d, .cons _ t, e => by
    obtain ⟨u, h1, h2⟩ := DenL.get (i := i) (d := d) t (by simpa using e)
    exact ⟨u, by simpa using h1, h2⟩
theorem DenL.append : ∀ {vs ws : List V} {ds es : List D}, DenL K io F vs ds → DenL K io F ws es → DenL K io F (vs ++ ws) (ds ++ es)
  | _, _, _, _, .nil, s => s
  | _, _, _, _, .cons r t, s => .cons r (DenL.append t s)
theorem DenL.take : ∀ {vs : List V} {ds : List D} (n : Nat), DenL K io F vs ds → DenL K io F (vs.take n) (ds.take n)
  | _, _, 0, _ => by rw [List.take_zero, List.take_zero]; exact .nil
  | _, _, _ + 1, .nil => .nil
  | _, _, n + 1, .cons r t => .cons r (DenL.take n t)
theorem DenL.drop : ∀ {vs : List V} {ds : List D} (n : Nat), DenL K io F vs ds → DenL K io F (vs.drop n) (ds.drop n)
  | _, _, 0, r => r
  | _, _, _ + 1, .nil => .nil
  | _, _, n + 1, .cons _ t => DenL.drop n t
theorem DenL.setAt : ∀ {vs : List V} {ds : List D} (i : Nat) {v : V} {d : D}, Den K io F v d → DenL K io F vs ds → DenL K io F (vs.set i v) (ds.set i d)
  | _, _, _, _, _, _, .nil => .nil
  | _, _, 0, _, _, q, .cons _ t => .cons q t
  | _, _, i + 1, _, _, q, .cons r t => .cons r (DenL.setAt i q t)
theorem DenL.erase : ∀ {vs : List V} {ds : List D} (i : Nat), DenL K io F vs ds → DenL K io F (vs.eraseIdx i) (ds.eraseIdx i)
  | _, _, _, .nil => .nil
  | _, _, 0, .cons _ t => t
  | _, _, i + 1, .cons r t => .cons r (DenL.erase i t)
theorem DenL.none_of {vs : List V} {ds : List D} {i : Nat} (r : DenL K io F vs ds) (e : ds[i]? = none) : vs[i]? = none := by
  have h := r.length
  have h2 := List.getElem?_eq_none_iff.mp e
  exact List.getElem?_eq_none_iff.mpr (by omega)
theorem DenL.replicate {v : V} {d : D} (h : Den K io F v d) : ∀ n : Nat, DenL K io F (List.replicate n v) (List.replicate n d)
  | 0 => .nil
  | n + 1 => by rw [List.replicate_succ, List.replicate_succ]; exact .cons h (DenL.replicate h n)
theorem DenL.flat {vs : List V} {ds : List D} (h : DenL K io F vs ds) : ∀ n : Nat, DenL K io F (List.replicate n vs).flatten (List.replicate n ds).flatten
  | 0 => .nil
  | n + 1 => by rw [List.replicate_succ, List.replicate_succ, List.flatten_cons, List.flatten_cons]; exact h.append (DenL.flat h n)
end
def lamNames : List Str := ["weights_of", "hoped_weights"]
def lamQ (x : Str) : Str := x ++ ".<locals>." ++ "<lambda>"
def tabsOf (K : PySem.W.Frag) : List (Addr × Str) := lamNames.filterMap fun x => (PySem.W.tabIn K x).map fun p => (p.2, lamQ x)
abbrev DenF (K : PySem.W.Frag) (io : List Addr) (F : Hp) : List (Str × V) → List (Str × D) → Prop := Paired fun p q => p.1 = q.1 ∧ Den K io F p.2 q.2
/-- a dict of one's own: open, or locked while it is walked -/
def DLk (l : Option Obj) (kvs : List (Key × Key)) (u : HO) : Prop := (l = none ∧ u = .dK (kvs.map fun p => (p.1, kV p.2))) ∨ ∃ o, l = some o ∧ u = .frz o (.dK (kvs.map fun p => (p.1, kV p.2)))
def CelOk (K : PySem.W.Frag) (H : Hp) (io : List Addr) (F : Hp) (a : Addr) : Cel → Prop
  | .lst ds => F a = none ∧ ds.length ≤ sizeLine ∧ ∃ vs, H a = some (.lst vs) ∧ DenL K io F vs ds
  | .dead => True
  | .ins C fs => F a = none ∧ ∃ cc dx fv, PySem.W.nsIn K mainGlobals C = some (some (.ref cc)) ∧ H a = some (.ins cc dx fv) ∧ DenF K io F fv fs
  | .dct b kvs => F a = none ∧ kvs.length ≤ sizeLine ∧ ∃ u, H a = some u ∧ DLk b kvs u
structure RelH (K : PySem.W.Frag) (H : Hp) (io : List Addr) (F : Hp) (st : Sto) : Prop where
  sub : ∀ a o, F a = some o → H a = some o
  len : io.length = st.length
  nd : io.Nodup
  there : ∀ a ∈ io, ∃ o, H a = some o
  cel : ∀ (n : Nat) c a, st[n]? = some c → io[n]? = some a → CelOk K H io F a c
  tab : ∀ p ∈ tabsOf K, F p.1 = none ∧ p.1 ∉ io ∧ ∃ ps, H p.1 = some (.tbl ps) ∧ TriplesOk ps.toList ∧ ∀ (pos : Pos) (cv : Value), codeAmong pos ps.toList = some cv → ∃ c, cv = .ref c ∧ F c = some (LamX.CodeO c p.2)
/-- from one state to a later one -/
structure Stp (H : Hp) (io : List Addr) (F H' : Hp) (io' : List Addr) (F' : Hp) : Prop where
  ext : ∃ more, io' = io ++ more ∧ ∀ a ∈ more, H a = none
  fr : ∀ a o, F a = some o → F' a = some o
  keep : ∀ a o, H a = some o → (∀ ps, o ≠ .tbl ps) → a ∉ io → H' a = some o
  dom : ∀ a o, H a = some o → ∃ o', H' a = some o'
  fnw : ∀ a o, F' a = some o → F a = some o ∨ H a = none ∨ a ∈ io
/-- whence an exception's wish looks on: the state at a def's, a try's or a suite's start -/
class Bs where
  H : Hp
  io : List Addr
  F : Hp
structure Rel [B : Bs] (K : PySem.W.Frag) (σ : L2.St) (H : Hp) (env : En) (io : List Addr) (F : Hp) (st : Sto) : Prop extends RelH K H io F st where
  sl : σ.length = env.length
  slot : ∀ (i : Nat) d, env[i]? = some (some d) → ∃ v, σ[i]? = some (some v) ∧ Den K io F v d
  bs : Stp B.H B.io B.F H io F
section
variable {K : PySem.W.Frag} {io io' io1 io2 : List Addr} {F F' F1 F2 H H' H1 H2 : Hp} {st st' : Sto} {σ : L2.St} {env : En}
theorem Stp.ix (s : Stp H io F H' io' F') (n : Nat) (a : Addr) (h : io[n]? = some a) : io'[n]? = some a := by
  obtain ⟨more, e, _⟩ := s.ext
  subst e
  rw [List.getElem?_append_left (List.getElem?_eq_some_iff.mp h).1]
  exact h
theorem Stp.den (s : Stp H io F H' io' F') {v : V} {d : D} (h : Den K io F v d) : Den K io' F' v d := h.mono s.ix s.fr
theorem Stp.denL (s : Stp H io F H' io' F') {v : List V} {d : List D} (h : DenL K io F v d) : DenL K io' F' v d := h.mono s.ix s.fr
theorem Stp.refl : Stp H io F H io F := ⟨⟨[], by simp, fun _ h => by cases h⟩, fun _ _ h => h, fun _ _ h _ _ => h, fun _ o h => ⟨o, h⟩, fun _ _ h => .inl h⟩
theorem Stp.none_of (s : Stp H io F H' io' F') {a : Addr} (h : H' a = none) : H a = none := by
  cases e : H a with
  | none => rfl
  | some o =>
    obtain ⟨o', h'⟩ := s.dom a o e
    rw [h] at h'; cases h'
theorem Stp.trans (s : Stp H io F H1 io1 F1) (t : Stp H1 io1 F1 H2 io2 F2) : Stp H io F H2 io2 F2 := by
  obtain ⟨m1, e1, n1⟩ := s.ext
  obtain ⟨m2, e2, n2⟩ := t.ext
  refine ⟨⟨m1 ++ m2, by rw [e2, e1, List.append_assoc], fun a ha => ?_⟩, fun a o h => t.fr _ _ (s.fr _ _ h), fun a o h hn ho => ?_, fun a o h => ?_, fun a o h => ?_⟩
  · rcases List.mem_append.mp ha with h | h
    · exact n1 a h
    · exact s.none_of (n2 a h)
  · have h1 := s.keep a o h hn ho
    refine t.keep a o h1 hn fun hm => ?_
    rw [e1] at hm
    rcases List.mem_append.mp hm with h2 | h2
    · exact ho h2
    · have := n1 a h2
      rw [h] at this; cases this
  · obtain ⟨o1, h1⟩ := s.dom a o h
    exact t.dom a o1 h1
  · rcases t.fnw a o h with h1 | h1 | h1
    · exact s.fnw a o h1
    · exact .inr (.inl (s.none_of h1))
    · rw [e1] at h1
      rcases List.mem_append.mp h1 with h2 | h2
      · exact .inr (.inr h2)
      · exact .inr (.inl (n1 a h2))
/-- an object beside frozen ones and the store stays beside, as it is -/
theorem Stp.beside (s : Stp H io F H' io' F') {p : Addr} {o : HO} (h : H p = some o) (hn : ∀ ps, o ≠ .tbl ps) (hF : F p = none) (hio : p ∉ io) : H' p = some o ∧ F' p = none ∧ p ∉ io' := by
  refine ⟨s.keep p o h hn hio, ?_, fun hm => ?_⟩
  · cases e : F' p with
    | none => rfl
    | some u =>
      rcases s.fnw p u e with h1 | h1 | h1
      · rw [hF] at h1; cases h1
      · rw [h] at h1; cases h1
      · exact absurd h1 hio
  · obtain ⟨more, e, n⟩ := s.ext
    rw [e] at hm
    rcases List.mem_append.mp hm with h1 | h1
    · exact hio h1
    · have := n p h1
      rw [h] at this; cases this
/-- an object that was not there at first may change -/
theorem Stp.own (s : Stp H io F H' io' F') {p : Addr} {o : HO} (h : H p = none) : Stp H io F (upd H' p o) io' F' :=
  ⟨s.ext, s.fr, fun a u e hn ho => by rw [upd_ne (fun z => by subst z; rw [h] at e; cases e)]; exact s.keep a u e hn ho, fun a u e => by
    by_cases z : a = p
    · subst z; exact ⟨o, upd_same⟩
    · rw [upd_ne z]; exact s.dom a u e, s.fnw⟩
/-- .. and be frozen -/
theorem Stp.frz (s : Stp H io F H' io' F') {p : Addr} {o : HO} (h : H p = none) (hF : F' p = none) : Stp H io F H' io' (upd F' p o) :=
  ⟨s.ext, fun a u e => by
    have := s.fr a u e
    rw [upd_ne (fun z => by subst z; rw [hF] at this; cases this)]
    exact this, s.keep, s.dom, fun a u e => by
    by_cases z : a = p
    · subst z; exact .inr (.inl h)
    · rw [upd_ne z] at e; exact s.fnw a u e⟩
/-- .. or a cell -/
theorem Stp.cell (s : Stp H io F H' io' F') {p : Addr} (h : H p = none) : Stp H io F H' (io' ++ [p]) F' := by
  obtain ⟨more, e, n⟩ := s.ext
  refine ⟨⟨more ++ [p], by rw [e, List.append_assoc], fun a ha => ?_⟩, s.fr, s.keep, s.dom, s.fnw⟩
  rcases List.mem_append.mp ha with h1 | h1
  · exact n a h1
  · simp at h1; subst h1; exact h
theorem Rel.next [Bs] (R : Rel K σ H env io F st) (s : Stp H io F H' io' F') (r : RelH K H' io' F' st') : Rel K σ H' env io' F' st' :=
  { r with sl := R.sl, bs := R.bs.trans s, slot := fun i d e => let ⟨v, h1, h2⟩ := R.slot i d e; ⟨v, h1, s.den h2⟩ }
theorem RelH.notF (R : RelH K H io F st) {a : Addr} (h : H a = none) : F a = none := by
  cases e : F a with
  | none => rfl
  | some o => have := R.sub _ _ e; rw [h] at this; cases this
theorem RelH.notIo (R : RelH K H io F st) {a : Addr} (h : H a = none) : a ∉ io := fun hm => by
  obtain ⟨o, e⟩ := R.there a hm
  rw [h] at e; cases e
theorem CelOk.next {a : Addr} {c : Cel} (s : Stp H io F H' io' F') (e : H' a = H a) (hf : F a = none → F' a = none) (h : CelOk K H io F a c) : CelOk K H' io' F' a c := by
  cases c with
  | lst ds =>
    obtain ⟨h1, h2, vs, h3, h4⟩ := h
    exact ⟨hf h1, h2, vs, by rw [e]; exact h3, s.denL h4⟩
  | dead => trivial
  | ins C fs =>
    obtain ⟨h1, cc, dx, fv, hc, h3, h4⟩ := h
    exact ⟨hf h1, cc, dx, fv, hc, by rw [e]; exact h3, Paired.mapP h4 fun p q z => ⟨z.1, s.den z.2⟩⟩
  | dct b kvs =>
    obtain ⟨h1, h2, u, h3, h4⟩ := h
    exact ⟨hf h1, h2, u, by rw [e]; exact h3, h4⟩
theorem same_upd {p : Addr} {o : HO} (h : H p = none) : ∀ a u, H a = some u → upd H p o a = some u := fun b x e => by
  rw [upd_ne (ne_of_none e h)]
  exact e
/-- a new frozen object -/
theorem Stp.laid {p : Addr} {o : HO} (h : H p = none) (hF : ∀ a o, F a = some o → H a = some o) : Stp H io F (upd H p o) io (upd F p o) :=
  ⟨⟨[], by simp, fun _ h => by cases h⟩, fun a u e => by rw [upd_ne (fun z => by subst z; have := hF _ _ e; rw [h] at this; cases this)]; exact e, fun a u e _ _ => same_upd h a u e, fun a u e => ⟨u, same_upd h a u e⟩, fun a u e => by
    by_cases z : a = p
    · subst z; exact .inr (.inl h)
    · rw [upd_ne z] at e; exact .inl e⟩
theorem RelH.laid (R : RelH K H io F st) {p : Addr} {o : HO} (h : H p = none) : RelH K (upd H p o) io (upd F p o) st := by
  refine ⟨fun a u e => ?_, R.len, R.nd, fun a ha => ?_, fun n c a h1 h2 => ?_, fun q hq => ?_⟩
  rotate_right
  · obtain ⟨t1, t2, ps, t3, t4, t5⟩ := R.tab q hq
    have ne : q.1 ≠ p := fun z => by rw [z, h] at t3; cases t3
    refine ⟨by rw [upd_ne ne]; exact t1, t2, ps, by rw [upd_ne ne]; exact t3, t4, fun pos cv hc => ?_⟩
    obtain ⟨c, e1, e2⟩ := t5 pos cv hc
    refine ⟨c, e1, ?_⟩
    rw [upd_ne (fun z => by have := R.sub _ _ e2; rw [z, h] at this; cases this)]
    exact e2
  · by_cases z : a = p
    · subst z; rw [upd_same] at e ⊢; exact e
    · rw [upd_ne z] at e ⊢; exact R.sub _ _ e
  · obtain ⟨u, e⟩ := R.there a ha
    exact ⟨u, same_upd h a u e⟩
  · have ne : a ≠ p := fun z => by subst z; exact R.notIo h (List.mem_of_getElem? h2)
    exact (R.cel n c a h1 h2).next (Stp.laid h R.sub) (upd_ne ne) fun hf => by rw [upd_ne ne]; exact hf
/-- a new tracked object that is neither frozen nor in the store -/
theorem Stp.aside {p : Addr} {o : HO} (h : H p = none) : Stp H io F (upd H p o) io F :=
  ⟨⟨[], by simp, fun _ h => by cases h⟩, fun a u e => e, fun a u e _ _ => same_upd h a u e, fun a u e => ⟨u, same_upd h a u e⟩, fun _ _ e => .inl e⟩
theorem RelH.aside (R : RelH K H io F st) {p : Addr} {o : HO} (h : H p = none) : RelH K (upd H p o) io F st := by
  refine ⟨fun a u e => same_upd h _ _ (R.sub _ _ e), R.len, R.nd, fun a ha => ?_, fun n c a h1 h2 => ?_, fun q hq => ?_⟩
  rotate_right
  · obtain ⟨t1, t2, ps, t3, t4, t5⟩ := R.tab q hq
    exact ⟨t1, t2, ps, same_upd h _ _ t3, t4, t5⟩
  · obtain ⟨u, e⟩ := R.there a ha
    exact ⟨u, same_upd h a u e⟩
  · have ne : a ≠ p := fun z => by subst z; exact R.notIo h (List.mem_of_getElem? h2)
    exact (R.cel n c a h1 h2).next (Stp.aside h) (upd_ne ne) fun hf => hf
/-- a tracked object beside the store changes -/
theorem RelH.side (R : RelH K H io F st) {p : Addr} {o o0 : HO} (hp : H p = some o0) (hn : ∀ ps, o0 ≠ .tbl ps) (hf : F p = none) (hio : p ∉ io) : RelH K (upd H p o) io F st := by
  refine ⟨fun a u e => ?_, R.len, R.nd, fun a ha => ?_, fun n c a h1 h2 => ?_, fun q hq => ?_⟩
  rotate_right
  · obtain ⟨t1, t2, ps, t3, t4, t5⟩ := R.tab q hq
    exact ⟨t1, t2, ps, by rw [upd_ne (fun z => by rw [z, hp] at t3; cases t3; exact hn _ rfl)]; exact t3, t4, t5⟩
  · rw [upd_ne (fun z => by subst z; rw [hf] at e; cases e)]
    exact R.sub _ _ e
  · rw [upd_ne (fun z => by subst z; exact hio ha)]
    exact R.there a ha
  · have ne : a ≠ p := fun z => by subst z; exact hio (List.mem_of_getElem? h2)
    have := R.cel n c a h1 h2
    cases c with
    | lst ds => obtain ⟨q1, q2, vs, q3, q4⟩ := this; exact ⟨q1, q2, vs, by rw [upd_ne ne]; exact q3, q4⟩
    | dead => trivial
    | ins C fs => obtain ⟨q1, cc, dx, fv, qc, q3, q4⟩ := this; exact ⟨q1, cc, dx, fv, qc, by rw [upd_ne ne]; exact q3, q4⟩
    | dct b kvs => obtain ⟨q1, q2, u, q3, q4⟩ := this; exact ⟨q1, q2, u, by rw [upd_ne ne]; exact q3, q4⟩
/-- a tracked object beside the store is frozen -/
theorem RelH.frz (R : RelH K H io F st) {p : Addr} {o : HO} (hp : H p = some o) (hn : ∀ ps, o ≠ .tbl ps) (hf : F p = none) (hio : p ∉ io) : RelH K H io (upd F p o) st := by
  have fr : ∀ a u, F a = some u → upd F p o a = some u := fun a u e => by
    rw [upd_ne (fun z => by subst z; rw [hf] at e; cases e)]; exact e
  refine ⟨fun a u e => ?_, R.len, R.nd, R.there, fun n c a h1 h2 => ?_, fun q hq => ?_⟩
  rotate_right
  · obtain ⟨t1, t2, ps, t3, t4, t5⟩ := R.tab q hq
    refine ⟨by rw [upd_ne (fun z => by rw [z, hp] at t3; cases t3; exact hn _ rfl)]; exact t1, t2, ps, t3, t4, fun pos cv hc => ?_⟩
    obtain ⟨c, e1, e2⟩ := t5 pos cv hc
    exact ⟨c, e1, fr _ _ e2⟩
  · by_cases z : a = p
    · subst z; rw [upd_same] at e; cases e; exact hp
    · rw [upd_ne z] at e; exact R.sub _ _ e
  · have ne : a ≠ p := fun z => by subst z; exact hio (List.mem_of_getElem? h2)
    have := R.cel n c a h1 h2
    cases c with
    | lst ds => obtain ⟨q1, q2, vs, q3, q4⟩ := this; exact ⟨by rw [upd_ne ne]; exact q1, q2, vs, q3, q4.mono (fun _ _ h => h) fr⟩
    | dead => trivial
    | ins C fs => obtain ⟨q1, cc, dx, fv, qc, q3, q4⟩ := this; exact ⟨by rw [upd_ne ne]; exact q1, cc, dx, fv, qc, q3, Paired.mapP q4 fun _ _ z => ⟨z.1, z.2.mono (fun _ _ h => h) fr⟩⟩
    | dct b kvs => obtain ⟨q1, q2, u, q3, q4⟩ := this; exact ⟨by rw [upd_ne ne]; exact q1, q2, u, q3, q4⟩
/-- .. becomes a cell -/
theorem RelH.adopt (R : RelH K H io F st) {p : Addr} {c : Cel} (hp : ∃ o, H p = some o ∧ ∀ ps, o ≠ .tbl ps) (hio : p ∉ io) (hc : CelOk K H (io ++ [p]) F p c) : RelH K H (io ++ [p]) F (st ++ [c]) := by
  have ix : ∀ (n : Nat) a, io[n]? = some a → (io ++ [p])[n]? = some a := fun n a h => by
    rw [List.getElem?_append_left (List.getElem?_eq_some_iff.mp h).1]; exact h
  refine ⟨R.sub, by rw [List.length_append, List.length_append, R.len]; rfl, List.nodup_append.mpr ⟨R.nd, by simp, fun a ha b hb => ?_⟩, fun a ha => ?_, fun n d a h1 h2 => ?_, fun q hq => ?_⟩
  rotate_right
  · obtain ⟨t1, t2, ps, t3, t4, t5⟩ := R.tab q hq
    refine ⟨t1, fun hm => ?_, ps, t3, t4, t5⟩
    rcases List.mem_append.mp hm with h | h
    · exact t2 h
    · simp at h
      obtain ⟨o, h1, h2⟩ := hp
      rw [← h, t3] at h1
      cases h1
      exact h2 _ rfl
  · simp at hb
    subst hb
    intro e
    subst e
    exact hio ha
  · rcases List.mem_append.mp ha with h | h
    · exact R.there a h
    · simp at h
      subst h
      obtain ⟨o, h1, _⟩ := hp
      exact ⟨o, h1⟩
  · by_cases hn : n < st.length
    · rw [List.getElem?_append_left hn] at h1
      rw [List.getElem?_append_left (by rw [R.len]; exact hn)] at h2
      have := R.cel n d a h1 h2
      cases d with
      | lst ds => obtain ⟨q1, q2, vs, q3, q4⟩ := this; exact ⟨q1, q2, vs, q3, q4.mono ix fun _ _ h => h⟩
      | dead => trivial
      | ins C fs => obtain ⟨q1, cc, dx, fv, qc, q3, q4⟩ := this; exact ⟨q1, cc, dx, fv, qc, q3, Paired.mapP q4 fun _ _ z => ⟨z.1, z.2.mono ix fun _ _ h => h⟩⟩
      | dct b kvs => obtain ⟨q1, q2, u, q3, q4⟩ := this; exact ⟨q1, q2, u, q3, q4⟩
    · have e : n = st.length := by
        have := (List.getElem?_eq_some_iff.mp h1).1
        rw [List.length_append, List.length_singleton] at this
        omega
      subst e
      rw [List.getElem?_append_right (Nat.le_refl _), Nat.sub_self] at h1
      rw [← R.len, List.getElem?_append_right (Nat.le_refl _), Nat.sub_self] at h2
      cases h1
      cases h2
      exact hc
theorem RelH.newRef (R : RelH K H io F st) {p : Addr} : Den K (io ++ [p]) F (.ref p) (.ref st.length) := .ref (by rw [← R.len, List.getElem?_append_right (Nat.le_refl _), Nat.sub_self]; rfl)
end
end DL
namespace DL
open PySem PySem.Spec PyProof.Rows L2
abbrev tobj (its : List Value) : Obj := { cls := .type "tuple", data := .seq its.toArray }
abbrev XtK (H : Hp) (Q : VK) (vs : List V) : Prop := ∀ (p : Addr) (o : Obj), H p = none → o.dict = none → Q (.ref p) (upd H p (.frz o (.tup vs)))
section
variable {X : Cx} {pins : List (Addr × Obj)} {σ : L2.St} {H : Hp} {s : Shared} {xs : List V} {its : List Value} {Q : VK}
theorem new_tup (I : Inv X pins σ H s) (z : xs.length ≤ sizeLine) (r : Vals xs its) (q : XtK H Q xs) : EP X pins σ Q (.ref s.heap.objs.size) { s with heap := s.heap.push (tobj its) } :=
  ⟨.ref s.heap.objs.size, upd H s.heap.objs.size (.frz (tobj its) (.tup xs)), I.laid (t' := s.toks) (fun _ _ e => Heap.get?_push_of_some _ e) (Nat.le_refl _) ⟨Heap.get?_push_size _ rfl, z, its, r, IsTup.new _ _⟩, rfl, q _ _ (I.hok.fresh (Nat.le_refl _)) rfl⟩
def tTupX (t : TA) : TE := fun σ H Q => t σ H fun xs H1 => xs.length ≤ sizeLine ∧ XtK H1 Q xs
theorem pe_tupX {es : List Expr} {t : TA} {k} {pos : Pos} (h : PA X es t) : PE X (.Tuple es k pos) (tTupX t) :=
  ⟨fun pins s σ H Q I hq => wpAny_Tuple_spliced (thn (h.run pos pins s σ H _ I hq) fun us s1 ⟨xs, H1, I1, r, z, q⟩ => ⟨by rw [← r.length]; exact z, new_tup I1 z r q⟩)⟩
def rCatX (K : PySem.W.Frag) : V → V → Hp → VK → Prop := fun x y H Q => ∃ a b xs ys, x = .ref a ∧ y = .ref b ∧ SqT K H a xs ∧ SqT K H b ys ∧ xs.length + ys.length ≤ sizeLine ∧
  (xs = [] → Q (.ref b) H) ∧ (xs ≠ [] → ys = [] → Q (.ref a) H) ∧ (xs ≠ [] → ys ≠ [] → XtK H Q (xs ++ ys))
theorem op_catX : OpR X (binaryOp .Add) (rCatX X.K) := fun pins s σ H x y v u Q I rx ry h => by
  obtain ⟨a, b, xs, ys, rfl, rfl, ha, hb, hz, q0, q1, q2⟩ := h
  cases rx; cases ry
  obtain ⟨t1, r1, p1, _⟩ := I.tuple ha; obtain ⟨t2, r2, p2, _⟩ := I.tuple hb
  cases xs with
  | nil => cases r1; exact cat_tup0 p1 p2 ⟨.ref b, H, I, rfl, q0 rfl⟩
  | cons x xs =>
    have n1 : t1 ≠ [] := fun e => nomatch (r1.nil_iff.mp e)
    refine HT.cat_tup p1 p2 n1 (fun z => ⟨.ref a, H, I, rfl, q1 (fun e => nomatch e) (r2.nil_iff.mp z)⟩) (fun z => new_tup I (by rw [List.length_append]; exact hz) (r1.append r2) (q2 (fun e => nomatch e) fun w => z (r2.nil_iff.mpr w))) ?_
    rw [← r1.length, ← r2.length]; exact hz
def rSlX (K : PySem.W.Frag) : V → Option Int → Option Int → Hp → VK → Prop := fun x lo hi H Q => ∃ a xs, x = .ref a ∧ SqT K H a xs ∧
  (HT.sIx xs.length 0 lo = 0 ∧ HT.sIx xs.length xs.length hi = xs.length → Q (.ref a) H) ∧ (¬ (HT.sIx xs.length 0 lo = 0 ∧ HT.sIx xs.length xs.length hi = xs.length) → XtK H Q (cutV xs lo hi))
theorem sl_tupX : SlR X (rSlX X.K) := fun pins s σ H x v vl vu lo hi sl Q I rx hs pl pu h => by
  obtain ⟨a, xs, rfl, hx, q1, q2⟩ := h
  cases rx
  obtain ⟨its, r, ht, hz⟩ := I.tuple hx
  have hl : its.toArray.size = xs.length := r.length.symm
  by_cases hw : HT.sIx xs.length 0 lo = 0 ∧ HT.sIx xs.length xs.length hi = xs.length
  · exact ⟨"tuple", _, PyProof.Rows.slot_tuple_getitem.lookup, ht.typeIs, getItem_tuple_whole ht hs pl pu (by rw [hl]; exact hw) ⟨.ref a, H, I, rfl, q1 hw⟩⟩
  · refine ⟨"tuple", _, PyProof.Rows.slot_tuple_getitem.lookup, ht.typeIs, HT.getItem_tuple_cut ht hs pl pu (by rw [hl]; exact hw) ?_ (by rw [hl]; exact hz)⟩
    rw [hl]
    exact new_tup I (Nat.le_trans (cutV_length xs lo hi) hz) ((r.drop (HT.sIx xs.length 0 lo)).take (HT.sIx xs.length xs.length hi - HT.sIx xs.length 0 lo)) (q2 hw)
theorem call_tupleX : CallR X (.type "tuple") (fun xs H Q => ∃ p ys, xs = [.ref p] ∧ ((SqL X.K H p ys ∧ XtK H Q ys) ∨ (SqT X.K H p ys ∧ Q (.ref p) H))) := fun pins s σ H xs us Q I r h => by
  obtain ⟨p, ys, rfl, h⟩ := h
  obtain ⟨u, rfl, rx⟩ := vals1 r
  cases rx
  rcases h with ⟨hq, q⟩ | ⟨hq, q⟩
  · obtain ⟨its, r2, pl, hz⟩ := I.list hq
    have hl := r2.length
    exact call_tuple_list pl.isList (fun h' kp => new_tup (I.kept (t' := s.toks) kp) hz r2 q) (by simp only [List.size_toArray] <;> omega)
  · obtain ⟨its, r2, pl, hz⟩ := I.tuple hq
    exact call_tuple_same pl ⟨.ref p, H, I, rfl, q⟩
end
structure SrcG (K : PySem.W.Frag) (S : Hp → Addr → List V → Prop) (Is : Heap → Addr → Array Value → Prop) (It1 : Heap → Addr → Addr → Nat → Prop) : Prop where
  get : ∀ {X : Cx} {pins : List (Addr × Obj)} {σ : L2.St} {H : Hp} {s : Shared} {a : Addr} {xs : List V}, X.K = K → Inv X pins σ H s → S H a xs → ∃ its : List Value, Vals xs its ∧ Is s.heap a its.toArray
  inj : ∀ {X : Cx} {pins : List (Addr × Obj)} {σ : L2.St} {H : Hp} {s : Shared} {a : Addr} {xs ys : List V}, X.K = K → Inv X pins σ H s → S H a xs → S H a ys → xs = ys
  dr : ∀ {prog : Program} {w : World} {A : Around} (it a : Addr) (items : Array Value), A.handled = none → a ≠ it → Draws prog w A it [it, a] items.size (fun i v => items[i]? = some v) (fun i h => It1 h it a i ∧ Is h a items)
  ob : ∀ {h : Heap} {it a : Addr} {i : Nat}, It1 h it a i → ∃ o, h.get? it = some o ∧ ∀ v, o.data ≠ .cell v
  at_ : ∀ {h h' : Heap} {it a : Addr} {i : Nat}, It1 h it a i → (∀ o, h.get? it = some o → h'.get? it = some o) → It1 h' it a i
theorem srcL (K : PySem.W.Frag) : SrcG K (SqL K) Heap.IsList Heap.IsListIter where
  get := fun e I h => by subst e; obtain ⟨its, r, p, _⟩ := I.list h; exact ⟨its, r, p.isList⟩
  inj := fun e I h h' => by subst e; exact I.list_inj h h'
  dr := fun it a items hh ne => Draws.list hh it a ne items
  ob := fun ⟨o, e, _, d⟩ => ⟨o, e, fun v q => by rw [d] at q; cases q⟩
  at_ := fun h k => h.at k
theorem srcT (K : PySem.W.Frag) : SrcG K (SqT K) Heap.IsTuple Heap.IsTupleIter where
  get := fun e I h => by subst e; obtain ⟨its, r, p, _⟩ := I.tuple h; exact ⟨its, r, p⟩
  inj := fun e I h h' => by subst e; exact I.tuple_inj h h'
  dr := fun it a items hh ne => Draws.tuple hh it a ne items
  ob := fun ⟨o, e, _, d⟩ => ⟨o, e, fun v q => by rw [d] at q; cases q⟩
  at_ := fun h k => h.at k
def IteX (S : Hp → Addr → List V → Prop) (a : Addr) : It :=
  ⟨fun i H => ∃ (xs : List V) (x : V), S H a xs ∧ xs[i]? = some x, fun i H v H' => ∃ T x o, v = .ref T ∧ H T = none ∧ o.dict = none ∧ H' = upd H T (.frz o (.tup [.int (i : Nat), x])) ∧ ∀ xs, S H a xs → xs[i]? = some x, fun i H => ∃ xs : List V, S H a xs ∧ xs.length = i⟩
theorem pair_ok {P : Program} {w : World} {H : Hp} {h : Heap} {T : Addr} {x y : V} {u v : Value} (e : h.get? T = some (tobj [u, v])) (ru : RelV x u) (rv : RelV y v) : ObjOk P w H h T (.frz (tobj [u, v]) (.tup [x, y])) :=
  ⟨e, by show 2 ≤ sizeLine; decide, [u, v], .cons ru (.cons rv .nil), ⟨_, e, rfl, _, rfl⟩⟩
theorem turn_enumX {P : Program} {w : World} {K : PySem.W.Frag} {elts : List Expr} {kk : Nat} {tpos : Pos} {S : Hp → Addr → List V → Prop} {Is : Heap → Addr → Array Value → Prop} {It1 : Heap → Addr → Addr → Nat → Prop} (G : SrcG K S Is It1) (a e it : Addr) :
    Turn P w K (.Tuple elts kk tpos) (IteX S a) [e, it] e (fun i h => (∃ old, IsEnum h e it ((i : Nat) : Int) old) ∧ It1 h it a i ∧ e ≠ it ∧ a ≠ it ∧ e ≠ a) where
  mem := List.mem_cons_self
  obj := fun i h ⟨⟨old, he⟩, hi, _⟩ b hb => by
    rcases List.mem_cons.mp hb with rfl | hb
    · exact ⟨_, he, fun v q => nomatch q⟩
    · rw [List.mem_singleton] at hb; subst hb; exact G.ob hi
  keep := fun i h h' ⟨⟨old, he⟩, hi, hne⟩ k => ⟨⟨old, k e List.mem_cons_self _ he⟩, G.at_ hi fun o q => k it (List.mem_cons_of_mem _ List.mem_cons_self) o q, hne⟩
  item := by
    intro X hP hw hK hc i pins s σ H E I hf st hg
    subst hP hw
    obtain ⟨⟨old, he⟩, hit, hne, hai, hea⟩ := st
    obtain ⟨xs, x, hq, hx⟩ := hg
    obtain ⟨its, rv, p⟩ := G.get hK I hq
    obtain ⟨u, hu, ru⟩ := rv.get hx
    have hu' : its.toArray[i]? = some u := by simpa using hu
    have Dr := G.dr (prog := X.prog) (w := X.w) (A := X.A.in1) it a its.toArray (I.ok.hd hc) hai
    have hel := Heap.lt_size he
    obtain ⟨oi, hoi, _⟩ := G.ob hit
    refine wpAny_pyNext_enum_itemD Dr he ⟨hit, p⟩ (Array.getElem?_eq_some_iff.mp hu').1 hne (by simp [hne, hea]) fun u2 h1 tk hP ho hit1 hT hsz hk => ?_
    have hP : its.toArray[i]? = some u2 := hP
    rw [hu'] at hP
    cases hP
    refine ⟨_, rfl, wpAny_letOwnedTupleGo_enum (s := { s with heap := h1, toks := tk + 1 }) ho fun h2 he2 sb => ?_⟩
    have hT2 : h2.get? s.heap.objs.size = some (tobj [.int i tk, u]) := (sb.2 _ (Nat.ne_of_gt hel)).trans hT
    have I1 : Inv X pins σ (upd H s.heap.objs.size (.frz (tobj [.int i tk, u]) (.tup [.int (i : Nat), x]))) { s with heap := h2, toks := tk + 1 } :=
      I.turnedNew (ch := [e, it]) (fun b ob hb q => (sb.2 b (fun z => hb (by simp [z]))).trans (hk b ob (fun z => hb (by simp [z])) (fun z => hb (by simp [z])) q)) hf (Nat.le_refl _) (pair_ok hT2 ⟨_, rfl⟩ ru)
    refine ⟨.ref s.heap.objs.size, _, I1, rfl, ⟨_, x, _, rfl, I.hok.fresh (Nat.le_refl _), rfl, rfl, fun ys hy => by rw [G.inj hK I hy hq]; exact hx⟩, ⟨⟨u, ?_⟩, G.at_ hit1.1 fun o q => (sb.2 it (Ne.symm hne)).trans q, hne, hai, hea⟩, fun b hb => ?_⟩
    · rw [show ((i + 1 : Nat) : Int) = (i : Int) + 1 by omega]; exact he2
    · have hb' : b < s.heap.objs.size := by
        rcases List.mem_cons.mp hb with rfl | hb
        · exact hel
        · rw [List.mem_singleton] at hb; subst hb; exact Heap.lt_size hoi
      rw [upd_ne (Nat.ne_of_lt hb')]; exact (hf b hb).1
  done := by
    intro X hP hw hK hc i pins s σ H E I hf st hg
    subst hP hw
    obtain ⟨⟨old, he⟩, hit, hne, hai, hea⟩ := st
    obtain ⟨xs, hq, hx⟩ := hg
    obtain ⟨its, rv, p⟩ := G.get hK I hq
    obtain ⟨f0, f1, f2, f3, f4, f5⟩ := hf it (by simp)
    have en : i = its.toArray.size := by rw [← hx, rv.length]; rfl
    subst en
    exact wpAny_pyNext_enum_endD (G.dr (prog := X.prog) (w := X.w) (A := X.A.in1) it a its.toArray (I.ok.hd hc) hai) he ⟨hit, p⟩ fun h' eb => ⟨rfl, I.turned (t' := s.toks) (fun b o hb q => eb b o hb q) f0 f1 f3 f4 f5⟩
  self := fun A i s Q E ⟨⟨_, he⟩, _⟩ h => wpAny_pyIter_enum he h
end DL
namespace DL
open PySem PySem.Spec PyProof.Rows L2
variable [Bs]
abbrev DK := D → Sto → Prop
abbrev BK := Bool → Sto → Prop
abbrev LK := List D → Sto → Prop
abbrev DE := En → Sto → DK → Prop
abbrev DT := En → Sto → BK → Prop
abbrev DA := En → Sto → LK → Prop
structure DEnds where
  nx : En → Sto → Prop
  rt : DK
  bk : En → Sto → Prop := fun _ _ => False
  ct : En → Sto → Prop := fun _ _ => False
abbrev DS := DEnds → En → Sto → Prop
def MoE (w : DE) : Prop := ∀ (e : En) (s : Sto) (Q Q' : DK), (∀ d s, Q d s → Q' d s) → w e s Q → w e s Q'
def MoT (w : DT) : Prop := ∀ (e : En) (s : Sto) (Q Q' : BK), (∀ d s, Q d s → Q' d s) → w e s Q → w e s Q'
def MoA (w : DA) : Prop := ∀ (e : En) (s : Sto) (Q Q' : LK), (∀ d s, Q d s → Q' d s) → w e s Q → w e s Q'
structure DEnds.le (A B : DEnds) : Prop where
  nx : ∀ e s, A.nx e s → B.nx e s
  rt : ∀ d s, A.rt d s → B.rt d s
  bk : ∀ e s, A.bk e s → B.bk e s
  ct : ∀ e s, A.ct e s → B.ct e s
theorem DEnds.le.refl (A : DEnds) : A.le A := ⟨fun _ _ h => h, fun _ _ h => h, fun _ _ h => h, fun _ _ h => h⟩
def MoS (w : DS) : Prop := ∀ (A B : DEnds) (e : En) (s : Sto), A.le B → w A e s → w B e s
/-- the wishes below -/
def kE (K : PySem.W.Frag) (H : Hp) (io : List Addr) (F : Hp) (Q : VK) : DK := fun d st' => ∀ v io' F' H', Stp H io F H' io' F' → RelH K H' io' F' st' → Den K io' F' v d → Q v H'
def kT (K : PySem.W.Frag) (H : Hp) (io : List Addr) (F : Hp) (Q : Bool → Hp → Prop) : BK := fun b st' => ∀ io' F' H', Stp H io F H' io' F' → RelH K H' io' F' st' → Q b H'
def kA (K : PySem.W.Frag) (H : Hp) (io : List Addr) (F : Hp) (Q : List V → Hp → Prop) : LK := fun ds st' => ∀ vs io' F' H', Stp H io F H' io' F' → RelH K H' io' F' st' → DenL K io' F' vs ds → Q vs H'
def kN (K : PySem.W.Frag) (H : Hp) (io : List Addr) (F : Hp) (Q : L2.St → Hp → Prop) : En → Sto → Prop := fun env' st' => ∀ σ' io' F' H', Stp H io F H' io' F' → Rel K σ' H' env' io' F' st' → Q σ' H'
def kD (K : PySem.W.Frag) (H : Hp) (io : List Addr) (F : Hp) (D : Ends) : DEnds := ⟨kN K H io F D.nx, kE K H io F D.rt, kN K H io F D.bk, kN K H io F D.ct⟩
def tE (K : PySem.W.Frag) (w : DE) : TE := fun σ H Q => ∃ env io F st, Rel K σ H env io F st ∧ w env st (kE K H io F Q)
def tT (K : PySem.W.Frag) (w : DT) : TT := fun σ H Q => ∃ env io F st, Rel K σ H env io F st ∧ w env st (kT K H io F Q)
def tA (K : PySem.W.Frag) (w : DA) : TA := fun σ H Q => ∃ env io F st, Rel K σ H env io F st ∧ w env st (kA K H io F Q)
def tS (K : PySem.W.Frag) (w : DS) : TS := fun D σ H => ∃ env io F st, Rel K σ H env io F st ∧ w (kD K H io F D) env st
structure WE (X : Cx) (e : Expr) (w : DE) : Prop where
  mo : MoE w
  pe : PE X e (tE X.K w)
structure WT (X : Cx) (e : Expr) (w : DT) : Prop where
  mo : MoT w
  pe : PT X e (tT X.K w)
structure WA (X : Cx) (es : List Expr) (w : DA) : Prop where
  mo : MoA w
  pe : PA X es (tA X.K w)
structure WS (X : Cx) (s : Stmt) (w : DS) : Prop where
  mo : MoS w
  pe : PS X s (tS X.K w)
structure WB (X : Cx) (s : List Stmt) (w : DS) : Prop where
  mo : MoS w
  pe : PSs X s (tS X.K w)
theorem PE_imp {X : Cx} {e : Expr} {t t' : TE} (h : PE X e t) (i : ∀ σ H Q, t' σ H Q → t σ H Q) : PE X e t' := ⟨fun p s σ H Q I q => h.run p s σ H Q I (i σ H Q q)⟩
theorem PT_imp {X : Cx} {e : Expr} {t t' : TT} (h : PT X e t) (i : ∀ σ H Q, t' σ H Q → t σ H Q) : PT X e t' := ⟨fun p s σ H Q I q => h.run p s σ H Q I (i σ H Q q)⟩
theorem PA_imp {X : Cx} {e : List Expr} {t t' : TA} (h : PA X e t) (i : ∀ σ H Q, t' σ H Q → t σ H Q) : PA X e t' := ⟨fun pos p s σ H Q I q => h.run pos p s σ H Q I (i σ H Q q)⟩
theorem PS_imp {X : Cx} {e : Stmt} {t t' : TS} (h : PS X e t) (i : ∀ D σ H, t' D σ H → t D σ H) : PS X e t' := ⟨fun p s σ H Q I q => h.run p s σ H Q I (i Q σ H q)⟩
theorem PSs_imp {X : Cx} {e : List Stmt} {t t' : TS} (h : PSs X e t) (i : ∀ D σ H, t' D σ H → t D σ H) : PSs X e t' := ⟨fun p s σ H Q I q => h.run p s σ H Q I (i Q σ H q)⟩
section
variable {K : PySem.W.Frag} {io io' io1 : List Addr} {F F' F1 H H' H1 : Hp} {st st' : Sto} {σ : L2.St} {env : En}
/-- an expression's reading, its end as one wants -/
theorem tE_use {w : DE} (m : MoE w) {P : DK} {Q : VK} (R : Rel K σ H env io F st) (h : w env st P)
    (k : ∀ d st' v io' F' H', P d st' → Stp H io F H' io' F' → Rel K σ H' env io' F' st' → Den K io' F' v d → Q v H') : tE K w σ H Q :=
  ⟨env, io, F, st, R, m _ _ _ _ (fun d st' p v io' F' H' s r n => k d st' v io' F' H' p s (R.next s r) n) h⟩
theorem tT_use {w : DT} (m : MoT w) {P : BK} {Q : Bool → Hp → Prop} (R : Rel K σ H env io F st) (h : w env st P)
    (k : ∀ b st' io' F' H', P b st' → Stp H io F H' io' F' → Rel K σ H' env io' F' st' → Q b H') : tT K w σ H Q :=
  ⟨env, io, F, st, R, m _ _ _ _ (fun b st' p io' F' H' s r => k b st' io' F' H' p s (R.next s r)) h⟩
theorem tA_use {w : DA} (m : MoA w) {P : LK} {Q : List V → Hp → Prop} (R : Rel K σ H env io F st) (h : w env st P)
    (k : ∀ ds st' vs io' F' H', P ds st' → Stp H io F H' io' F' → Rel K σ H' env io' F' st' → DenL K io' F' vs ds → Q vs H') : tA K w σ H Q :=
  ⟨env, io, F, st, R, m _ _ _ _ (fun d st' p v io' F' H' s r n => k d st' v io' F' H' p s (R.next s r) n) h⟩
theorem kE_at {Q : VK} {d : D} {v : V} (h : kE K H io F Q d st') (s : Stp H io F H' io' F') (r : RelH K H' io' F' st') (n : Den K io' F' v d) : Q v H' := h v io' F' H' s r n
theorem kE_later {Q : VK} {d : D} {st : Sto} (s : Stp H io F H' io' F') (h : kE K H io F Q d st) : kE K H' io' F' Q d st := fun v io2 F2 H2 t r n => h v io2 F2 H2 (s.trans t) r n
theorem kN_later {Q : L2.St → Hp → Prop} {e : En} {st : Sto} (s : Stp H io F H' io' F') (h : kN K H io F Q e st) : kN K H' io' F' Q e st := fun σ2 io2 F2 H2 t r => h σ2 io2 F2 H2 (s.trans t) r
theorem kD_later {D : Ends} (s : Stp H io F H' io' F') : (kD K H io F D).le (kD K H' io' F' D) := ⟨fun _ _ h => kN_later s h, fun _ _ h => kE_later s h, fun _ _ h => kN_later s h, fun _ _ h => kN_later s h⟩
end
section
variable {X : Cx} {pos : Pos}
def wVar (i : Nat) : DE := fun env st Q => ∃ d, env[i]? = some (some d) ∧ Q d st
theorem we_var {i : Nat} {x : Str} (hN : X.N[i]? = some x) (hv : Vis X.env.scope x) (hd : (x == ("__debug__" : Str)) = false := by decide) (hcd : (x == ("__classdict__" : Str)) = false := by decide) : WE X (.Name x pos) (wVar i) := by
  refine ⟨fun e s Q Q' h ⟨d, h1, h2⟩ => ⟨d, h1, h _ _ h2⟩, PE_imp (pe_var hN hv hd hcd) fun σ H Q ⟨env, io, F, st, R, d, e, q⟩ => ?_⟩
  obtain ⟨v, h1, h2⟩ := R.slot i d e
  exact ⟨v, h1, q v io F H Stp.refl R.toRelH h2⟩
def wC (d : D) : DE := fun _ st Q => Q d st
theorem moC (d : D) : MoE (wC d) := fun _ _ _ _ h q => h _ _ q
theorem we_c {e : Expr} {v : V} {d : D} (h : PE X e (tC v)) (hd : ∀ io F, Den X.K io F v d) : WE X e (wC d) :=
  ⟨moC d, PE_imp h fun σ H Q ⟨env, io, F, st, R, q⟩ => q v io F H Stp.refl R.toRelH (hd _ _)⟩
theorem we_int {i : Int} {j} : WE X (.Constant (.int i) j pos) (wC (.int i)) := we_c pe_int fun _ _ => .int i
theorem we_bl {b : Bool} {j} : WE X (.Constant (.bool b) j pos) (wC (.bl b)) := we_c pe_bl fun _ _ => .bl b
theorem we_non {j} : WE X (.Constant .none j pos) (wC .non) := we_c pe_non fun _ _ => .non
theorem we_str {x} {j} : WE X (.Constant (.str x) j pos) (wC (.str x)) := we_c pe_str fun _ _ => .str x
end
abbrev R2D := D → D → Sto → DK → Prop
def wOp (f : R2D) (wa wb : DE) : DE := fun env st Q => wa env st fun a s1 => wb env s1 fun b s2 => f a b s2 Q
def MoR (f : R2D) : Prop := ∀ a b s Q Q', (∀ d s, Q d s → Q' d s) → f a b s Q → f a b s Q'
/-- f is done by r -/
structure Rz (K : PySem.W.Frag) (r : R2) (f : R2D) : Prop where
  mo : MoR f
  on : ∀ {H io F st x y a b Q}, RelH K H io F st → Den K io F x a → Den K io F y b → f a b st (kE K H io F Q) → r x y H Q
theorem moOp {f : R2D} {wa wb : DE} (mf : MoR f) (ma : MoE wa) (mb : MoE wb) : MoE (wOp f wa wb) := fun e s Q Q' h q => ma _ _ _ _ (fun _ _ q => mb _ _ _ _ (fun _ _ q => mf _ _ _ _ _ h q) q) q
theorem tOp_of {X : Cx} {r : R2} {f : R2D} {a b : Expr} {wa wb : DE} (z : Rz X.K r f) (ha : WE X a wa) (hb : WE X b wb) {σ : L2.St} {H : Hp} {Q : VK} (h : tE X.K (wOp f wa wb) σ H Q) : tOp r (tE X.K wa) (tE X.K wb) σ H Q := by
  obtain ⟨env, io, F, st, R, q⟩ := h
  refine tE_use ha.mo R q fun d1 s1 v1 io1 F1 H1 q1 t1 R1 n1 => ?_
  refine tE_use hb.mo R1 q1 fun d2 s2 v2 io2 F2 H2 q2 t2 R2 n2 => ?_
  exact z.on R2.toRelH (t2.den n1) n2 (z.mo _ _ _ _ _ (fun d s => kE_later (t1.trans t2)) q2)
section
variable {X : Cx} {pos : Pos} {a b c : Expr} {wa wb wc : DE}
theorem we_op {op : Operator} {r : R2} {f : R2D} (ho : OpR X (binaryOp op) r) (z : Rz X.K r f) (ha : WE X a wa) (hb : WE X b wb) : WE X (.BinOp a op b pos) (wOp f wa wb) :=
  ⟨moOp z.mo ha.mo hb.mo, PE_imp (pe_op ho ha.pe hb.pe) fun σ H Q h => tOp_of z ha hb h⟩
theorem we_cmp {op : CmpOp} {r : R2} {f : R2D} (ho : OpR X (compareOp op) r) (z : Rz X.K r f) (ha : WE X a wa) (hb : WE X b wb) (hm : behindInMarks op b = false) : WE X (.Compare a [op] [b] pos) (wOp f wa wb) :=
  ⟨moOp z.mo ha.mo hb.mo, PE_imp (pe_cmpR ho ha.pe hb.pe hm) fun σ H Q h => tOp_of z ha hb h⟩
/-- a value that is a bool, as a test -/
def wTest (w : DE) : DT := fun env st Q => w env st fun d s => ∃ b, d = .bl b ∧ Q b s
theorem moTest {w : DE} (m : MoE w) : MoT (wTest w) := fun e s Q Q' h q => m _ _ _ _ (fun _ _ ⟨b, e, q⟩ => ⟨b, e, h _ _ q⟩) q
theorem kB {K : PySem.W.Frag} {H : Hp} {io : List Addr} {F : Hp} {Q : Bool → Hp → Prop} {d : D} {st : Sto} (h : ∃ b, d = .bl b ∧ kT K H io F Q b st) : kE K H io F (fun x H' => ∃ k, x = .bl k ∧ Q k H') d st := by
  obtain ⟨b, e, q⟩ := h
  subst e
  intro v io' F' H' s r n
  cases n
  exact ⟨b, rfl, q _ _ _ s r⟩
theorem wt_val {e : Expr} {w : DE} (h : WE X e w) (he : ∀ whole, isTrue e X.env whole = (do let v ← whole; standAt e.pos; holding [v] (truthy v)) := by intro _; rfl) : WT X e (wTest w) :=
  ⟨moTest h.mo, PT_imp (pt_val h.pe he) fun σ H Q ⟨env, io, F, st, R, q⟩ => ⟨env, io, F, st, R, h.mo _ _ _ _ (fun d s => kB) q⟩⟩
theorem wt_cmp {op : CmpOp} {r : R2} {f : R2D} (ho : OpR X (compareOp op) r) (z : Rz X.K r f) (ha : WE X a wa) (hb : WE X b wb) (hm : behindInMarks op b = false) : WT X (.Compare a [op] [b] pos) (wTest (wOp f wa wb)) :=
  ⟨moTest (moOp z.mo ha.mo hb.mo), PT_imp (pt_cmpR ho ha.pe hb.pe hm) fun σ H Q ⟨env, io, F, st, R, q⟩ =>
    tOp_of z ha hb ⟨env, io, F, st, R, moOp z.mo ha.mo hb.mo _ _ _ _ (fun d s => kB) q⟩⟩
def wChain (f f' : R2D) (wa wb wc : DE) : DE := fun env st Q => wa env st fun x s1 => wb env s1 fun y s2 => f x y s2 fun z s3 => ∃ k, z = .bl k ∧ if k = true then wc env s3 fun u s4 => f' y u s4 Q else Q (.bl false) s3
theorem moChain {f f' : R2D} (mf : MoR f) (mf' : MoR f') (ma : MoE wa) (mb : MoE wb) (mc : MoE wc) : MoE (wChain f f' wa wb wc) := fun e s Q Q' h q =>
  ma _ _ _ _ (fun _ _ q => mb _ _ _ _ (fun _ _ q => mf _ _ _ _ _ (fun _ _ ⟨k, e, q⟩ => ⟨k, e, by
    cases k with
    | true => exact mc _ _ _ _ (fun _ _ q => mf' _ _ _ _ _ h q) q
    | false => exact h _ _ q⟩) q) q) q
theorem tChain_of {r r' : R2} {f f' : R2D} (z : Rz X.K r f) (z' : Rz X.K r' f') (ha : WE X a wa) (hb : WE X b wb) (hc : WE X c wc) {σ : L2.St} {H : Hp} {Q : VK} (h : tE X.K (wChain f f' wa wb wc) σ H Q) : tChain r r' (tE X.K wa) (tE X.K wb) (tE X.K wc) σ H Q := by
  obtain ⟨env, io, F, st, R, q⟩ := h
  refine tE_use ha.mo R q fun d1 s1 v1 io1 F1 H1 q1 t1 R1 n1 => ?_
  refine tE_use hb.mo R1 q1 fun d2 s2 v2 io2 F2 H2 q2 t2 R2 n2 => ?_
  refine z.on R2.toRelH (t2.den n1) n2 (z.mo _ _ _ _ _ (fun d s3 q3 => ?_) q2)
  obtain ⟨k, e, q3⟩ := q3
  subst e
  intro v3 io3 F3 H3 t3 R3 n3
  cases n3
  refine ⟨k, rfl, ?_⟩
  cases k with
  | true =>
    rw [if_pos rfl] at q3 ⊢
    refine tE_use hc.mo (R2.next t3 R3) q3 fun d4 s4 v4 io4 F4 H4 q4 t4 R4 n4 => ?_
    exact z'.on R4.toRelH ((t3.trans t4).den n2) n4 (z'.mo _ _ _ _ _ (fun d s => kE_later (((t1.trans t2).trans t3).trans t4)) q4)
  | false =>
    rw [if_neg Bool.false_ne_true] at q3 ⊢
    exact kE_at q3 ((t1.trans t2).trans t3) R3 (.bl false)
theorem wt_chain {op op' : CmpOp} {r r' : R2} {f f' : R2D} (ho : OpR X (compareOp op) r) (z : Rz X.K r f) (ho' : OpR X (compareOp op') r') (z' : Rz X.K r' f') (ha : WE X a wa) (hb : WE X b wb) (hc : WE X c wc)
    (hm : lastMarks [op, op'] [b, c] = false := by with_unfolding_all rfl) : WT X (.Compare a [op, op'] [b, c] pos) (wTest (wChain f f' wa wb wc)) :=
  ⟨moTest (moChain z.mo z'.mo ha.mo hb.mo hc.mo), PT_imp (pt_chain ho ho' ha.pe hb.pe hc.pe hm) fun σ H Q ⟨env, io, F, st, R, q⟩ =>
    tChain_of z z' ha hb hc ⟨env, io, F, st, R, moChain z.mo z'.mo ha.mo hb.mo hc.mo _ _ _ _ (fun d s => kB) q⟩⟩
end
end DL
namespace DL
open PySem PySem.Spec PyProof.Rows L2
variable [Bs]
section
variable {X : Cx} {pos : Pos} {a b : Expr} {rest : List Expr} {wa wb : DE} {ta tb : DT}
def wAnd (ta tb : DT) : DT := fun env st Q => ta env st fun c s => if c = true then tb env s Q else Q false s
def wOr (ta tb : DT) : DT := fun env st Q => ta env st fun c s => if c = true then Q true s else tb env s Q
def wNot (ta : DT) : DT := fun env st Q => ta env st fun c s => Q (!c) s
theorem moAnd (ma : MoT ta) (mb : MoT tb) : MoT (wAnd ta tb) := fun e s Q Q' h q => ma _ _ _ _ (fun c _ q => by cases c with
  | true => exact mb _ _ _ _ h q
  | false => exact h _ _ q) q
theorem moOr (ma : MoT ta) (mb : MoT tb) : MoT (wOr ta tb) := fun e s Q Q' h q => ma _ _ _ _ (fun c _ q => by cases c with
  | true => exact h _ _ q
  | false => exact mb _ _ _ _ h q) q
/-- a test whatever its whole is -/
structure WW (X : Cx) (e : Expr) (w : DT) : Prop where
  mo : MoT w
  pe : PW X e (tT X.K w)
theorem WW.wt {e : Expr} {w : DT} (h : WW X e w) : WT X e w := ⟨h.mo, h.pe.pt⟩
theorem PW_imp {e : Expr} {t t' : TT} (h : PW X e t) (i : ∀ σ H Q, t' σ H Q → t σ H Q) : PW X e t' := ⟨fun w p s σ H Q I q => h.run w p s σ H Q I (i σ H Q q)⟩
theorem ww_and1 (h : WT X a ta) : WW X (.BoolOp .And [a] pos) ta := ⟨h.mo, pw_and1 h.pe⟩
theorem ww_or1 (h : WT X a ta) : WW X (.BoolOp .Or [a] pos) ta := ⟨h.mo, pw_or1 h.pe⟩
theorem ww_and (ha : WT X a ta) (hb : WW X (.BoolOp .And (b :: rest) pos) tb) : WW X (.BoolOp .And (a :: b :: rest) pos) (wAnd ta tb) := by
  refine ⟨moAnd ha.mo hb.mo, PW_imp (pw_and ha.pe hb.pe) fun σ H Q ⟨env, io, F, st, R, q⟩ => ?_⟩
  refine tT_use ha.mo R q fun c s1 io1 F1 H1 q1 t1 R1 => ?_
  cases c with
  | true => exact tT_use hb.mo R1 q1 fun c s2 io2 F2 H2 q2 t2 R2 => q2 _ _ _ (t1.trans t2) R2.toRelH
  | false => exact q1 _ _ _ t1 R1.toRelH
theorem ww_or (ha : WT X a ta) (hb : WW X (.BoolOp .Or (b :: rest) pos) tb) : WW X (.BoolOp .Or (a :: b :: rest) pos) (wOr ta tb) := by
  refine ⟨moOr ha.mo hb.mo, PW_imp (pw_or ha.pe hb.pe) fun σ H Q ⟨env, io, F, st, R, q⟩ => ?_⟩
  refine tT_use ha.mo R q fun c s1 io1 F1 H1 q1 t1 R1 => ?_
  cases c with
  | true => exact q1 _ _ _ t1 R1.toRelH
  | false => exact tT_use hb.mo R1 q1 fun c s2 io2 F2 H2 q2 t2 R2 => q2 _ _ _ (t1.trans t2) R2.toRelH
theorem wt_not (ha : WT X a ta) : WT X (.UnaryOp .Not a pos) (wNot ta) :=
  ⟨fun e s Q Q' h q => ha.mo _ _ _ _ (fun _ _ q => h _ _ q) q, PT_imp (pt_not ha.pe) fun σ H Q ⟨env, io, F, st, R, q⟩ => ⟨env, io, F, st, R, q⟩⟩
def wAndV (wa wb : DE) : DE := fun env st Q => wa env st fun d s => ∃ c, d = .bl c ∧ if c = true then wb env s Q else Q (.bl false) s
def wOrV (wa wb : DE) : DE := fun env st Q => wa env st fun d s => ∃ c, d = .bl c ∧ if c = true then Q (.bl true) s else wb env s Q
def wNotV (wa : DE) : DE := fun env st Q => wa env st fun d s => ∃ c, d = .bl c ∧ Q (.bl (!c)) s
theorem we_one {op} (h : WE X a wa) : WE X (.BoolOp op [a] pos) wa := ⟨h.mo, pe_one h.pe⟩
theorem we_and (ha : WE X a wa) (hb : WE X (.BoolOp .And (b :: rest) pos) wb) : WE X (.BoolOp .And (a :: b :: rest) pos) (wAndV wa wb) := by
  refine ⟨fun e s Q Q' h q => ha.mo _ _ _ _ (fun _ _ ⟨c, e, q⟩ => ⟨c, e, by
    cases c with
    | true => exact hb.mo _ _ _ _ h q
    | false => exact h _ _ q⟩) q, PE_imp (pe_and ha.pe hb.pe) fun σ H Q ⟨env, io, F, st, R, q⟩ => ?_⟩
  refine tE_use ha.mo R q fun d s1 v io1 F1 H1 q1 t1 R1 n1 => ?_
  obtain ⟨c, e, q1⟩ := q1
  subst e
  cases n1
  refine ⟨c, rfl, ?_⟩
  cases c with
  | true => exact tE_use hb.mo R1 q1 fun d s2 v2 io2 F2 H2 q2 t2 R2 n2 => kE_at q2 (t1.trans t2) R2.toRelH n2
  | false => exact kE_at q1 t1 R1.toRelH (.bl false)
theorem we_or (ha : WE X a wa) (hb : WE X (.BoolOp .Or (b :: rest) pos) wb) : WE X (.BoolOp .Or (a :: b :: rest) pos) (wOrV wa wb) := by
  refine ⟨fun e s Q Q' h q => ha.mo _ _ _ _ (fun _ _ ⟨c, e, q⟩ => ⟨c, e, by
    cases c with
    | true => exact h _ _ q
    | false => exact hb.mo _ _ _ _ h q⟩) q, PE_imp (pe_or ha.pe hb.pe) fun σ H Q ⟨env, io, F, st, R, q⟩ => ?_⟩
  refine tE_use ha.mo R q fun d s1 v io1 F1 H1 q1 t1 R1 n1 => ?_
  obtain ⟨c, e, q1⟩ := q1
  subst e
  cases n1
  refine ⟨c, rfl, ?_⟩
  cases c with
  | true => exact kE_at q1 t1 R1.toRelH (.bl true)
  | false => exact tE_use hb.mo R1 q1 fun d s2 v2 io2 F2 H2 q2 t2 R2 n2 => kE_at q2 (t1.trans t2) R2.toRelH n2
def wNeg (wa : DE) : DE := fun env st Q => wa env st fun d s => ∃ i, d = .int i ∧ Q (.int (-i)) s
def wNil : DA := fun _ st Q => Q [] st
def wCons (wa : DE) (wr : DA) : DA := fun env st Q => wa env st fun d s1 => wr env s1 fun ds s2 => Q (d :: ds) s2
theorem wa_nil : WA X [] wNil := ⟨fun _ _ _ _ h q => h _ _ q, PA_imp pa_nil fun σ H Q ⟨env, io, F, st, R, q⟩ => q [] io F H Stp.refl R.toRelH .nil⟩
theorem wa_cons {es : List Expr} {wr : DA} (ha : WE X a wa) (hr : WA X es wr) (hs : starEach (a :: es) X.env = (false, eval a X.env) :: starEach es X.env := by rfl) : WA X (a :: es) (wCons wa wr) := by
  refine ⟨fun e s Q Q' h q => ha.mo _ _ _ _ (fun _ _ q => hr.mo _ _ _ _ (fun _ _ q => h _ _ q) q) q, PA_imp (pa_cons ha.pe hr.pe hs) fun σ H Q ⟨env, io, F, st, R, q⟩ => ?_⟩
  refine tE_use ha.mo R q fun d s1 v io1 F1 H1 q1 t1 R1 n1 => ?_
  refine tA_use hr.mo R1 q1 fun ds s2 vs io2 F2 H2 q2 t2 R2 n2 => ?_
  exact q2 _ _ _ _ (t1.trans t2) R2.toRelH (.cons (t2.den n1) n2)
end
/-- a new tuple -/
theorem lay_tup {K : PySem.W.Frag} {H : Hp} {io : List Addr} {F : Hp} {st : Sto} {Q : VK} {vs : List V} {ds : List D} (R : RelH K H io F st) (n : DenL K io F vs ds) (z : ds.length ≤ sizeLine) (q : kE K H io F Q (.tup ds) st) :
    XtK H Q vs := fun p o hp hd =>
  q _ io (upd F p (.frz o (.tup vs))) _ (Stp.laid hp R.sub) (R.laid hp) (.tup (.inl ⟨o, upd_same, hd⟩) ((Stp.laid hp R.sub).denL n) z)
theorem lay_lst {K : PySem.W.Frag} {H : Hp} {io : List Addr} {F : Hp} {st : Sto} {Q : VK} {vs : List V} {ds : List D} (R : RelH K H io F st) (n : DenL K io F vs ds) (z : ds.length ≤ sizeLine) (q : kE K H io F Q (.lst ds) st) :
    ∀ p, H p = none → Q (.ref p) (upd H p (.lst vs)) := fun p hp =>
  q _ io (upd F p (.lst vs)) _ (Stp.laid hp R.sub) (R.laid hp) (.lst upd_same ((Stp.laid hp R.sub).denL n) z)
section
variable {K : PySem.W.Frag} {io io' : List Addr} {F F' H H' : Hp} {st st' : Sto}
/-- a new cell -/
theorem new_cell (R : RelH K H io F st) {p : Addr} {vs : List V} {ds : List D} (hp : H p = none) (n : DenL K io F vs ds) (z : ds.length ≤ sizeLine) :
    Stp H io F (upd H p (.lst vs)) (io ++ [p]) F ∧ RelH K (upd H p (.lst vs)) (io ++ [p]) F (st ++ [.lst ds]) ∧ Den K (io ++ [p]) F (.ref p) (.ref st.length) := by
  have s : Stp H io F (upd H p (.lst vs)) (io ++ [p]) F := (Stp.aside hp).cell hp
  exact ⟨s, (R.aside hp).adopt ⟨_, upd_same, fun _ z => nomatch z⟩ (R.notIo hp) ⟨R.notF hp, z, vs, upd_same, s.denL n⟩, R.newRef⟩
theorem lay_cell {Q : VK} {vs : List V} {ds : List D} (R : RelH K H io F st) (n : DenL K io F vs ds) (z : ds.length ≤ sizeLine) (q : kE K H io F Q (.ref st.length) (st ++ [.lst ds])) :
    ∀ p, H p = none → Q (.ref p) (upd H p (.lst vs)) := fun p hp => by
  obtain ⟨s, r, d⟩ := new_cell R hp n z
  exact q _ _ _ _ s r d
/-- a new list: kept apart (mutable) or a value -/
def newL (m : Bool) (ds : List D) (st : Sto) (Q : DK) : Prop := if m = true then Q (.ref st.length) (st ++ [.lst ds]) else Q (.lst ds) st
theorem newL_mo {m : Bool} {ds : List D} {st : Sto} {Q Q' : DK} (h : ∀ d s, Q d s → Q' d s) (q : newL m ds st Q) : newL m ds st Q' := by
  cases m with
  | true => exact h _ _ q
  | false => exact h _ _ q
theorem lay_new {m : Bool} {Q : VK} {vs : List V} {ds : List D} (R : RelH K H io F st) (n : DenL K io F vs ds) (z : ds.length ≤ sizeLine) (q : newL m ds st (kE K H io F Q)) :
    ∀ p, H p = none → Q (.ref p) (upd H p (.lst vs)) := by
  cases m with
  | true => exact lay_cell R n z q
  | false => exact lay_lst R n z q
end
section
variable {X : Cx} {pos : Pos} {es : List Expr} {wa : DA}
def wTup (wa : DA) : DE := fun env st Q => wa env st fun ds s => ds.length ≤ sizeLine ∧ Q (.tup ds) s
def wLst (m : Bool) (wa : DA) : DE := fun env st Q => wa env st fun ds s => ds.length ≤ sizeLine ∧ newL m ds s Q
theorem we_tup {k} (h : WA X es wa) : WE X (.Tuple es k pos) (wTup wa) := by
  refine ⟨fun e s Q Q' i q => h.mo _ _ _ _ (fun _ _ ⟨z, q⟩ => ⟨z, i _ _ q⟩) q, PE_imp (pe_tupX h.pe) fun σ H Q ⟨env, io, F, st, R, q⟩ => ?_⟩
  refine tA_use h.mo R q fun ds s1 vs io1 F1 H1 ⟨z, q1⟩ t1 R1 n1 => ⟨by rw [n1.length]; exact z, ?_⟩
  exact lay_tup R1.toRelH n1 z (kE_later t1 q1)
theorem we_lst {m : Bool} (h : WA X es wa) : WE X (.List es pos) (wLst m wa) := by
  refine ⟨fun e s Q Q' i q => h.mo _ _ _ _ (fun _ _ ⟨z, q⟩ => ⟨z, newL_mo i q⟩) q, PE_imp (pe_lst h.pe) fun σ H Q ⟨env, io, F, st, R, q⟩ => ?_⟩
  refine tA_use h.mo R q fun ds s1 vs io1 F1 H1 ⟨z, q1⟩ t1 R1 n1 => ⟨by rw [n1.length]; exact z, ?_⟩
  exact lay_new R1.toRelH n1 z (newL_mo (fun _ _ => kE_later t1) q1)
end
end DL
namespace DL
open PySem PySem.Spec PyProof.Rows L2
structure FnG (P : Program) (w : World) (K : PySem.W.Frag) (mg : Str → Option Value) (base : Heap) (CX : CXT) (k : Nat) (f : Addr) (fd : FuncData) (ps : List Str) (sp : Sp) : Prop where
  len : ∀ vs H Q E, sp vs H Q E → vs.length = ps.length
  run : ∀ (A : Around) (outer : List Env) (s : Shared) (H : Hp) (args : Args) (us : List Value) (vs : List V) (Q : VK) (E : XK), Room k A → A.guards = some [] → Env0 P w K mg base A outer s H → BindsTo s fd args (ps.zip us) →
    Vals vs us → sp vs H Q E → codeAny (model P w) A (.call (.ref f) args) (CR CX outer P w H s Q E) s
theorem FnG.mono {P : Program} {w : World} {K : PySem.W.Frag} {mg : Str → Option Value} {base : Heap} {CX : CXT} {j k : Nat} {f : Addr} {fd : FuncData} {ps : List Str} {sp : Sp} (F : FnG P w K mg base CX j f fd ps sp) (h : j ≤ k) :
    FnG P w K mg base CX k f fd ps sp := ⟨F.len, fun A outer s H args us vs Q E hr => F.run A outer s H args us vs Q E (hr.mono h)⟩
section
variable {X : Cx} {CX : CXT} {k : Nat} {f : Addr} {fd : FuncData} {ps : List Str} {sp : Sp} {E : XK} {x : Str} {p pos : Pos} {e : Expr} {es : List Expr} {t : TA}
theorem runG {pins : List (Addr × Obj)} {σ : L2.St} {H : Hp} {s : Shared} {Q : VK} {us : List Value} {vs : List V} (F : FnG X.prog X.w X.K X.mg X.base CX k f fd ps sp) (hr : Room k X.A) (hgd : X.A.guards = some []) (hb : Binds X.K fd ps [])
    (hx : Passes CX X E) (I : Inv X pins σ H s) (r : Vals vs us) (h : sp vs H Q E) : wpAny (model X.prog X.w) X.A (call (.ref f) us) (EP X pins σ Q) X.xe s := by
  have hlen : (us ++ []).length = ps.length := by rw [List.append_nil, ← r.length]; exact F.len _ _ _ _ h
  have hbind := hb s us I.kIn hlen
  rw [List.append_nil] at hbind
  have run := F.run X.A X.stack s H ⟨us, []⟩ us vs Q E hr hgd I.env0 hbind r h
  refine wpAny_call (codeAny_mono run fun res s' hq => ?_)
  match res, hq with
  | .error e, hq => exact hx pins σ H s e s' I hq
  | .ok (.ret u), hq => exact I.after hq
  | .ok .next, hq => exact hq.elim
  | .ok .brk, hq => exact hq.elim
  | .ok .cont, hq => exact hq.elim
theorem pe_callG (F : FnG X.prog X.w X.K X.mg X.base CX k f fd ps sp) (hr : Room k X.A) (hgd : X.A.guards = some []) (hg : Gl X x) (hm : X.mg x = some (.ref f)) (hk : PySem.W.keepIn X.K (.ref f) = true) (hb : Binds X.K fd ps []) (hx : Passes CX X E)
    (ha : PA X (e :: es) t) (hdb : (x == ("__debug__" : Str)) = false := by decide) (he : starEach (e :: es) X.env = (false, eval e X.env) :: starEach es X.env := by rfl) (hpl : (backTo pos (starEach es X.env)).any (·.1) = false := by rfl) :
    PE X (.Call (.Name x p) (e :: es) [] pos) (fun σ H Q => t σ H fun vs H1 => sp vs H1 Q E) := by
  refine ⟨fun pins s σ H Q I h => wpAny_Call_Name_kw (ld_glob I hg hm ?_ hdb)⟩
  refine PySem.W.callWith_K (h₀ := X.base) I.ok.mod.kin hk (thn (ha.run pos pins s σ H _ I h) fun us s1 h1 => ?_) he hpl
  obtain ⟨vs, H1, I1, r, q⟩ := h1
  exact ⟨I1.kIn, runG F hr hgd hb hx I1 r q⟩
end
/-- a def by its body -/
theorem fnG_of {CX : CXT} {P : Program} {w : World} {K : PySem.W.Frag} {mg : Str → Option Value} {base : Heap} {x qual : Str} {st : Stmt} {f : Addr} {fd : FuncData} {N ps : List Str} {k : Nat} {sp : Sp} (F : Fun K x qual st f fd) (S : FnScope N ps (defScope st))
    (len : ∀ vs H Q E, sp vs H Q E → vs.length = ps.length)
    (hbody : ∀ (cdv : Value) (A : Around) (outer : List Env) (s : Shared) (H : Hp) (vs : List V) (Q : VK) (E : XK), fd.code = cdv → Room k (A.deeper (envOfC qual (defScope st) s.heap.objs.size f cdv)) → A.guards = some [] → sp vs H Q E →
      ∃ t, PSs (cxOf CX P w K mg base N qual (defScope st) f cdv A outer s H E) (defBody st) t ∧ t { nx := fun _ H' => Q .non H', rt := Q } (L2.start N vs) H) : FnG P w K mg base CX (k + 1) f fd ps sp := by
  obtain ⟨oc, od, kV, doc, pm, an, cdv, ct, osl, rfl, lk, hcd⟩ := F.ex
  refine ⟨len, fun A outer s H args us vs Q E hr hgd e0 hb r hsp => ?_⟩
  have hl := len _ _ _ _ hsp
  have inK : K.In s.heap := e0.mod.kin.keeps fun b o e => (e0.bs b o e).1
  have lim : s.heap.NoLimit := e0.mod.nolimit.keeps fun b o e => (e0.bs b o e).1
  have slots : ∀ y ∈ ps.zip us, (defScope st).names.lookup y.1 = some .local ∨ ((defScope st).names.lookup y.1 = some .cell ∧ ((cellsFrom (s.heap.objs.size + 1) (defScope st).names []).lookup y.1).isSome = true) := by
    rintro ⟨n, v⟩ hy
    have q := S.par n (List.of_mem_zip hy).1
    exact q.elim .inl fun q => .inr ⟨q, PySem.W.cellsFrom_some _ _ _ (.inl q)⟩
  refine codeAny_call_function hr.depth (inK _ _ lk) rfl S.co S.gen rfl (PySem.W.codeRec_of inK hcd) (hb _ _ _ _ ?_)
  refine wpAny_newFunctionEnv_cells S.kind slots fun env he s1 entry => ?_
  subst he
  obtain ⟨t, ht, hq⟩ := hbody cdv A outer s H vs Q E rfl (hr.deeper _) hgd hsp
  have I : Inv (cxOf CX P w K mg base N qual (defScope st) f cdv A outer s H E) [] (L2.start N vs) H s1 := inv_start S hr.hd e0 hl r entry
  refine ⟨lim.keeps entry.toInCall.keep, codeAny_func (wpAny_mono (ht.run [] s1 _ H _ I hq) (fun fl s' hs => ?_) fun e s' hs => hs)⟩
  match fl, hs with
  | .ret u, ⟨v, _, H', J, rv, q⟩ => exact ⟨v, H', J.os, J.bare, J.base, J.hok, rv, q⟩
  | .next, ⟨_, H', J, q⟩ => exact ⟨.non, H', J.os, J.bare, J.base, J.hok, rfl, q⟩
  | .brk, ⟨_, _, _, q⟩ => exact q.elim
  | .cont, ⟨_, _, _, q⟩ => exact q.elim
/-- the code objects and tables of the defs that make lambdas -/
def tabCs (K : PySem.W.Frag) : List (Addr × Addr) := lamNames.filterMap fun x => PySem.W.tabIn K x
theorem tabs_cs {K : PySem.W.Frag} {p : Addr × Str} (h : p ∈ tabsOf K) : ∃ c, (c, p.1) ∈ tabCs K := by
  obtain ⟨x, hx, e⟩ := List.mem_filterMap.mp h
  cases q : PySem.W.tabIn K x with
  | none => rw [q] at e; cases e
  | some r =>
    rw [q] at e
    cases e
    exact ⟨r.1, List.mem_filterMap.mpr ⟨x, hx, q⟩⟩
/-- the law's call -/
theorem law_callT {P : Program} {w : World} {K : PySem.W.Frag} {mg mb : Str → Option Value} {k : Nat} {fa a : Addr} {fd : FuncData} {x : Str} {sp : Sp} {s₁ : Shared} {vs : List Value} {ns : List Int}
    (KX : K.In s₁.heap) (hns : s₁.heap.Ns mainGlobals mg) (hb : s₁.heap.Ns builtinsNs mb) (hbb : ∀ x : Str, x ≠ "__name__" → mb x = bootBuiltins x) (hlim : s₁.heap.NoLimit) (hg : s₁.gens = #[])
    (tE : ∀ p ∈ tabCs K, PySem.W.CodeHd s₁.heap p.1 p.2 ∧ s₁.heap.get? p.2 = some { cls := .none, data := .fields #[] }) (tN : ∀ p ∈ tabCs K, K.lookup p.2 = none)
    (tB : ∃ (bm : Addr) (ob : Obj), mg "__builtins__" = some (.ref bm) ∧ bm ≠ builtinsNs ∧ s₁.heap.get? bm = some ob ∧ ob.cls = .type "module" ∧ ob.dict = some builtinsNs ∧ ob.data = .plain)
    (ha : s₁.heap.get? a = some { cls := .type "list", data := .seq vs.toArray }) (hi : IntsAre vs ns) (hl : ns.length ≤ sizeLine) (hr : Room k callerA)
    (F : ∀ base : Heap, K.In base → base.Ns mainGlobals mg → (∀ p ∈ tabCs K, LamX.TabB base mg p.1 p.2) → FnG P w K mg base CX0 k fa fd [x] sp) (hbind : ∀ (s : Shared) (u : Value), BindsTo s fd ⟨[u], []⟩ [(x, u)])
    (hsp : ∀ H : Hp, (∀ p ∈ tabCs K, H p.2 = some (.tbl #[])) → SqL K H a (ns.map V.int) → sp [.ref a] H (fun v _ => v = .bl true) fun _ _ _ => False) :
    codeAny (model P w) callerA (.call (.ref fa) ⟨[.ref a], []⟩) (fun r s' => r = .ok (.ret (.bool true)) ∧ OldK s₁.heap s'.heap ∧ s'.os = s₁.os ∧ AllBare s'.gens) s₁ := by
  have rv := vals_ints hi
  have lenV := hi.length
  let obj : Obj := { cls := .type "list", data := .seq vs.toArray }
  let Ps : List Addr := (tabCs K).map (·.2)
  have tabP : ∀ b ∈ Ps, s₁.heap.get? b = some { cls := .none, data := .fields #[] } ∧ K.lookup b = none := fun b hb => by
    obtain ⟨p, hp, rfl⟩ := List.mem_map.mp hb
    exact ⟨(tE p hp).2, tN p hp⟩
  have inP : ∀ p ∈ tabCs K, p.2 ∈ Ps := fun p hp => List.mem_map.mpr ⟨p, hp, rfl⟩
  have aP : a ∉ Ps := fun h => by
    have := (tabP a h).1
    rw [ha] at this
    cases this
  -- the abstract heap: the script, unless the module itself has it, and the tables
  let H0 : Hp := fun b => if b ∈ Ps then some (.tbl #[]) else if b = a ∧ K.lookup a = none then some (.frz obj (.lst (ns.map V.int))) else none
  have h0t : ∀ b ∈ Ps, H0 b = some (.tbl #[]) := fun b hb => by show (if b ∈ Ps then _ else _) = _; rw [if_pos hb]
  have h0n : ∀ b, b ∉ Ps → H0 b = if b = a ∧ K.lookup a = none then some (.frz obj (.lst (ns.map V.int))) else none := fun b hb => by show (if b ∈ Ps then _ else _) = _; rw [if_neg hb]
  have at_a : ∀ b o, H0 b = some o → (b ∈ Ps ∧ o = .tbl #[]) ∨ (b ∉ Ps ∧ b = a ∧ K.lookup a = none ∧ o = .frz obj (.lst (ns.map V.int))) := fun b o e => by
    by_cases hb : b ∈ Ps
    · rw [h0t b hb] at e
      exact .inl ⟨hb, (Option.some.inj e).symm⟩
    · rw [h0n b hb] at e
      by_cases q : b = a ∧ K.lookup a = none
      · rw [if_pos q] at e
        exact .inr ⟨hb, q.1, q.2, (Option.some.inj e).symm⟩
      · rw [if_neg q] at e
        cases e
  have hS : SqL K H0 a (ns.map V.int) := by
    cases q : K.lookup a with
    | none => exact .inl (.inr ⟨obj, by rw [h0n a aP, if_pos ⟨rfl, q⟩]⟩)
    | some o =>
      have e := KX a o q
      rw [ha] at e
      cases e
      exact .inr ⟨_, vs.toArray, _, q, rfl, rfl, rfl, by rw [List.size_toArray, lenV]; exact hl, by simpa using rv⟩
  have hok : HOk P w H0 s₁.heap := fun b o e => by
    rcases at_a b o e with ⟨hb, rfl⟩ | ⟨_, rfl, _, rfl⟩
    · exact (tabP b hb).1
    · exact ⟨ha, by rw [List.length_map]; exact hl, vs, _, rv, ha⟩
  have free_of : ∀ {b : Addr} {o : Obj}, s₁.heap.get? b = some o → (∀ xs n, o.data ≠ .seq xs n) → o.data ≠ .fields #[] → H0 b = none := fun {b o} e d d2 => by
    cases q : H0 b with
    | none => rfl
    | some u =>
      rcases at_a b u q with ⟨hb, _⟩ | ⟨_, rfl, _, _⟩
      · rw [(tabP b hb).1] at e
        cases e
        exact absurd rfl d2
      · rw [ha] at e
        cases e
        exact absurd rfl (d _ _)
  have nsOf : ∀ {b : Addr} {m : Str → Option Value}, s₁.heap.Ns b m → (hidT s₁.heap H0).Ns b m := fun {b m} ⟨o, es, ep, e, d, r⟩ =>
    ⟨o, es, ep, hidT_get e (free_of e (fun xs n z => by rw [d] at z; cases z) (fun z => by rw [d] at z; cases z)), d, r⟩
  have inB : K.In (hidT s₁.heap H0) := fun b o e => hidT_get (KX b o e) (by
    cases q : H0 b with
    | none => rfl
    | some u =>
      rcases at_a b u q with ⟨hb, _⟩ | ⟨_, rfl, q2, _⟩
      · rw [(tabP b hb).2] at e; cases e
      · rw [q2] at e; cases e)
  have hM : Mod K mg (hidT s₁.heap H0) := ⟨inB, nsOf hns, ⟨mb, nsOf hb, hbb⟩, let ⟨mc, h1, h2⟩ := hlim; ⟨mc, nsOf h1, h2⟩⟩
  have hTB : ∀ p ∈ tabCs K, LamX.TabB (hidT s₁.heap H0) mg p.1 p.2 := fun p hp => by
    have hPp := (tE p hp).2
    constructor
    · obtain ⟨o, us, f1, f2, f3, f4, f5, f6, f7, g1, g2, g3, g4, gr⟩ := (tE p hp).1
      have : H0 p.1 = none := free_of g1 (fun xs n z => by rw [g3] at z; cases z) fun z => by
        rw [g3] at z
        cases z
        simp at g4
      exact ⟨o, us, f1, f2, f3, f4, f5, f6, f7, hidT_get g1 this, g2, g3, g4, gr⟩
    · obtain ⟨bm, ob, b1, b2, b3, b4, b5, b6⟩ := tB
      have n1 : bm ≠ mainGlobals := fun q => by
        obtain ⟨o, es, ep, e, d, _⟩ := hns
        rw [q, e] at b3
        cases b3
        rw [d] at b6; cases b6
      have n2 : bm ≠ p.2 := fun q => by
        rw [q, hPp] at b3
        cases b3; cases b6
      have : H0 bm = none := free_of b3 (fun xs n z => by rw [b6] at z; cases z) fun z => by rw [b6] at z; cases z
      exact ⟨bm, ob, b1, b2, n1, n2, hidT_get b3 this, b4, b5, b6⟩
    · intro q
      obtain ⟨o, es, ep, e, d, _⟩ := hns
      rw [q, hPp] at e
      cases e; cases d
  have e0 : Env0 P w K mg (hidT s₁.heap H0) callerA [] s₁ H0 := ⟨rfl, hM, fun b o e => of_hidT e, Nat.le_of_eq (hidT_size _ _), trivial, fun b hb => absurd (show b ∈ ([] : List Addr) from hb) (by simp), hok, .of_eq hg⟩
  refine codeAny_mono ((F _ inB (nsOf hns) hTB).run callerA [] s₁ H0 ⟨[.ref a], []⟩ [.ref a] [.ref a] _ _ hr rfl e0 (hbind s₁ (.ref a)) (.cons rfl .nil) (hsp H0 (fun p hp => h0t _ (inP p hp)) hS)) fun r s' h => ?_
  match r, h with
  | .error e, h => exact h.elim
  | .ok .next, h => exact h.elim
  | .ok .brk, h => exact h.elim
  | .ok .cont, h => exact h.elim
  | .ok (.ret u), h =>
    obtain ⟨v, H', os, bare, un, hok', r', q⟩ := h
    subst q
    obtain rfl : u = Value.bool true := r'
    have stay : ∀ b o, b ∉ Ps → s₁.heap.get? b = some o → s'.heap.get? b = some o := fun b o nb e => by
      cases q : H0 b with
      | none => exact un.keep b o e q (by intro z; exact absurd (show b ∈ ([] : List Addr) from z) (by simp)) (by simp)
      | some u =>
        rcases at_a b u q with ⟨hb, _⟩ | ⟨_, rfl, _, rfl⟩
        · exact absurd hb nb
        · have e2 := hok' _ _ (un.frzs _ obj _ q)
          rw [ha] at e
          cases e
          exact e2.1
    have grew : ∀ p ∈ tabCs K, ∃ more : Array Value, s'.heap.get? p.2 = some { cls := .none, data := .fields more } := fun p hp => by
      obtain ⟨more, z⟩ := un.tbls p.2 #[] (h0t _ (inP p hp))
      exact ⟨_, hok' _ _ z⟩
    refine ⟨rfl, ⟨fun b o e => ?_, fun b o e => ?_⟩, os, bare⟩
    all_goals by_cases hm : b ∈ Ps
    · obtain ⟨p, hp, rfl⟩ := List.mem_map.mp hm
      obtain ⟨more, z⟩ := grew p hp
      rw [(tE p hp).2] at e
      cases e
      refine .inr (.inl ⟨((tE p hp).1.tab (tE p hp).2).isCodeTable, rfl, #[], more, rfl, ?_⟩)
      rw [Array.empty_append]
      exact z
    · exact .inl (stay b o hm e)
    · obtain ⟨p, hp, rfl⟩ := List.mem_map.mp hm
      obtain ⟨more, z⟩ := grew p hp
      exact ⟨_, z⟩
    · exact ⟨o, stay b o hm e⟩
end DL
namespace DL
open PySem PySem.Spec PyProof.Rows L2
def tabsW (g : Addr → Option Obj) (K : PySem.W.Frag) : Bool := (tabCs K).all fun p => PySem.W.codeHdIn K p.1 p.2 && (match g p.2 with
  | some o => He.emptyTab o
  | none => false)
def wOf (fn : List He.DefD) (ex : PySem.W.Frag → Bool) (g : Addr → Option Obj) (K : PySem.W.Frag) : He.AlD := ((fn.all fun d => d.ok K) && (ex K && tabsW g K), fn.map fun d => He.fnW K d.at_)
/-- the objects looked at: the module's, the classes' namespaces and methods, the defs' code -/
def refE (o : Obj) : List Addr := match o.data with
  | .dict es _ => es.toList.flatMap fun e => He.refV e.val
  | _ => []
def refC (o : Obj) : List Addr := match o.data with
  | .func fd => He.refV fd.code
  | .cls cd => [cd.ns]
  | _ => []
def lev (f : Obj → List Addr) (g : Addr → Option Obj) (as : List Addr) : List Addr := as.flatMap fun a => match g a with
  | some o => f o
  | none => []
def asW3 (g : Addr → Option Obj) (l1 l2 l3 : List Addr) : List Addr := mainGlobals :: (l1 ++ (l2 ++ (l3 ++ lev refC g l3)))
def asW2 (g : Addr → Option Obj) (l1 l2 : List Addr) : List Addr := asW3 g l1 l2 (lev refE g l2)
def asW1 (g : Addr → Option Obj) (l1 : List Addr) : List Addr := asW2 g l1 (lev refC g l1)
def asW (g : Addr → Option Obj) : List Addr := asW1 g (lev refE g [mainGlobals])
def obsW (fn : List He.DefD) (ex : PySem.W.Frag → Bool) (g : Addr → Option Obj) : He.AlD := wOf fn ex g (He.frT g (asW g))
structure SaysW (fn : List He.DefD) (ex : PySem.W.Frag → Bool) (h : Heap) (K : PySem.W.Frag) : Prop where
  d : He.SaysD [] fn K
  ex : ex K = true
  tabs : ∀ p ∈ tabCs K, (PySem.W.codeHdIn K p.1 p.2 = true ∧ h.get? p.2 = some { cls := .none, data := .fields #[] }) ∧ K.lookup p.2 = none
theorem saysW_of {fn : List He.DefD} {ex : PySem.W.Frag → Bool} {h : Heap} (e : obsW fn ex h.get? = He.valD fn) : SaysW fn ex h (He.frT h.get? (asW h.get?)) := by
  have e1 : ((fn.all fun d => d.ok (He.frT h.get? (asW h.get?))) && (ex (He.frT h.get? (asW h.get?)) && tabsW h.get? (He.frT h.get? (asW h.get?)))) = true := congrArg (fun z : He.AlD => z.1) e
  have e2 : fn.map (fun d => He.fnW (He.frT h.get? (asW h.get?)) d.at_) = fn.map He.DefD.val := congrArg (fun z : He.AlD => z.2) e
  obtain ⟨h1, h2⟩ := He.ba e1
  obtain ⟨h3, h4⟩ := He.ba h2
  refine ⟨?_, h3, fun p hp => ?_⟩
  · show ((([] : List He.Fa).all fun f => f.ok _) && fn.all fun d => d.ok _, fn.map fun d => He.fnW _ d.at_) = (true, fn.map He.DefD.val)
    rw [e2, h1]
    rfl
  · obtain ⟨h5, h6⟩ := He.ba (List.all_eq_true.mp h4 p hp)
    cases q : h.get? p.2 with
    | none => rw [q] at h6; cases h6
    | some o =>
      rw [q] at h6
      exact ⟨⟨h5, by rw [He.emptyTab_eq h6]⟩, He.frT_none q h6⟩
def hookW (fn : List He.DefD) (ex : PySem.W.Frag → Bool) : PySem.W.Hook where
  α := He.AlD
  obs := fun s => obsW fn ex s.heap.get?
  val := fun _ => He.valD fn
  says := fun _ h => ∃ K : PySem.W.Frag, K.In h ∧ SaysW fn ex h K
  of := fun _ _ e => ⟨_, He.frT_in, saysW_of e⟩
  keeps := fun _ _ _ ⟨K, hK, c⟩ k => ⟨K, PySem.W.Frag.In.keeps hK k, ⟨c.d, c.ex, fun p hp => ⟨⟨(c.tabs p hp).1.1, k _ _ (c.tabs p hp).1.2⟩, (c.tabs p hp).2⟩⟩⟩
theorem obsW_eq {fn : List He.DefD} {ex : PySem.W.Frag → Bool} {g : Addr → Option Obj} {s : Shared} (h : ∀ a, g a = s.heap.get? a) : obsW fn ex g = (hookW fn ex).obs s := by
  have e : g = s.heap.get? := funext h
  rw [e] <;> rfl
section
variable {fn : List He.DefD} {K : PySem.W.Frag} {h : Heap}
/-- a def's object -/
theorem def_at {fa : List He.Fa} (c : He.SaysD fa fn K) (i : Nat) {d : He.DefD} (hi : fn[i]? = some d) (e1 : d.dfl = []) : ∃ (oc : Value) (od an : Option Addr) (sl : Array (Option Value)) (kV dc pm cd ct : Value),
    K.lookup (He.fAd K d.at_) = some ⟨oc, od, .func (PySem.W.fnOf d.name d.qual d.params d.body d.scope .none kV dc pm an cd ct), sl⟩ ∧ PySem.W.codeIn K cd d.qual = true ∧ PySem.W.keepIn K (.ref (He.fAd K d.at_)) = true := by
  obtain ⟨fd, F⟩ := c.def_ i hi
  obtain ⟨⟨oc, od, dV, kV, doc, pm, an, cdv, ct, osl, rfl, lk, hc, hd, _⟩, kp⟩ := F
  have hdv : d.dvs K = [] := by unfold He.DefD.dvs; rw [e1]; rfl
  rw [hdv] at hd
  rcases hd with ⟨_, rfl⟩ | ⟨z, _⟩
  · exact ⟨_, _, _, _, _, _, _, _, _, lk, hc, kp⟩
  · exact absurd rfl z
/-- an own exception's class -/
def oexB (K : PySem.W.Frag) (C : Addr) : Bool := match K.lookup C with
  | some ⟨.type c, _, .cls cd, sl⟩ => decide (c = "type") && (match cd.mro, sl.toList with
    | .ref C' :: bm, [_, _, _, _, some (.builtin n), _] => decide (C' = C) && (decide (n = "ValueError.__new__") && (!cd.hasDel && (cd.hasDict && PySem.HandSPX.refsVE bm)))
    | _, _ => false)
  | _ => false
theorem oexB_ok {C : Addr} (q : oexB K C = true) : ∃ nm q N bs bm sn sub ab col dd k0 k1 k2 k3 k5, K.lookup C = some (PySem.excClassObj nm q C N bs bm true sn sub ab col dd k0 k1 k2 k3 k5 "ValueError.__new__") ∧ PySem.HandSPX.refsVE bm = true := by
  unfold oexB at q
  split at q
  · rename_i c dd cd sl ho
    obtain ⟨q1, r⟩ := He.ba q
    clear q
    have ec := of_decide_eq_true q1
    subst ec
    split at r
    · rename_i C' bm k0 k1 k2 k3 n k5 hm hs
      obtain ⟨q2, r2⟩ := He.ba r
      obtain ⟨q3, r3⟩ := He.ba r2
      obtain ⟨q4, r4⟩ := He.ba r3
      obtain ⟨q5, q6⟩ := He.ba r4
      have e2 := of_decide_eq_true q2
      have e3 := of_decide_eq_true q3
      subst e2 e3
      obtain ⟨n1, n2, n3, n4, n5, n6, n7, n8, n9, n10, n11⟩ := cd
      have hm : n3 = .ref C' :: bm := hm
      have w4 : n11 = false := by simpa using q4
      have w5 : n6 = true := q5
      subst hm w4 w5
      obtain ⟨sl⟩ := sl
      have hs : sl = [k0, k1, k2, k3, some (.builtin "ValueError.__new__"), k5] := hs
      subst hs
      exact ⟨_, _, _, _, _, _, _, _, _, _, _, _, _, _, _, ho, q6⟩
    · cases r
  · cases q
theorem exs_at {exs : List (PySem.W.Frag → Bool)} (c : (exs.all fun f => f K) = true) (i : Nat) {f : PySem.W.Frag → Bool} (h : exs[i]? = some f) : f K = true := List.all_eq_true.mp c f (List.mem_of_getElem? h)
theorem walk_TE {l : PySem.W.OpenLaw} {n k : Nat} {q : Program} {loose : List Str} {XP : (Str → Option Value) → Heap → Prop} {YP : World → Heap → Prop} {d : DefRec} {sp : PySem.W.Frag → Sp} {x : Str}
    (hn : l.most = some n) (hn2 : n ≤ sizeLine) (hdf : d.params.defaults = []) (hr : Room k callerA)
    (F : ∀ (w : World) (mg : Str → Option Value) (fa : Addr) (h : Heap), YP w h → h.Ns mainGlobals mg → mg d.name = some (.ref fa) →
      ∃ K : PySem.W.Frag, K.In h ∧ (∀ p ∈ tabCs K, (PySem.W.CodeHd h p.1 p.2 ∧ h.get? p.2 = some { cls := .none, data := .fields #[] }) ∧ K.lookup p.2 = none) ∧
        ∃ fd : FuncData, (∀ (s : Shared) (u : Value), BindsTo s fd ⟨[u], []⟩ [(x, u)]) ∧ ∀ base : Heap, K.In base → base.Ns mainGlobals mg → (∀ p ∈ tabCs K, LamX.TabB base mg p.1 p.2) → FnG l.prog w K mg base CX0 k fa fd [x] (sp K))
    (hsp : ∀ (K : PySem.W.Frag) (H : Hp) (a : Addr) (ns : List Int), ns.length ≤ n → (∀ p ∈ tabCs K, H p.2 = some (.tbl #[])) → SqL K H a (ns.map V.int) → sp K [.ref a] H (fun v _ => v = .bl true) fun _ _ _ => False) :
    PySem.W.WalkO q loose XP YP l.row.toRowW d [] (fun f vs => PySem.call f vs) := by
  refine Att.attach_call hn hdf fun w s₀ s₁ mg mb fa o pm cd doc a vs ns G Y ho hd hcd hmg hobj hints hlen hg => ?_
  obtain ⟨K, KX, both, fd, hb, hF⟩ := F w mg fa _ Y G.T.g hmg
  exact law_callT KX G.T.g G.T.b G.T.builtins G.T.nolimit hg (fun p hp => (both p hp).1) (fun p hp => (both p hp).2) G.T.bmain hobj hints (Nat.le_trans hlen hn2) hr hF hb fun H h1 hS => hsp K H a ns hlen h1 hS
theorem tabs_ok {ex : PySem.W.Frag → Bool} (X : K.In h) (c : SaysW fn ex h K) : ∀ p ∈ tabCs K, (PySem.W.CodeHd h p.1 p.2 ∧ h.get? p.2 = some { cls := .none, data := .fields #[] }) ∧ K.lookup p.2 = none := fun p hp =>
  ⟨⟨PySem.W.codeHd_of_K X (c.tabs p hp).1.1, (c.tabs p hp).1.2⟩, (c.tabs p hp).2⟩
end
end DL
namespace DL.M
open PySem PySem.Spec PyProof.Rows L2
def topS (i : Nat) : Stmt := PySem.Challenge.pw_workwishes_k36_no_room.main.body.getD i (.Pass ⟨0, 0, 0, 0⟩)
abbrev s_p_end_of : Stmt := topS 9
abbrev s_f_law_deck : Stmt := topS 17
abbrev s_f_law_next : Stmt := topS 18
abbrev s_f_law_put : Stmt := topS 19
abbrev s_f_law_same : Stmt := topS 20
abbrev s_f_law_ways : Stmt := topS 25
abbrev s_f_law_clash : Stmt := topS 26
abbrev s_f_law_stands : Stmt := topS 28
abbrev s_f_law_is_kind : Stmt := topS 32
abbrev s_p_is_behind : Stmt := topS 10
abbrev s_f_law_rows_of : Stmt := topS 21
abbrev s_f_law_wish : Stmt := topS 23
abbrev s_f_law_whole : Stmt := topS 27
abbrev s_f_law_order : Stmt := topS 29
abbrev s_f_law_fits : Stmt := topS 30
abbrev s_p_clash : Stmt := topS 11
abbrev s_f_law_work : Stmt := topS 22
abbrev s_f_law_by : Stmt := topS 31
abbrev s_p_goes_with_orders : Stmt := topS 13
abbrev s_f_law_system : Stmt := topS 24
abbrev s_p_first_way : Stmt := topS 14
abbrev s_p_by_order : Stmt := topS 15
abbrev s_f_law_refused : Stmt := topS 33
abbrev s_p_law : Stmt := topS 34
end DL.M
namespace DL
open PySem PySem.Spec PyProof.Rows L2
namespace HeadF
open PySem PySem.Spec PyProof.Rows L2
def d_p_end_of : He.DefD := ⟨("end_of", none), "end_of", "end_of", defArgs (DL.M.s_p_end_of), defBody (DL.M.s_p_end_of), defScope (DL.M.s_p_end_of), [], []⟩
def d_f_law_deck : He.DefD := ⟨("_law_deck", none), "_law_deck", "_law_deck", defArgs (DL.M.s_f_law_deck), defBody (DL.M.s_f_law_deck), defScope (DL.M.s_f_law_deck), [], []⟩
def d_f_law_next : He.DefD := ⟨("_law_next", none), "_law_next", "_law_next", defArgs (DL.M.s_f_law_next), defBody (DL.M.s_f_law_next), defScope (DL.M.s_f_law_next), [], []⟩
def d_f_law_put : He.DefD := ⟨("_law_put", none), "_law_put", "_law_put", defArgs (DL.M.s_f_law_put), defBody (DL.M.s_f_law_put), defScope (DL.M.s_f_law_put), [], []⟩
def d_f_law_same : He.DefD := ⟨("_law_same", none), "_law_same", "_law_same", defArgs (DL.M.s_f_law_same), defBody (DL.M.s_f_law_same), defScope (DL.M.s_f_law_same), [], []⟩
def d_f_law_ways : He.DefD := ⟨("_law_ways", none), "_law_ways", "_law_ways", defArgs (DL.M.s_f_law_ways), defBody (DL.M.s_f_law_ways), defScope (DL.M.s_f_law_ways), [], []⟩
def d_f_law_clash : He.DefD := ⟨("_law_clash", none), "_law_clash", "_law_clash", defArgs (DL.M.s_f_law_clash), defBody (DL.M.s_f_law_clash), defScope (DL.M.s_f_law_clash), [], []⟩
def d_f_law_stands : He.DefD := ⟨("_law_stands", none), "_law_stands", "_law_stands", defArgs (DL.M.s_f_law_stands), defBody (DL.M.s_f_law_stands), defScope (DL.M.s_f_law_stands), [], []⟩
def d_f_law_is_kind : He.DefD := ⟨("_law_is_kind", none), "_law_is_kind", "_law_is_kind", defArgs (DL.M.s_f_law_is_kind), defBody (DL.M.s_f_law_is_kind), defScope (DL.M.s_f_law_is_kind), [], []⟩
def d_p_is_behind : He.DefD := ⟨("is_behind", none), "is_behind", "is_behind", defArgs (DL.M.s_p_is_behind), defBody (DL.M.s_p_is_behind), defScope (DL.M.s_p_is_behind), [], []⟩
def d_f_law_rows_of : He.DefD := ⟨("_law_rows_of", none), "_law_rows_of", "_law_rows_of", defArgs (DL.M.s_f_law_rows_of), defBody (DL.M.s_f_law_rows_of), defScope (DL.M.s_f_law_rows_of), [], []⟩
def d_f_law_wish : He.DefD := ⟨("_law_wish", none), "_law_wish", "_law_wish", defArgs (DL.M.s_f_law_wish), defBody (DL.M.s_f_law_wish), defScope (DL.M.s_f_law_wish), [], []⟩
def d_f_law_whole : He.DefD := ⟨("_law_whole", none), "_law_whole", "_law_whole", defArgs (DL.M.s_f_law_whole), defBody (DL.M.s_f_law_whole), defScope (DL.M.s_f_law_whole), [], []⟩
def d_f_law_order : He.DefD := ⟨("_law_order", none), "_law_order", "_law_order", defArgs (DL.M.s_f_law_order), defBody (DL.M.s_f_law_order), defScope (DL.M.s_f_law_order), [], []⟩
def d_f_law_fits : He.DefD := ⟨("_law_fits", none), "_law_fits", "_law_fits", defArgs (DL.M.s_f_law_fits), defBody (DL.M.s_f_law_fits), defScope (DL.M.s_f_law_fits), [], []⟩
def d_p_clash : He.DefD := ⟨("clash", none), "clash", "clash", defArgs (DL.M.s_p_clash), defBody (DL.M.s_p_clash), defScope (DL.M.s_p_clash), [], []⟩
def d_f_law_work : He.DefD := ⟨("_law_work", none), "_law_work", "_law_work", defArgs (DL.M.s_f_law_work), defBody (DL.M.s_f_law_work), defScope (DL.M.s_f_law_work), [], []⟩
def d_f_law_by : He.DefD := ⟨("_law_by", none), "_law_by", "_law_by", defArgs (DL.M.s_f_law_by), defBody (DL.M.s_f_law_by), defScope (DL.M.s_f_law_by), [], []⟩
def d_p_goes_with_orders : He.DefD := ⟨("goes_with", none), "goes_with", "goes_with", defArgs (DL.M.s_p_goes_with_orders), defBody (DL.M.s_p_goes_with_orders), defScope (DL.M.s_p_goes_with_orders), [], []⟩
def d_f_law_system : He.DefD := ⟨("_law_system", none), "_law_system", "_law_system", defArgs (DL.M.s_f_law_system), defBody (DL.M.s_f_law_system), defScope (DL.M.s_f_law_system), [], []⟩
def d_p_first_way : He.DefD := ⟨("first_way", none), "first_way", "first_way", defArgs (DL.M.s_p_first_way), defBody (DL.M.s_p_first_way), defScope (DL.M.s_p_first_way), [], []⟩
def d_p_by_order : He.DefD := ⟨("by_order", none), "by_order", "by_order", defArgs (DL.M.s_p_by_order), defBody (DL.M.s_p_by_order), defScope (DL.M.s_p_by_order), [], []⟩
def d_f_law_refused : He.DefD := ⟨("_law_refused", none), "_law_refused", "_law_refused", defArgs (DL.M.s_f_law_refused), defBody (DL.M.s_f_law_refused), defScope (DL.M.s_f_law_refused), [], []⟩
def d_p_law : He.DefD := ⟨("law", none), "law", "law", defArgs (DL.M.s_p_law), defBody (DL.M.s_p_law), defScope (DL.M.s_p_law), [], []⟩
def d_init_NoRoom : He.DefD := ⟨("NoRoom", some "__init__"), "__init__", "NoRoom.__init__", defArgs (inClass (DL.M.topS 4) 0), defBody (inClass (DL.M.topS 4) 0), defScope (inClass (DL.M.topS 4) 0), [], []⟩
def dfs_0 : List (He.DefD) := [d_p_end_of, d_f_law_deck, d_f_law_next, d_f_law_put, d_f_law_same, d_f_law_ways, d_f_law_clash, d_f_law_stands, d_f_law_is_kind, d_p_is_behind, d_f_law_rows_of, d_f_law_wish, d_f_law_whole, d_f_law_order, d_f_law_fits, d_p_clash, d_f_law_work, d_f_law_by, d_p_goes_with_orders, d_f_law_system, d_p_first_way, d_p_by_order, d_f_law_refused, d_p_law, d_init_NoRoom]
def dfs : List (He.DefD) := dfs_0
def exs_0 : List (PySem.W.Frag → Bool) := [fun K => decide (PySem.W.nsIn K mainGlobals "NoDeed" = some (some (.ref (He.ga K "NoDeed")))), fun K => decide (PySem.W.exmOne K (.ref (He.ga K "NoDeed")) (.ref (He.ga K "WishError")) = some true), fun K => decide (PySem.W.nsIn K mainGlobals "NoPlan" = some (some (.ref (He.ga K "NoPlan")))), fun K => decide (PySem.W.exmOne K (.ref (He.ga K "NoPlan")) (.ref (He.ga K "WishError")) = some true), fun K => decide (PySem.W.nsIn K mainGlobals "NoRoom" = some (some (.ref (He.ga K "NoRoom")))), fun K => decide (PySem.W.keepIn K (.ref (He.ga K "NoRoom")) = true), fun K => decide (PySem.W.subIn K (.ref (He.ga K "NoRoom")) (.type "BaseException") = some true), fun K => decide (PySem.W.typeIn K (.ref (He.ga K "NoRoom")) = some (.type "type")), fun K => oexB K (He.ga K "NoRoom"), fun K => decide (PySem.W.findIn K (.ref (He.ga K "NoRoom")) "__setattr__" = some (some (.builtin "object.__setattr__"))), fun K => decide (PySem.W.findIn K (.ref (He.ga K "NoRoom")) "__init__" = some (some (.ref (He.fAd K d_init_NoRoom.at_)))), fun K => decide (PySem.W.typeIn K (.ref (He.fAd K d_init_NoRoom.at_)) = some (.type "function")), fun K => decide (PySem.W.findIn K (.ref (He.ga K "NoRoom")) "work" = some none), fun K => decide (PySem.W.exmOne K (.ref (He.ga K "NoRoom")) (.ref (He.ga K "WishError")) = some true), fun K => decide (PySem.W.nsIn K mainGlobals "NoText" = some (some (.ref (He.ga K "NoText")))), fun K => decide (PySem.W.exmOne K (.ref (He.ga K "NoText")) (.ref (He.ga K "WishError")) = some true), fun K => decide (PySem.W.nsIn K mainGlobals "NotEven" = some (some (.ref (He.ga K "NotEven")))), fun K => decide (PySem.W.exmOne K (.ref (He.ga K "NotEven")) (.ref (He.ga K "WishError")) = some true), fun K => decide (PySem.W.nsIn K mainGlobals "TooMany" = some (some (.ref (He.ga K "TooMany")))), fun K => decide (PySem.W.exmOne K (.ref (He.ga K "TooMany")) (.ref (He.ga K "WishError")) = some true), fun K => decide (PySem.W.nsIn K mainGlobals "WishError" = some (some (.ref (He.ga K "WishError")))), fun K => decide (PySem.W.specialIn K (.builtin "object.__class__") "__get__" = some (some (.builtin "getset_descriptor.__get__"))), fun K => decide (PySem.W.takesIn K (.builtin "object.__class__") = some true), fun K => decide (PySem.W.findIn K (.ref (He.ga K "NoDeed")) "__getattribute__" = some (some (.builtin "BaseException.__getattribute__"))), fun K => decide (PySem.W.findIn K (.ref (He.ga K "NoDeed")) "__getattr__" = some none), fun K => decide (PySem.W.subIn K (.ref (He.ga K "NoDeed")) (.type "BaseException") = some true), fun K => decide (PySem.W.hasDictIn K (He.ga K "NoDeed") = true), fun K => decide (PySem.W.findIn K (.ref (He.ga K "NoDeed")) "__class__" = some (some (.builtin "object.__class__"))), fun K => decide (PySem.W.mroIn K (He.ga K "NoDeed") (.type "object") = some true), fun K => decide (PySem.W.kitOne K (.ref (He.ga K "NoDeed")) (.ref (He.ga K "NoDeed")) = some true)]
def exs_1 : List (PySem.W.Frag → Bool) := [fun K => decide (PySem.W.kitOne K (.ref (He.ga K "NoDeed")) (.ref (He.ga K "NoPlan")) = some false), fun K => decide (PySem.W.kitOne K (.ref (He.ga K "NoDeed")) (.ref (He.ga K "NoRoom")) = some false), fun K => decide (PySem.W.kitOne K (.ref (He.ga K "NoDeed")) (.ref (He.ga K "NoText")) = some false), fun K => decide (PySem.W.kitOne K (.ref (He.ga K "NoDeed")) (.ref (He.ga K "NotEven")) = some false), fun K => decide (PySem.W.kitOne K (.ref (He.ga K "NoDeed")) (.ref (He.ga K "TooMany")) = some false), fun K => decide (PySem.W.kitOne K (.ref (He.ga K "NoDeed")) (.ref (He.ga K "WishError")) = some true), fun K => decide (PySem.W.kitOne K (.ref (He.ga K "NoDeed")) (.type "ValueError") = some true), fun K => decide (PySem.W.findIn K (.ref (He.ga K "NoPlan")) "__getattribute__" = some (some (.builtin "BaseException.__getattribute__"))), fun K => decide (PySem.W.findIn K (.ref (He.ga K "NoPlan")) "__getattr__" = some none), fun K => decide (PySem.W.subIn K (.ref (He.ga K "NoPlan")) (.type "BaseException") = some true), fun K => decide (PySem.W.hasDictIn K (He.ga K "NoPlan") = true), fun K => decide (PySem.W.findIn K (.ref (He.ga K "NoPlan")) "__class__" = some (some (.builtin "object.__class__"))), fun K => decide (PySem.W.mroIn K (He.ga K "NoPlan") (.type "object") = some true), fun K => decide (PySem.W.kitOne K (.ref (He.ga K "NoPlan")) (.ref (He.ga K "NoDeed")) = some false), fun K => decide (PySem.W.kitOne K (.ref (He.ga K "NoPlan")) (.ref (He.ga K "NoPlan")) = some true), fun K => decide (PySem.W.kitOne K (.ref (He.ga K "NoPlan")) (.ref (He.ga K "NoRoom")) = some false), fun K => decide (PySem.W.kitOne K (.ref (He.ga K "NoPlan")) (.ref (He.ga K "NoText")) = some false), fun K => decide (PySem.W.kitOne K (.ref (He.ga K "NoPlan")) (.ref (He.ga K "NotEven")) = some false), fun K => decide (PySem.W.kitOne K (.ref (He.ga K "NoPlan")) (.ref (He.ga K "TooMany")) = some false), fun K => decide (PySem.W.kitOne K (.ref (He.ga K "NoPlan")) (.ref (He.ga K "WishError")) = some true), fun K => decide (PySem.W.kitOne K (.ref (He.ga K "NoPlan")) (.type "ValueError") = some true), fun K => decide (PySem.W.findIn K (.ref (He.ga K "NoRoom")) "__getattribute__" = some (some (.builtin "BaseException.__getattribute__"))), fun K => decide (PySem.W.findIn K (.ref (He.ga K "NoRoom")) "__getattr__" = some none), fun K => decide (PySem.W.subIn K (.ref (He.ga K "NoRoom")) (.type "BaseException") = some true), fun K => decide (PySem.W.hasDictIn K (He.ga K "NoRoom") = true), fun K => decide (PySem.W.findIn K (.ref (He.ga K "NoRoom")) "__class__" = some (some (.builtin "object.__class__"))), fun K => decide (PySem.W.mroIn K (He.ga K "NoRoom") (.type "object") = some true), fun K => decide (PySem.W.kitOne K (.ref (He.ga K "NoRoom")) (.ref (He.ga K "NoDeed")) = some false), fun K => decide (PySem.W.kitOne K (.ref (He.ga K "NoRoom")) (.ref (He.ga K "NoPlan")) = some false), fun K => decide (PySem.W.kitOne K (.ref (He.ga K "NoRoom")) (.ref (He.ga K "NoRoom")) = some true)]
def exs_2 : List (PySem.W.Frag → Bool) := [fun K => decide (PySem.W.kitOne K (.ref (He.ga K "NoRoom")) (.ref (He.ga K "NoText")) = some false), fun K => decide (PySem.W.kitOne K (.ref (He.ga K "NoRoom")) (.ref (He.ga K "NotEven")) = some false), fun K => decide (PySem.W.kitOne K (.ref (He.ga K "NoRoom")) (.ref (He.ga K "TooMany")) = some false), fun K => decide (PySem.W.kitOne K (.ref (He.ga K "NoRoom")) (.ref (He.ga K "WishError")) = some true), fun K => decide (PySem.W.kitOne K (.ref (He.ga K "NoRoom")) (.type "ValueError") = some true), fun K => decide (PySem.W.findIn K (.ref (He.ga K "NoText")) "__getattribute__" = some (some (.builtin "BaseException.__getattribute__"))), fun K => decide (PySem.W.findIn K (.ref (He.ga K "NoText")) "__getattr__" = some none), fun K => decide (PySem.W.subIn K (.ref (He.ga K "NoText")) (.type "BaseException") = some true), fun K => decide (PySem.W.hasDictIn K (He.ga K "NoText") = true), fun K => decide (PySem.W.findIn K (.ref (He.ga K "NoText")) "__class__" = some (some (.builtin "object.__class__"))), fun K => decide (PySem.W.mroIn K (He.ga K "NoText") (.type "object") = some true), fun K => decide (PySem.W.kitOne K (.ref (He.ga K "NoText")) (.ref (He.ga K "NoDeed")) = some false), fun K => decide (PySem.W.kitOne K (.ref (He.ga K "NoText")) (.ref (He.ga K "NoPlan")) = some false), fun K => decide (PySem.W.kitOne K (.ref (He.ga K "NoText")) (.ref (He.ga K "NoRoom")) = some false), fun K => decide (PySem.W.kitOne K (.ref (He.ga K "NoText")) (.ref (He.ga K "NoText")) = some true), fun K => decide (PySem.W.kitOne K (.ref (He.ga K "NoText")) (.ref (He.ga K "NotEven")) = some false), fun K => decide (PySem.W.kitOne K (.ref (He.ga K "NoText")) (.ref (He.ga K "TooMany")) = some false), fun K => decide (PySem.W.kitOne K (.ref (He.ga K "NoText")) (.ref (He.ga K "WishError")) = some true), fun K => decide (PySem.W.kitOne K (.ref (He.ga K "NoText")) (.type "ValueError") = some true), fun K => decide (PySem.W.findIn K (.ref (He.ga K "NotEven")) "__getattribute__" = some (some (.builtin "BaseException.__getattribute__"))), fun K => decide (PySem.W.findIn K (.ref (He.ga K "NotEven")) "__getattr__" = some none), fun K => decide (PySem.W.subIn K (.ref (He.ga K "NotEven")) (.type "BaseException") = some true), fun K => decide (PySem.W.hasDictIn K (He.ga K "NotEven") = true), fun K => decide (PySem.W.findIn K (.ref (He.ga K "NotEven")) "__class__" = some (some (.builtin "object.__class__"))), fun K => decide (PySem.W.mroIn K (He.ga K "NotEven") (.type "object") = some true), fun K => decide (PySem.W.kitOne K (.ref (He.ga K "NotEven")) (.ref (He.ga K "NoDeed")) = some false), fun K => decide (PySem.W.kitOne K (.ref (He.ga K "NotEven")) (.ref (He.ga K "NoPlan")) = some false), fun K => decide (PySem.W.kitOne K (.ref (He.ga K "NotEven")) (.ref (He.ga K "NoRoom")) = some false), fun K => decide (PySem.W.kitOne K (.ref (He.ga K "NotEven")) (.ref (He.ga K "NoText")) = some false), fun K => decide (PySem.W.kitOne K (.ref (He.ga K "NotEven")) (.ref (He.ga K "NotEven")) = some true)]
def exs_3 : List (PySem.W.Frag → Bool) := [fun K => decide (PySem.W.kitOne K (.ref (He.ga K "NotEven")) (.ref (He.ga K "TooMany")) = some false), fun K => decide (PySem.W.kitOne K (.ref (He.ga K "NotEven")) (.ref (He.ga K "WishError")) = some true), fun K => decide (PySem.W.kitOne K (.ref (He.ga K "NotEven")) (.type "ValueError") = some true), fun K => decide (PySem.W.findIn K (.ref (He.ga K "TooMany")) "__getattribute__" = some (some (.builtin "BaseException.__getattribute__"))), fun K => decide (PySem.W.findIn K (.ref (He.ga K "TooMany")) "__getattr__" = some none), fun K => decide (PySem.W.subIn K (.ref (He.ga K "TooMany")) (.type "BaseException") = some true), fun K => decide (PySem.W.hasDictIn K (He.ga K "TooMany") = true), fun K => decide (PySem.W.findIn K (.ref (He.ga K "TooMany")) "__class__" = some (some (.builtin "object.__class__"))), fun K => decide (PySem.W.mroIn K (He.ga K "TooMany") (.type "object") = some true), fun K => decide (PySem.W.kitOne K (.ref (He.ga K "TooMany")) (.ref (He.ga K "NoDeed")) = some false), fun K => decide (PySem.W.kitOne K (.ref (He.ga K "TooMany")) (.ref (He.ga K "NoPlan")) = some false), fun K => decide (PySem.W.kitOne K (.ref (He.ga K "TooMany")) (.ref (He.ga K "NoRoom")) = some false), fun K => decide (PySem.W.kitOne K (.ref (He.ga K "TooMany")) (.ref (He.ga K "NoText")) = some false), fun K => decide (PySem.W.kitOne K (.ref (He.ga K "TooMany")) (.ref (He.ga K "NotEven")) = some false), fun K => decide (PySem.W.kitOne K (.ref (He.ga K "TooMany")) (.ref (He.ga K "TooMany")) = some true), fun K => decide (PySem.W.kitOne K (.ref (He.ga K "TooMany")) (.ref (He.ga K "WishError")) = some true), fun K => decide (PySem.W.kitOne K (.ref (He.ga K "TooMany")) (.type "ValueError") = some true), fun K => decide (PySem.W.kitOne K (.type "tuple") (.ref (He.ga K "NoDeed")) = some false), fun K => decide (PySem.W.kitOne K (.type "int") (.ref (He.ga K "NoDeed")) = some false), fun K => decide (PySem.W.kitOne K (.type "tuple") (.ref (He.ga K "NoPlan")) = some false), fun K => decide (PySem.W.kitOne K (.type "int") (.ref (He.ga K "NoPlan")) = some false), fun K => decide (PySem.W.kitOne K (.type "tuple") (.ref (He.ga K "NoRoom")) = some false), fun K => decide (PySem.W.kitOne K (.type "int") (.ref (He.ga K "NoRoom")) = some false), fun K => decide (PySem.W.kitOne K (.type "tuple") (.ref (He.ga K "NoText")) = some false), fun K => decide (PySem.W.kitOne K (.type "int") (.ref (He.ga K "NoText")) = some false), fun K => decide (PySem.W.kitOne K (.type "tuple") (.ref (He.ga K "NotEven")) = some false), fun K => decide (PySem.W.kitOne K (.type "int") (.ref (He.ga K "NotEven")) = some false), fun K => decide (PySem.W.kitOne K (.type "tuple") (.ref (He.ga K "TooMany")) = some false), fun K => decide (PySem.W.kitOne K (.type "int") (.ref (He.ga K "TooMany")) = some false), fun K => decide (PySem.W.kitOne K (.type "tuple") (.ref (He.ga K "WishError")) = some false)]
def exs_4 : List (PySem.W.Frag → Bool) := [fun K => decide (PySem.W.kitOne K (.type "int") (.ref (He.ga K "WishError")) = some false), fun K => decide (PySem.W.findIn K (.ref (He.ga K "NoRoom")) "__getattribute__" = some (some (.builtin "BaseException.__getattribute__"))), fun K => decide (PySem.W.findIn K (.ref (He.ga K "NoRoom")) "__getattr__" = some none), fun K => decide (PySem.W.subIn K (.ref (He.ga K "NoRoom")) (.type "BaseException") = some true), fun K => decide (PySem.W.hasDictIn K (He.ga K "NoRoom") = true), fun K => decide (PySem.W.findIn K (.ref (He.ga K "NoRoom")) "work" = some none), fun K => decide (PySem.W.nsIn K mainGlobals "end_of" = some (some (.ref (He.fAd K d_p_end_of.at_)))), fun K => decide (PySem.W.nsIn K mainGlobals "_law_deck" = some (some (.ref (He.fAd K d_f_law_deck.at_)))), fun K => decide (PySem.W.nsIn K mainGlobals "_law_next" = some (some (.ref (He.fAd K d_f_law_next.at_)))), fun K => decide (PySem.W.nsIn K mainGlobals "_law_put" = some (some (.ref (He.fAd K d_f_law_put.at_)))), fun K => decide (PySem.W.nsIn K mainGlobals "_law_same" = some (some (.ref (He.fAd K d_f_law_same.at_)))), fun K => decide (PySem.W.nsIn K mainGlobals "_law_ways" = some (some (.ref (He.fAd K d_f_law_ways.at_)))), fun K => decide (PySem.W.nsIn K mainGlobals "_law_clash" = some (some (.ref (He.fAd K d_f_law_clash.at_)))), fun K => decide (PySem.W.nsIn K mainGlobals "_law_stands" = some (some (.ref (He.fAd K d_f_law_stands.at_)))), fun K => decide (PySem.W.nsIn K mainGlobals "_law_is_kind" = some (some (.ref (He.fAd K d_f_law_is_kind.at_)))), fun K => decide (PySem.W.nsIn K mainGlobals "is_behind" = some (some (.ref (He.fAd K d_p_is_behind.at_)))), fun K => decide (PySem.W.nsIn K mainGlobals "_law_rows_of" = some (some (.ref (He.fAd K d_f_law_rows_of.at_)))), fun K => decide (PySem.W.nsIn K mainGlobals "_law_wish" = some (some (.ref (He.fAd K d_f_law_wish.at_)))), fun K => decide (PySem.W.nsIn K mainGlobals "_law_whole" = some (some (.ref (He.fAd K d_f_law_whole.at_)))), fun K => decide (PySem.W.nsIn K mainGlobals "_law_order" = some (some (.ref (He.fAd K d_f_law_order.at_)))), fun K => decide (PySem.W.nsIn K mainGlobals "_law_fits" = some (some (.ref (He.fAd K d_f_law_fits.at_)))), fun K => decide (PySem.W.nsIn K mainGlobals "clash" = some (some (.ref (He.fAd K d_p_clash.at_)))), fun K => decide (PySem.W.nsIn K mainGlobals "_law_work" = some (some (.ref (He.fAd K d_f_law_work.at_)))), fun K => decide (PySem.W.nsIn K mainGlobals "_law_by" = some (some (.ref (He.fAd K d_f_law_by.at_)))), fun K => decide (PySem.W.nsIn K mainGlobals "goes_with" = some (some (.ref (He.fAd K d_p_goes_with_orders.at_)))), fun K => decide (PySem.W.nsIn K mainGlobals "_law_system" = some (some (.ref (He.fAd K d_f_law_system.at_)))), fun K => decide (PySem.W.nsIn K mainGlobals "first_way" = some (some (.ref (He.fAd K d_p_first_way.at_)))), fun K => decide (PySem.W.nsIn K mainGlobals "by_order" = some (some (.ref (He.fAd K d_p_by_order.at_)))), fun K => decide (PySem.W.nsIn K mainGlobals "_law_refused" = some (some (.ref (He.fAd K d_f_law_refused.at_)))), fun K => decide (PySem.W.nsIn K mainGlobals "law" = some (some (.ref (He.fAd K d_p_law.at_))))]
def exs_5 : List (PySem.W.Frag → Bool) := [fun K => decide (PySem.W.nsIn K mainGlobals "ValueError" = some none), fun K => decide (PySem.W.nsIn K mainGlobals "abs" = some none), fun K => decide (PySem.W.nsIn K mainGlobals "enumerate" = some none), fun K => decide (PySem.W.nsIn K mainGlobals "int" = some none), fun K => decide (PySem.W.nsIn K mainGlobals "isinstance" = some none), fun K => decide (PySem.W.nsIn K mainGlobals "len" = some none), fun K => decide (PySem.W.nsIn K mainGlobals "min" = some none), fun K => decide (PySem.W.nsIn K mainGlobals "range" = some none), fun K => decide (PySem.W.nsIn K mainGlobals "repr" = some none), fun K => decide (PySem.W.nsIn K mainGlobals "sorted" = some none), fun K => decide (PySem.W.nsIn K mainGlobals "tuple" = some none)]
def exs : List (PySem.W.Frag → Bool) := exs_0 ++ exs_1 ++ exs_2 ++ exs_3 ++ exs_4 ++ exs_5
def loose_0 : List (PySem.Str) := ["WishError", "TooMany", "NoPlan", "NoRoom", "NotEven", "NoDeed", "NoText", "end_of", "is_behind", "clash", "goes_with", "first_way", "by_order", "_law_deck", "_law_next", "_law_put", "_law_same", "_law_rows_of", "_law_work", "_law_wish", "_law_system", "_law_ways", "_law_clash", "_law_whole", "_law_stands", "_law_order", "_law_fits", "_law_by", "_law_is_kind", "_law_refused"]
def loose : List (PySem.Str) := loose_0
abbrev R : PySem.W.OpenRow := PySem.W.OpenLaw.row PySem.Challenge.rw_workwishes_k36_no_room
abbrev hk : PySem.W.Hook := hookW dfs (fun K => exs.all fun f => f K)
def ob (s : PySem.W.SharedT) : He.AlD := obsW dfs (fun K => exs.all fun f => f K) (HandSHeadRun.getT s)
theorem ob_eq (s : PySem.W.SharedT) : ob s = hk.obs s.abs := obsW_eq (HandSHeadRun.getT_eq s)
theorem run (w : World) : HandSHeadRun.RunEq R (PySem.W.view R.prog [34]) hk ob 40000 loose w := by
  intro os
  kernel_rfl
end HeadF
end DL
namespace DL
open PySem PySem.Spec PyProof.Rows L2
variable [Bs]
structure Spec where
  n : Nat
  G : Type
  args : G → List D
  pre : G → Sto → Prop
  post : G → Sto → D → Sto → Prop
def spOf (K : PySem.W.Frag) (S : Spec) : Sp := fun vs H Q _ => ∃ g io F st, (S.args g).length = S.n ∧ RelH K H io F st ∧ DenL K io F vs (S.args g) ∧ S.pre g st ∧ ∀ d st', S.post g st d st' → kE K H io F Q d st'
def wCall (S : Spec) (wa : DA) : DE := fun env st Q => wa env st fun ds s1 => ∃ g, ds = S.args g ∧ (S.args g).length = S.n ∧ S.pre g s1 ∧ ∀ d s2, S.post g s1 d s2 → Q d s2
section
variable {X : Cx} {pos p : Pos} {e : Expr} {es : List Expr} {wa : DA} {k : Nat} {f : Addr} {fd : FuncData} {ps : List Str} {x : Str}
theorem moCall {S : Spec} {wa : DA} (m : MoA wa) : MoE (wCall S wa) := fun _ _ _ _ i q => m _ _ _ _ (fun _ _ ⟨g, e, z, p, q⟩ => ⟨g, e, z, p, fun d s h => i _ _ (q d s h)⟩) q
theorem we_call {S : Spec} (F : FnG X.prog X.w X.K X.mg X.base CX0 k f fd ps (spOf X.K S)) (hr : Room k X.A) (hgd : X.A.guards = some []) (hg : Gl X x) (hm : X.mg x = some (.ref f)) (hk : PySem.W.keepIn X.K (.ref f) = true) (hb : Binds X.K fd ps [])
    (ha : WA X (e :: es) wa) (hdb : (x == ("__debug__" : Str)) = false := by decide) (he : starEach (e :: es) X.env = (false, eval e X.env) :: starEach es X.env := by rfl) (hpl : (backTo pos (starEach es X.env)).any (·.1) = false := by rfl) :
    WE X (.Call (.Name x p) (e :: es) [] pos) (wCall S wa) := by
  refine ⟨moCall ha.mo, PE_imp (pe_callG F hr hgd hg hm hk hb pass0 ha.pe hdb he hpl) fun σ H Q ⟨env, io, F, st, R, q⟩ => ?_⟩
  refine tA_use ha.mo R q fun ds s1 vs io1 F1 H1 ⟨g, eg, z, p1, q1⟩ t1 R1 n1 => ?_
  subst eg
  exact ⟨g, io1, F1, s1, z, R1.toRelH, n1, p1, fun d s2 h => kE_later t1 (q1 d s2 h)⟩
abbrev RLD := List D → Sto → DK → Prop
structure RzL (K : PySem.W.Frag) (r : List V → Hp → VK → Prop) (f : RLD) : Prop where
  mo : ∀ ds s Q Q', (∀ d s, Q d s → Q' d s) → f ds s Q → f ds s Q'
  on : ∀ {H io F st vs ds Q}, RelH K H io F st → DenL K io F vs ds → f ds st (kE K H io F Q) → r vs H Q
def wCB (f : RLD) (wa : DA) : DE := fun env st Q => wa env st fun ds s1 => f ds s1 Q
theorem we_callX {r : List V → Hp → VK → Prop} {f : RLD} (z : RzL X.K r f) {e0 : Expr} (pe : ∀ {t : TA}, PA X es t → PE X e0 (tCB r t)) (ha : WA X es wa) : WE X e0 (wCB f wa) := by
  refine ⟨fun _ _ _ _ i q => ha.mo _ _ _ _ (fun _ _ q => z.mo _ _ _ _ i q) q, PE_imp (pe ha.pe) fun σ H Q ⟨env, io, F, st, R, q⟩ => ?_⟩
  refine tA_use ha.mo R q fun ds s1 vs io1 F1 H1 q1 t1 R1 n1 => ?_
  exact z.on R1.toRelH n1 (z.mo _ _ _ _ (fun _ _ => kE_later t1) q1)
end
section
variable {X : Cx} {pos pos' : Pos} {e : Expr} {we : DE} {ss rest : Stmt} {sts : List Stmt} {ws wr : DS}
theorem wb_nil : WB X [] (fun D env st => D.nx env st) := ⟨fun _ _ _ _ l q => l.nx _ _ q, PSs_imp pss_nil fun D σ H ⟨env, io, F, st, R, q⟩ => q σ io F H Stp.refl R⟩
def wSeq (a b : DS) : DS := fun D env st => a { D with nx := fun e s => b D e s } env st
theorem kD_seq {K : PySem.W.Frag} {H : Hp} {io : List Addr} {F : Hp} {D : Ends} {b : DS} (mb : MoS b) : DEnds.le { kD K H io F D with nx := fun e s => b (kD K H io F D) e s } (kD K H io F { D with nx := tS K b D }) :=
  ⟨fun e s h σ' io' F' H' t R => ⟨e, io', F', s, R, mb _ _ _ _ (kD_later t) h⟩, fun _ _ h => h, fun _ _ h => h, fun _ _ h => h⟩
theorem wb_cons (h1 : WS X ss ws) (h2 : WB X sts wr) : WB X (ss :: sts) (wSeq ws wr) := by
  refine ⟨fun A B e s l q => h1.mo { A with nx := fun e s => wr A e s } _ _ _ ⟨fun e s q => h2.mo A B _ _ l q, l.rt, l.bk, l.ct⟩ q, PSs_imp (pss_cons h1.pe h2.pe) fun D σ H ⟨env, io, F, st, R, q⟩ => ?_⟩
  exact ⟨env, io, F, st, R, h1.mo _ _ _ _ (kD_seq h2.mo) q⟩
theorem wb_one (h1 : WS X ss ws) : WB X [ss] ws := ⟨h1.mo, pss_one h1.pe⟩
def wDrop (we : DE) : DS := fun D env st => we env st fun _ s => D.nx env s
theorem ws_expr (he : WE X e we) (hs : swapsWith e none pos.line X.env = pure false := by rfl) : WS X (.Expr e pos) (wDrop we) := by
  refine ⟨fun _ _ _ _ l q => he.mo _ _ _ _ (fun _ _ q => l.nx _ _ q) q, PS_imp (ps_expr he.pe hs) fun D σ H ⟨env, io, F, st, R, q⟩ => ?_⟩
  exact tE_use he.mo R q fun d s1 v io1 F1 H1 q1 t1 R1 n1 => q1 σ _ _ _ t1 R1
def wRet (we : DE) : DS := fun D env st => we env st D.rt
theorem ws_ret (he : WE X e we) : WS X (.Return (some e) pos) (wRet we) := by
  refine ⟨fun _ _ _ _ l q => he.mo _ _ _ _ (fun _ _ q => l.rt _ _ q) q, PS_imp (ps_ret he.pe) fun D σ H ⟨env, io, F, st, R, q⟩ => ?_⟩
  exact tE_use he.mo R q fun d s1 v io1 F1 H1 q1 t1 R1 n1 => kE_at q1 t1 R1.toRelH n1
def wIf (c : DT) (a b : DS) : DS := fun D env st => c env st fun k s => if k = true then a D env s else b D env s
theorem ws_if {c : Expr} {a b : List Stmt} {wc : DT} {wa wb : DS} (hc : WT X c wc) (ha : WB X a wa) (hb : WB X b wb) : WS X (.If c a b pos) (wIf wc wa wb) := by
  refine ⟨fun _ _ _ _ l q => hc.mo _ _ _ _ (fun k _ q => by
    cases k with
    | true => exact ha.mo _ _ _ _ l q
    | false => exact hb.mo _ _ _ _ l q) q, PS_imp (ps_if hc.pe ha.pe hb.pe) fun D σ H ⟨env, io, F, st, R, q⟩ => ?_⟩
  refine tT_use hc.mo R q fun k s1 io1 F1 H1 q1 t1 R1 => ?_
  cases k with
  | true => exact ⟨env, io1, F1, s1, R1, ha.mo _ _ _ _ (kD_later t1) q1⟩
  | false => exact ⟨env, io1, F1, s1, R1, hb.mo _ _ _ _ (kD_later t1) q1⟩
abbrev DG := D → En → Sto → (En → Sto → Prop) → Prop
def MoG (g : DG) : Prop := ∀ d e s (Q Q' : En → Sto → Prop), (∀ e s, Q e s → Q' e s) → g d e s Q → g d e s Q'
def tG (K : PySem.W.Frag) (g : DG) : TG := fun v σ H Q => ∃ d env io F st, Rel K σ H env io F st ∧ Den K io F v d ∧ g d env st (kN K H io F Q)
structure WG (X : Cx) (e : Expr) (g : DG) : Prop where
  mo : MoG g
  pe : PG X e (tG X.K g)
abbrev DGs := List D → En → Sto → (En → Sto → Prop) → Prop
def MoGs (g : DGs) : Prop := ∀ d e s (Q Q' : En → Sto → Prop), (∀ e s, Q e s → Q' e s) → g d e s Q → g d e s Q'
def tGs (K : PySem.W.Frag) (g : DGs) : TGs := fun vs σ H Q => ∃ ds env io F st, Rel K σ H env io F st ∧ DenL K io F vs ds ∧ g ds env st (kN K H io F Q)
structure WGs (X : Cx) (es : List Expr) (g : DGs) : Prop where
  mo : MoGs g
  pe : PGs X es (tGs X.K g)
theorem PG_imp {t t' : TG} (h : PG X e t) (i : ∀ v σ H Q, t' v σ H Q → t v σ H Q) : PG X e t' := ⟨fun p s σ H v u Q I r q => h.run p s σ H v u Q I r (i v σ H Q q)⟩
theorem PGs_imp {es : List Expr} {t t' : TGs} (h : PGs X es t) (i : ∀ v σ H Q, t' v σ H Q → t v σ H Q) : PGs X es t' := ⟨fun p s σ H v u Q I r q => h.run p s σ H v u Q I r (i v σ H Q q)⟩
theorem Rel.set {K : PySem.W.Frag} {σ : L2.St} {H : Hp} {env : En} {io : List Addr} {F : Hp} {st : Sto} {i : Nat} {v : V} {d : D} (R : Rel K σ H env io F st) (n : Den K io F v d) : Rel K (σ.set i (some v)) H (env.set i (some d)) io F st :=
  { R.toRelH with
    bs := R.bs
    sl := by rw [List.length_set, List.length_set]; exact R.sl
    slot := fun j d' e => by
      by_cases hj : i = j
      · subst hj
        by_cases hl : i < env.length
        · rw [List.getElem?_set_self hl] at e
          cases e
          exact ⟨v, List.getElem?_set_self (by rw [R.sl]; exact hl), n⟩
        · rw [List.getElem?_eq_none (by rw [List.length_set]; omega)] at e
          cases e
      · rw [List.getElem?_set_ne hj] at e ⊢
        exact R.slot j d' e }
def gNm (i : Nat) : DG := fun d env st Q => Q (env.set i (some d)) st
theorem wg_name {i : Nat} {x : Str} (hN : X.N.Nodup) (hi : X.N[i]? = some x) (hx : Loc X.env.scope x) (hf : X.fn x = true ∨ X.env.scope.names.lookup x = some .local := by first | exact .inl rfl | exact .inr rfl | assumption) : WG X (.Name x pos) (gNm i) :=
  ⟨fun _ _ _ _ _ h q => h _ _ q, PG_imp (pg_name hN hi hx hf) fun v σ H Q ⟨d, env, io, F, st, R, n, q⟩ => q _ _ _ _ Stp.refl (R.set n)⟩
def gNl : DGs := fun ds env st Q => ds = [] ∧ Q env st
def gCn (g : DG) (r : DGs) : DGs := fun ds env st Q => ∃ d ds', ds = d :: ds' ∧ g d env st fun e s => r ds' e s Q
theorem wgs_nil : WGs X [] gNl := ⟨fun _ _ _ _ _ h ⟨a, q⟩ => ⟨a, h _ _ q⟩, PGs_imp pgs_nil fun v σ H Q ⟨d, env, io, F, st, R, n, e, q⟩ => by
  subst e
  cases n
  exact ⟨rfl, q _ _ _ _ Stp.refl R⟩⟩
theorem wgs_cons {es : List Expr} {g : DG} {r : DGs} (h1 : WG X e g) (h2 : WGs X es r) (hs : (assignEach (e :: es) X.env).map (·.2) = assign e X.env :: (assignEach es X.env).map (·.2) := by rfl) : WGs X (e :: es) (gCn g r) := by
  refine ⟨fun _ _ _ _ _ h ⟨d, ds', e, q⟩ => ⟨d, ds', e, h1.mo _ _ _ _ _ (fun _ _ q => h2.mo _ _ _ _ _ h q) q⟩, PGs_imp (pgs_cons h1.pe h2.pe hs) fun v σ H Q ⟨ds, env, io, F, st, R, n, q⟩ => ?_⟩
  obtain ⟨d, ds', e, q⟩ := q
  subst e
  cases n with
  | cons n1 n2 =>
    refine ⟨_, _, rfl, d, env, io, F, st, R, n1, h1.mo _ _ _ _ _ (fun e1 s1 q1 => ?_) q⟩
    intro σ' io' F' H' t R'
    exact ⟨ds', e1, io', F', s1, R', t.denL n2, h2.mo _ _ _ _ _ (fun e2 s2 q2 => kN_later t q2) q1⟩
def gTp (n : Nat) (g : DGs) : DG := fun d env st Q => ∃ ds, d = .tup ds ∧ ds.length = n ∧ g ds env st Q
theorem wg_tup {es : List Expr} {k n : Nat} {g : DGs} (hc : X.calm = true) (h : WGs X es g) (hn : (assignEach es X.env).length = n := by rfl) (hst : (assignEach es X.env).findIdx? (·.1) = none := by rfl) : WG X (.Tuple es k pos) (gTp n g) := by
  refine ⟨fun _ _ _ _ _ i ⟨ds, e, z, q⟩ => ⟨ds, e, z, h.mo _ _ _ _ _ i q⟩, PG_imp (pg_tup hc h.pe hn hst) fun v σ H Q ⟨d, env, io, F, st, R, n1, q⟩ => ?_⟩
  obtain ⟨ds, e, z, q⟩ := q
  subst e
  cases n1 with
  | tup s r _ => exact ⟨_, _, rfl, SqT_mono R.sub s.t, by rw [r.length]; exact z, ds, env, io, F, st, R, r, q⟩
def wAsg (we : DE) (g : DG) : DS := fun D env st => we env st fun d s => g d env s D.nx
theorem ws_asg {tg : Expr} {g : DG} (he : WE X e we) (hg : WG X tg g) (hs : swapsWithSole [tg] e pos.line X.env = pure false := by rfl) (hw : swappedStores [tg] e X.env = pure none := by rfl)
    (h1 : (assignEach [tg] X.env).map (·.2) = [assign tg X.env] := by rfl) : WS X (.Assign [tg] e pos) (wAsg we g) := by
  refine ⟨fun _ _ _ _ l q => he.mo _ _ _ _ (fun _ _ q => hg.mo _ _ _ _ _ l.nx q) q, PS_imp (ps_asg he.pe hg.pe hs hw h1) fun D σ H ⟨env, io, F, st, R, q⟩ => ?_⟩
  exact tE_use he.mo R q fun d s1 v io1 F1 H1 q1 t1 R1 n1 => ⟨d, env, io1, F1, s1, R1, n1, hg.mo _ _ _ _ _ (fun e s q => kN_later t1 q) q1⟩
theorem ws_set {i : Nat} {x : Str} (hN : X.N.Nodup) (hi : X.N[i]? = some x) (hx : Loc X.env.scope x) (he : WE X e we) (hs : swapsWith e (some (.Name x pos')) pos.line X.env = pure false := by rfl)
    (hf : X.fn x = true ∨ X.env.scope.names.lookup x = some .local := by first | exact .inl rfl | exact .inr rfl | assumption) : WS X (.Assign [.Name x pos'] e pos) (wAsg we (gNm i)) := by
  refine ⟨fun _ _ _ _ l q => he.mo _ _ _ _ (fun _ _ q => l.nx _ _ q) q, PS_imp (ps_set hN hi hx he.pe hs hf) fun D σ H ⟨env, io, F, st, R, q⟩ => ?_⟩
  exact tE_use he.mo R q fun d s1 v io1 F1 H1 q1 t1 R1 n1 => q1 _ _ _ _ t1 (R1.set n1)
end
end DL
namespace DL
open PySem PySem.Spec PyProof.Rows L2
variable [Bs]
abbrev GK := List D → (Sto → Prop) → Sto → Prop
abbrev DI := En → Sto → GK → Prop
def MoI (w : DI) : Prop := ∀ (e : En) (s : Sto) (Q Q' : GK), (∀ d g s, Q d g s → Q' d g s) → w e s Q → w e s Q'
structure WalkD (K : PySem.W.Frag) (J : It) (H : Hp) (io : List Addr) (F : Hp) (ds : List D) (G : Sto → Prop) : Prop where
  go : ∀ {H2 io2 F2 st2} (i : Nat), Stp H io F H2 io2 F2 → RelH K H2 io2 F2 st2 → G st2 → i < ds.length → J.go i H2
  stop : ∀ {H2 io2 F2 st2}, Stp H io F H2 io2 F2 → RelH K H2 io2 F2 st2 → G st2 → J.stop ds.length H2
  yld : ∀ {H2 io2 F2 st2} (i : Nat) (x : V) (H3 : Hp), Stp H io F H2 io2 F2 → RelH K H2 io2 F2 st2 → G st2 → i < ds.length → J.yld i H2 x H3 →
    ∃ F3 d, Stp H2 io2 F2 H3 io2 F3 ∧ RelH K H3 io2 F3 st2 ∧ ds[i]? = some d ∧ Den K io2 F3 x d
def kI (K : PySem.W.Frag) (H : Hp) (io : List Addr) (F : Hp) (R : It → Hp → Prop) : GK := fun ds G st' => ∀ io' F' H' J, Stp H io F H' io' F' → RelH K H' io' F' st' → WalkD K J H' io' F' ds G → R J H'
def tI (K : PySem.W.Frag) (w : DI) : TI := fun σ H R => ∃ env io F st, Rel K σ H env io F st ∧ w env st (kI K H io F R)
structure WI (X : Cx) (tg iter : Expr) (w : DI) : Prop where
  mo : MoI w
  pe : PI X tg iter (tI X.K w)
theorem PI_imp {X : Cx} {tg iter : Expr} {t t' : TI} (h : PI X tg iter t) (i : ∀ σ H R, t' σ H R → t σ H R) : PI X tg iter t' := ⟨fun p s σ H R I q => h.run p s σ H R I (i σ H R q)⟩
def wForL (G : Sto → Prop) (g : DG) (b : DS) (A : DEnds) : List D → En → Sto → Prop
  | [], env, st => G st ∧ A.nx env st
  | d :: r, env, st => G st ∧ g d env st fun e s => b { nx := wForL G g b A r, rt := A.rt, bk := A.nx, ct := wForL G g b A r } e s
def wFor (wi : DI) (g : DG) (b : DS) : DS := fun D env st => wi env st fun ds G s => wForL G g b D ds env s
theorem moForL {G : Sto → Prop} {g : DG} {b : DS} (mg : MoG g) (mb : MoS b) {A B : DEnds} (l : A.le B) : ∀ (ds : List D) (env : En) (st : Sto), wForL G g b A ds env st → wForL G g b B ds env st
  | [], _, _, ⟨h, q⟩ => ⟨h, l.nx _ _ q⟩
  | d :: r, env, st, ⟨h, q⟩ => ⟨h, mg _ _ _ _ _ (fun e s q => mb { nx := wForL G g b A r, rt := A.rt, bk := A.nx, ct := wForL G g b A r } { nx := wForL G g b B r, rt := B.rt, bk := B.nx, ct := wForL G g b B r } _ _ ⟨moForL mg mb l r, l.rt, l.nx, moForL mg mb l r⟩ q) q⟩
section
variable {X : Cx} {pos : Pos} {tg iter : Expr} {body : List Stmt} {wi : DI} {g : DG} {b : DS}
theorem ws_for (hp : PassesOwn (model X.prog X.w) X.A X.env X.xe) (hc : X.calm = true) (hi : WI X tg iter wi) (hg : WG X tg g) (hb : WB X body b)
    (hs : ∀ x, foldedSetIterable iter X.env x = pure x := by intro _; rfl) : WS X (.For tg iter body [] pos) (wFor wi g b) := by
  refine ⟨fun A B e s l q => hi.mo _ _ _ _ (fun ds G s q => moForL hg.mo hb.mo l ds e s q) q, PS_imp (ps_for hp hc hi.pe hg.pe hb.pe hs) fun D σ H ⟨env, io, F, st, R, q⟩ => ?_⟩
  refine ⟨env, io, F, st, R, hi.mo _ _ _ _ (fun ds G s1 q1 => ?_) q⟩
  intro io1 F1 H1 J t1 R1 W
  let Pv : Nat → L2.St → Hp → Prop := fun i σ' H' => ∃ env' io' F' st', Stp H1 io1 F1 H' io' F' ∧ Rel X.K σ' H' env' io' F' st' ∧ wForL G g b (kD X.K H io F D) (ds.drop i) env' st'
  refine ⟨fun i m σ' H' => m = ds.length - i ∧ i ≤ ds.length ∧ Pv i σ' H', ⟨ds.length, by omega, Nat.zero_le _, env, io1, F1, s1, Stp.refl, R.next t1 R1, by rw [List.drop_zero]; exact q1⟩, ?_⟩
  rintro i m σ2 H2 ⟨rfl, hi2, env2, io2, F2, st2, t2, R2, q2⟩
  by_cases hlt : i < ds.length
  · have hd : ds.drop i = ds[i] :: ds.drop (i + 1) := List.drop_eq_getElem_cons hlt
    rw [hd] at q2
    obtain ⟨hG, q2⟩ := q2
    refine .inr ⟨W.go i t2 R2.toRelH hG hlt, Pv (i + 1), fun σ' H' p => ⟨ds.length - (i + 1), by omega, rfl, hlt, p⟩, fun x H3 y => ?_⟩
    obtain ⟨F3, d, t3, R3, e3, n3⟩ := W.yld i x H3 t2 R2.toRelH hG hlt y
    have ed : d = ds[i] := by rw [List.getElem?_eq_getElem hlt] at e3; exact (Option.some.inj e3).symm
    subst ed
    refine ⟨_, env2, io2, F3, st2, R2.next t3 R3, n3, hg.mo _ _ _ _ _ (fun e4 s4 q4 => ?_) q2⟩
    intro σ4 io4 F4 H4 t4 R4
    refine ⟨e4, io4, F4, s4, R4, hb.mo _ _ _ _ ?_ q4⟩
    have tt := (t2.trans t3).trans t4
    refine ⟨fun e5 s5 q5 => ?_, fun d5 s5 q5 => ?_, fun e5 s5 q5 => ?_, fun e5 s5 q5 => ?_⟩
    · exact fun σ5 io5 F5 H5 t5 R5 => ⟨e5, io5, F5, s5, tt.trans t5, R5, q5⟩
    · exact kE_later (t1.trans tt) q5
    · exact kN_later (t1.trans tt) q5
    · exact fun σ5 io5 F5 H5 t5 R5 => ⟨e5, io5, F5, s5, tt.trans t5, R5, q5⟩
  · have e : i = ds.length := by omega
    subst e
    rw [List.drop_length] at q2
    obtain ⟨hG, q2⟩ := q2
    exact .inl ⟨W.stop t2 R2.toRelH hG, q2 _ _ _ _ (t1.trans t2) R2⟩
def wWhile (c : DT) (b : DS) : DS := fun D env st => ∃ I : Nat → En → Sto → Prop, (∃ m, I m env st) ∧ ∀ m env st, I m env st → c env st fun k s => if k = true then b { nx := fun e s => ∃ m', m' < m ∧ I m' e s, rt := D.rt, bk := D.nx, ct := fun e s => ∃ m', m' < m ∧ I m' e s } env s else D.nx env s
theorem ws_while {c : Expr} {wc : DT} (hp : PassesOwn (model X.prog X.w) X.A X.env X.xe) (hc : WT X c wc) (hb : WB X body b) : WS X (.While c body [] pos) (wWhile wc b) := by
  refine ⟨fun A B e s l ⟨I, i0, q⟩ => ⟨I, i0, fun m e s hI => hc.mo _ _ _ _ (fun k s q => ?_) (q m e s hI)⟩, PS_imp (ps_while hp hc.pe hb.pe) fun D σ H ⟨env, io, F, st, R, I, ⟨m0, i0⟩, q⟩ => ?_⟩
  · cases k with
    | true => exact hb.mo { nx := fun e s => ∃ m', m' < m ∧ I m' e s, rt := A.rt, bk := A.nx, ct := fun e s => ∃ m', m' < m ∧ I m' e s } _ _ _ ⟨fun _ _ h => h, fun _ _ h => l.rt _ _ h, fun _ _ h => l.nx _ _ h, fun _ _ h => h⟩ q
    | false => exact l.nx _ _ q
  · refine ⟨fun m σ' H' => ∃ env' io' F' st', Stp H io F H' io' F' ∧ Rel X.K σ' H' env' io' F' st' ∧ I m env' st', ⟨m0, env, io, F, st, Stp.refl, R, i0⟩, ?_⟩
    rintro m σ1 H1 ⟨env1, io1, F1, st1, t1, R1, i1⟩
    refine tT_use hc.mo R1 (q m env1 st1 i1) fun k s2 io2 F2 H2 q2 t2 R2 => ?_
    cases k with
    | true =>
      rw [if_pos rfl] at q2 ⊢
      refine ⟨fun σ' H' => ∃ m', m' < m ∧ ∃ env' io' F' st', Stp H io F H' io' F' ∧ Rel X.K σ' H' env' io' F' st' ∧ I m' env' st', fun σ' H' h => h, env1, io2, F2, s2, R2, hb.mo _ _ _ _ ?_ q2⟩
      refine ⟨fun e5 s5 ⟨m', hm, q5⟩ => ?_, fun d5 s5 q5 => ?_, fun e5 s5 q5 => ?_, fun e5 s5 ⟨m', hm, q5⟩ => ?_⟩
      · exact fun σ5 io5 F5 H5 t5 R5 => ⟨m', hm, e5, io5, F5, s5, (t1.trans t2).trans t5, R5, q5⟩
      · exact kE_later (t1.trans t2) q5
      · exact kN_later (t1.trans t2) q5
      · exact fun σ5 io5 F5 H5 t5 R5 => ⟨m', hm, e5, io5, F5, s5, (t1.trans t2).trans t5, R5, q5⟩
    | false =>
      rw [if_neg Bool.false_ne_true] at q2 ⊢
      exact q2 _ _ _ _ (t1.trans t2) R2
end
def wipeE (env : En) : List Nat → En
  | [] => env
  | v :: vs => (wipeE env vs).set v none
theorem wipe_rel {K : PySem.W.Frag} {σ : L2.St} {H : Hp} {env : En} {io : List Addr} {F : Hp} {st : Sto} (R : Rel K σ H env io F st) : ∀ vs : List Nat, Rel K (wipe σ vs) H (wipeE env vs) io F st
  | [] => R
  | v :: vs => by
    have ih := wipe_rel R vs
    refine { ih.toRelH with sl := ?_, bs := ih.bs, slot := fun j d e => ?_ }
    · show ((wipe σ vs).set v none).length = ((wipeE env vs).set v none).length
      rw [List.length_set, List.length_set]; exact ih.sl
    · replace e : ((wipeE env vs).set v none)[j]? = some (some d) := e
      show ∃ x, ((wipe σ vs).set v none)[j]? = some (some x) ∧ _
      by_cases hj : v = j
      · subst hj
        by_cases hl : v < (wipeE env vs).length
        · rw [List.getElem?_set_self hl] at e; cases e
        · rw [List.getElem?_eq_none (by rw [List.length_set]; omega)] at e; cases e
      · rw [List.getElem?_set_ne hj] at e ⊢
        exact ih.slot j d e
/-- targets in a comprehension: plain slots -/
inductive Tg where
  | nm (i : Nat) | tp (is : List Nat)
def Tg.dg : Tg → DG
  | .nm i => gNm i
  | .tp is => gTp is.length (is.foldr (fun i r => gCn (gNm i) r) gNl)
def Tg.tg (K : PySem.W.Frag) : Tg → TG
  | .nm i => gName i
  | .tp is => gTup K is.length (is.foldr (fun i r => gCons (gName i) r) gNil)
def Tg.ix : Tg → List Nat
  | .nm i => [i]
  | .tp is => is
theorem wipe_set {σ : L2.St} {x : Option V} {i : Nat} : ∀ {vs : List Nat}, i ∈ vs → wipe (σ.set i x) vs = wipe σ vs
  | v :: vs, h => by
    unfold wipe
    by_cases e : i ∈ vs
    · rw [wipe_set e]
    · have ev : i = v := by rcases List.mem_cons.mp h with z | z; exact z; exact absurd z e
      subst ev
      have : ∀ (vs : List Nat) (σ : L2.St), i ∉ vs → wipe (σ.set i x) vs = (wipe σ vs).set i x := fun vs => by
        induction vs with
        | nil => intro σ _; rfl
        | cons w ws ih =>
          intro σ hn
          unfold wipe
          have h1 : w ≠ i := fun z => hn (by rw [z]; exact List.mem_cons_self)
          rw [ih σ (fun z => hn (List.mem_cons_of_mem _ z)), List.set_comm _ _ h1.symm]
      rw [this vs σ e, List.set_set]
/-- running a target: the slots besides stay -/
theorem Tg.run {K : PySem.W.Frag} {H : Hp} {io : List Addr} {F : Hp} {st : Sto} {vs : List Nat} : ∀ (t : Tg) (hv : ∀ i ∈ t.ix, i ∈ vs) {σ : L2.St} {env : En} {v : V} {d : D} {Q : L2.St → Hp → Prop} {P : En → Sto → Prop}, Rel K σ H env io F st → Den K io F v d → t.dg d env st P →
    (∀ σ' env', P env' st → Rel K σ' H env' io F st → wipe σ' vs = wipe σ vs → Q σ' H) → t.tg K v σ H Q
  | .nm i, hv, σ, env, v, d, Q, P, R, n, q, k => k _ _ q (R.set n) (wipe_set (hv i (by simp [Tg.ix])))
  | .tp is, hv, σ, env, v, d, Q, P, R, n, q, k => by
    obtain ⟨ds, e, z, q⟩ := q
    subst e
    cases n with
    | @tup a xs _ s r _ =>
      refine ⟨a, xs, rfl, SqT_mono R.sub s.t, by rw [r.length]; exact z, ?_⟩
      clear s z
      replace hv : ∀ i ∈ is, i ∈ vs := hv
      suffices ∀ (is : List Nat) (hv : ∀ i ∈ is, i ∈ vs) (xs : List V) (ds : List D) (σ' : L2.St) (env' : En), Rel K σ' H env' io F st → wipe σ' vs = wipe σ vs → DenL K io F xs ds →
          is.foldr (fun i r => gCn (gNm i) r) gNl ds env' st P → is.foldr (fun i r => gCons (gName i) r) gNil xs σ' H Q from this is hv xs ds σ env R rfl r q
      intro is
      induction is with
      | nil =>
        intro hv xs ds σ' env' R' w' r' q'
        obtain ⟨e, q'⟩ := q'
        subst e
        cases r'
        exact ⟨rfl, k _ _ q' R' w'⟩
      | cons i is ih =>
        intro hv xs ds σ' env' R' w' r' q'
        obtain ⟨d1, ds', e, q'⟩ := q'
        subst e
        cases r' with
        | @cons v1 vs1 _ _ n1 n2 =>
          exact ⟨v1, vs1, rfl, ih (fun j hj => hv j (List.mem_cons_of_mem _ hj)) vs1 ds' _ _ (R'.set n1) ((wipe_set (hv i List.mem_cons_self)).trans w') n2 q'⟩
theorem moFold {Q Q' : En → Sto → Prop} (h : ∀ e s, Q e s → Q' e s) {s : Sto} : ∀ (is : List Nat) (ds : List D) (e : En), is.foldr (fun i r => gCn (gNm i) r) gNl ds e s Q → is.foldr (fun i r => gCn (gNm i) r) gNl ds e s Q'
  | [], _, _, ⟨a, q⟩ => ⟨a, h _ _ q⟩
  | i :: is, _, _, ⟨d1, ds', e2, q⟩ => ⟨d1, ds', e2, moFold h is _ _ q⟩
theorem Tg.mo : ∀ t : Tg, MoG t.dg
  | .nm i => fun _ _ _ _ _ h q => h _ _ q
  | .tp is => fun d e s Q Q' h ⟨ds, e1, z, q⟩ => ⟨ds, e1, z, moFold h is ds e q⟩
def wCompL (G : Sto → Prop) (t : Tg) (c : DT) (w : DE) (env : En) : List D → Sto → List D → LK → Prop
  | [], st, acc, Q => G st ∧ Q acc st
  | d :: r, st, acc, Q => G st ∧ t.dg d env st fun e s => c e s fun k s1 => if k = true then w e s1 fun x s2 => wCompL G t c w env r s2 (acc ++ [x]) Q else wCompL G t c w env r s1 acc Q
def wComp (m : Bool) (wi : DI) (t : Tg) (c : DT) (w : DE) (vs : List Nat) : DE := fun env st Q => wi env st fun ds G s => ds.length ≤ sizeLine ∧ wCompL G t c w (wipeE env vs) ds s [] fun acc s' => newL m acc s' Q
theorem moCompL {G : Sto → Prop} {t : Tg} {c : DT} {w : DE} (mc : MoT c) (mw : MoE w) {Q Q' : LK} (h : ∀ d s, Q d s → Q' d s) {env : En} : ∀ (ds : List D) (st : Sto) (acc : List D), wCompL G t c w env ds st acc Q → wCompL G t c w env ds st acc Q'
  | [], _, _, ⟨g, q⟩ => ⟨g, h _ _ q⟩
  | d :: r, st, acc, ⟨g, q⟩ => ⟨g, t.mo _ _ _ _ _ (fun e s q => mc _ _ _ _ (fun k s1 q => by
    cases k with
    | true => exact mw _ _ _ _ (fun x s2 q => moCompL mc mw h r s2 _ q) q
    | false => exact moCompL mc mw h r s1 acc q) q) q⟩
def wYes : DT := fun _ st Q => Q true st
/-- a clause's tests -/
structure WTs (X : Cx) (ifs : List Expr) (w : DT) : Prop where
  mo : MoT w
  pe : PTs X ifs (tT X.K w)
theorem PTs_imp {X : Cx} {e : List Expr} {t t' : TT} (h : PTs X e t) (i : ∀ σ H Q, t' σ H Q → t σ H Q) : PTs X e t' := ⟨fun p s σ H Q I q => h.run p s σ H Q I (i σ H Q q)⟩
theorem wts_nil {X : Cx} : WTs X [] wYes := ⟨fun _ _ _ _ h q => h _ _ q, PTs_imp pts_nil fun σ H Q ⟨env, io, F, st, R, q⟩ => q io F H Stp.refl R.toRelH⟩
theorem wts_one {X : Cx} {c : Expr} {w : DT} (h : WT X c w) : WTs X [c] w := ⟨h.mo, pts_one h.pe⟩
/-- the reading of a comprehension -/
theorem tLc_of {K : PySem.W.Frag} {wi : DI} {t : Tg} {c : DT} {w : DE} {vs : List Nat} {m : Bool} {Q : VK} {σ : L2.St} {H : Hp} (mi : MoI wi) (mc : MoT c) (mw : MoE w) (hv : ∀ i ∈ t.ix, i ∈ vs) (h : tE K (wComp m wi t c w vs) σ H Q) :
    tLc (tI K wi) (t.tg K) (tT K c) (tE K w) vs σ H Q := by
  obtain ⟨env, io, F, st, R, q⟩ := h
  refine ⟨env, io, F, st, R, mi _ _ _ _ (fun ds G s1 ⟨hz, q1⟩ => ?_) q⟩
  intro io1 F1 H1 J t1 R1 W Dl hD
  have R1' : Rel K σ H1 env io1 F1 s1 := R.next t1 R1
  have hio := R1.notIo hD
  have hF := R1.notF hD
  have hHD : H Dl = none := t1.none_of hD
  let Pv : Nat → Hp → Prop := fun i H' => ∃ io' F' st' acc vs', Stp H1 io1 F1 H' io' F' ∧ RelH K H' io' F' st' ∧ H' Dl = some (.lst vs') ∧ F' Dl = none ∧ Dl ∉ io' ∧ DenL K io' F' vs' acc ∧ acc.length ≤ i ∧
    wCompL G t c w (wipeE env vs) (ds.drop i) st' acc (fun acc s' => newL m acc s' (kE K H io F Q))
  refine ⟨fun i k H' => k = ds.length - i ∧ i ≤ ds.length ∧ Pv i H', ⟨ds.length, by omega, Nat.zero_le _, io1, F1, s1, [], [], Stp.refl.own hD, R1.aside hD, upd_same, hF, hio, .nil, Nat.le_refl _, by rw [List.drop_zero]; exact q1⟩, ?_⟩
  rintro i k H2 ⟨rfl, hi2, io2, F2, st2, acc, vs2, t2, R2, e2, f2, o2, n2, l2, q2⟩
  by_cases hlt : i < ds.length
  · have hd : ds.drop i = ds[i] :: ds.drop (i + 1) := List.drop_eq_getElem_cons hlt
    rw [hd] at q2
    obtain ⟨hG, q2⟩ := q2
    refine .inr ⟨W.go i t2 R2 hG hlt, Pv (i + 1), fun H' p => ⟨ds.length - (i + 1), by omega, rfl, hlt, p⟩, fun x H3 y => ?_⟩
    obtain ⟨F3, d, t3, R3, e3, n3⟩ := W.yld i x H3 t2 R2 hG hlt y
    have ed : d = ds[i] := by rw [List.getElem?_eq_getElem hlt] at e3; exact (Option.some.inj e3).symm
    subst ed
    have Rs : Rel K (wipe σ vs) H3 (wipeE env vs) io2 F3 st2 := wipe_rel (R1'.next (t2.trans t3) R3) vs
    refine t.run hv Rs n3 q2 fun σ4 env4 q4 R4 w4 => ⟨?_, ?_⟩
    · rw [w4]
      have : ∀ (vs ws : List Nat), (∀ i ∈ vs, i ∈ ws) → wipe (wipe σ ws) vs = wipe σ ws := fun vs ws => by
        induction vs with
        | nil => intro _; rfl
        | cons v vs ih =>
          intro hh
          show (wipe (wipe σ ws) vs).set v none = _
          rw [ih fun i hi => hh i (List.mem_cons_of_mem _ hi)]
          have hv' := hh v List.mem_cons_self
          clear ih hh
          induction ws with
          | nil => cases hv'
          | cons u us ih2 =>
            show ((wipe σ us).set u none).set v none = (wipe σ us).set u none
            by_cases e : v = u
            · subst e; rw [List.set_set]
            · rcases List.mem_cons.mp hv' with z | z
              · exact absurd z e
              · rw [List.set_comm _ _ (Ne.symm e), ih2 z]
      exact this vs vs fun _ h => h
    refine tT_use mc R4 q4 fun b s5 io5 F5 H5 q5 t5 R5 => ?_
    have b5 := (t3.trans t5).beside e2 (fun _ z => nomatch z) f2 o2
    cases b with
    | true =>
      rw [if_pos rfl] at q5 ⊢
      refine tE_use mw R5 q5 fun d6 s6 v6 io6 F6 H6 q6 t6 R6 n6 => ?_
      have b6 := ((t3.trans t5).trans t6).beside e2 (fun _ z => nomatch z) f2 o2
      have lz : acc.length < sizeLine := by omega
      refine ⟨vs2, b6.1, by rw [n2.length]; exact lz, io6, F6, s6, acc ++ [d6], vs2 ++ [v6], (((t2.trans t3).trans t5).trans t6).own hD, R6.toRelH.side b6.1 (fun _ z => nomatch z) b6.2.1 b6.2.2, upd_same, b6.2.1, b6.2.2,
        ((((t3.trans t5).trans t6).denL n2).append (.cons n6 .nil)), by rw [List.length_append, List.length_singleton]; omega, q6⟩
    | false =>
      rw [if_neg Bool.false_ne_true] at q5 ⊢
      exact ⟨io5, F5, s5, acc, vs2, ((t2.trans t3).trans t5), R5.toRelH, b5.1, b5.2.1, b5.2.2, (t3.trans t5).denL n2, by omega, q5⟩
  · have e : i = ds.length := by omega
    subst e
    rw [List.drop_length] at q2
    obtain ⟨hG, q2⟩ := q2
    refine .inl ⟨W.stop t2 R2 hG, ?_⟩
    have lz : acc.length ≤ sizeLine := by omega
    cases m with
    | true =>
      have s : Stp H2 io2 F2 H2 (io2 ++ [Dl]) F2 → True := fun _ => trivial
      have ix : ∀ (n : Nat) a, io2[n]? = some a → (io2 ++ [Dl])[n]? = some a := fun n a h => by
        rw [List.getElem?_append_left (List.getElem?_eq_some_iff.mp h).1]; exact h
      exact kE_at (show kE K H io F Q (.ref st2.length) (st2 ++ [.lst acc]) from q2) ((t1.trans t2).cell hHD) (R2.adopt ⟨_, e2, fun _ z => nomatch z⟩ o2 ⟨f2, lz, vs2, e2, n2.mono ix fun _ _ h => h⟩) R2.newRef
    | false =>
      have fr : ∀ a u, F2 a = some u → upd F2 Dl (.lst vs2) a = some u := fun a u e => by
        rw [upd_ne (fun z => by subst z; rw [f2] at e; cases e)]; exact e
      exact kE_at (show kE K H io F Q (.lst acc) st2 from q2) ((t1.trans t2).frz hHD f2) (R2.frz e2 (fun _ z => nomatch z) f2 o2) (.lst upd_same (n2.mono (fun _ _ h => h) fr) lz)
end DL
namespace DL
open PySem PySem.Spec PyProof.Rows L2
variable [Bs]
theorem meets_enum_new1 {v : Value} {o : Obj} {H : Heap → Prop} (B : Begins v o H) :
    Meets (Builtin.«enumerate.__new__» ⟨[.type "enumerate", v], []⟩) (fun _ R s => H s.heap ∧
      R (.ok (.ret (.ref (s.heap.push o).objs.size))) { s with heap := (s.heap.push o).push { cls := .type "enumerate", data := .fields #[.none, .bool false, .ref s.heap.objs.size, rawInt 0, .none, .none] } }) :=
  .of_wp fun prog w A R s h => by
    obtain ⟨hp, g, d, tk, os⟩ := s; obtain ⟨h1, h⟩ := h
    have hsub := sub_enumerate
    have q1 : ∀ {A' : Around} {E : Value → Shared → Prop} {Q : Value → Shared → Prop}, Q (.ref hp.objs.size) ⟨hp.push o, g, d, tk, os⟩ → wpAny (model prog w) A' (pyIter v) Q E ⟨hp, g, d, tk, os⟩ :=
      fun q => B.iter prog w _ _ ⟨hp, g, d, tk, os⟩ _ h1 q
    wp_walk using q1
    refine wpAny_stack_any fun st => wpAny_pure ?_
    split
    · rename_i c _ _ _ _ _
      cases (c == Value.type "enumerate")
      · wp_walk using q1
        exact ⟨_, rfl, h⟩
      · wp_walk using q1
        exact ⟨_, rfl, h⟩
    · wp_walk using q1
      exact ⟨_, rfl, h⟩
theorem call_enum_begins {prog : Program} {w : World} {A : Around} {E : Value → Shared → Prop} {s : Shared} {v : Value} {o : Obj} {H : Heap → Prop} {Q : Value → Shared → Prop} (B : Begins v o H) (h1 : H s.heap)
    (h : ∀ h', IsEnum h' (s.heap.objs.size + 1) s.heap.objs.size 0 .none → h'.get? s.heap.objs.size = some o → h'.objs.size = s.heap.objs.size + 2 →
      (∀ b o, s.heap.get? b = some o → h'.get? b = some o) → Q (.ref (s.heap.objs.size + 1)) { s with heap := h' }) :
    wpAny (model prog w) A (call (.type "enumerate") [v]) Q E s := by
  refine callType_new F.called_enumerate (by decide) (F.typeCall_enumerate_1 _) (F.newCall_enumerate_1 _) (fun obj => F.args_object_init_2 obj _) F.entry_enumerate_new (meets_enum_new1 B) ⟨h1, ?_⟩
  have hz : (s.heap.push o).objs.size = s.heap.objs.size + 1 := Heap.size_push ..
  show _ ∧ _
  rw [hz]
  have he : IsEnum ((s.heap.push o).push { cls := .type "enumerate", data := .fields #[.none, .bool false, .ref s.heap.objs.size, rawInt 0, .none, .none] }) (s.heap.objs.size + 1) s.heap.objs.size 0 .none := by
    have := Heap.get?_push_size (s.heap.push o) (o := { cls := .type "enumerate", data := .fields #[.none, .bool false, .ref s.heap.objs.size, rawInt 0, .none, .none] }) rfl
    rw [hz] at this; exact this
  refine ⟨⟨_, he, rfl⟩, h _ he (Heap.get?_push_of_some _ (Heap.get?_push_size _ B.free)) (by rw [Heap.size_push, hz]) fun b o x => Heap.get?_push_of_some _ (Heap.get?_push_of_some _ x)⟩
theorem pi_enumX {X : Cx} {e : Expr} {ta : TA} {p pos tpos : Pos} {elts : List Expr} {kk : Nat} (hg : Gl X "enumerate") (hm : X.mg "enumerate" = none) (ha : PA X [e] ta) (hs : starEach [e] X.env = [(false, eval e X.env)] := by rfl) :
    PI X (.Tuple elts kk tpos) (.Call (.Name "enumerate" p) [e] [] pos) (fun σ H R => ta σ H fun vs H1 => ∃ a xs, vs = [.ref a] ∧ ((SqL X.K H1 a xs ∧ R (IteX (SqL X.K) a) H1) ∨ (SqT X.K H1 a xs ∧ R (IteX (SqT X.K) a) H1))) := by
  refine ⟨fun pins s σ H R I h => Call_ (ld_blt I hg hm boot_enumerate (PyProof.Rows.callWith_type1 (thn (ha.run pos pins s σ H _ I h) fun us s1 ⟨vs, H1, I1, r1, q1⟩ => ?_) hs rfl))⟩
  obtain ⟨a, xs, rfl, q1⟩ := q1
  obtain ⟨u, rfl, ru⟩ := vals1 r1
  cases ru
  have fr : ∀ k, FpOk X pins H1 (s1.heap.objs.size + k) := fun k => I1.fpOk (Nat.le_add_right _ _) (I1.hok.fresh (Nat.le_add_right _ _))
  have f2 : ∀ b ∈ [s1.heap.objs.size + 1, s1.heap.objs.size], FpOk X pins H1 b := List.forall_mem_cons.mpr ⟨fr 1, List.forall_mem_cons.mpr ⟨fr 0, fun _ h => nomatch h⟩⟩
  rcases q1 with ⟨hq, q⟩ | ⟨hq, q⟩
  · obtain ⟨its, rv, p', hz⟩ := I1.list hq
    have hlt := p'.lt
    exact call_enumerate_list p'.isList fun h' he hit hsz hk => wpAny_pyIter_enum he ⟨s1.heap.objs.size + 1, [s1.heap.objs.size + 1, s1.heap.objs.size], _, _, H1, rfl, I1.kept (t' := s1.toks) hk, turn_enumX (srcL X.K) a (s1.heap.objs.size + 1) s1.heap.objs.size, ⟨⟨.none, he⟩, hit, Nat.succ_ne_self _, Nat.ne_of_lt hlt, Nat.ne_of_gt (Nat.lt_succ_of_lt hlt)⟩, f2, q⟩
  · obtain ⟨its, rv, p', hz⟩ := I1.tuple hq
    have hlt := p'.lt
    exact call_enum_begins (begins_tuple a its.toArray) (show s1.heap.IsTuple a its.toArray from p') fun h' he hit hsz hk => wpAny_pyIter_enum he ⟨s1.heap.objs.size + 1, [s1.heap.objs.size + 1, s1.heap.objs.size], _, _, H1, rfl, I1.kept (t' := s1.toks) hk, turn_enumX (srcT X.K) a (s1.heap.objs.size + 1) s1.heap.objs.size, ⟨⟨.none, he⟩, ⟨_, hit, rfl, rfl⟩, Nat.succ_ne_self _, Nat.ne_of_lt hlt, Nat.ne_of_gt (Nat.lt_succ_of_lt hlt)⟩, f2, q⟩
theorem pi_seq {X : Cx} {tg l : Expr} {tl : TE} (hl : PE X l tl) : PI X tg l (fun σ H R => tl σ H fun x H1 => (∃ a xs, x = .ref a ∧ ((SqL X.K H1 a xs ∧ R (Itl X.K a) H1) ∨ (SqT X.K H1 a xs ∧ R (Itt X.K a) H1))) ∨ ∃ z, x = .str z ∧ R (Its z) H1) := by
  refine ⟨fun pins s σ H R I h => ?_⟩
  have h1 : ∀ {t : TE}, (∀ σ H Q, t σ H Q → tl σ H Q) → PE X l t := fun i => PE_imp hl i
  refine thn (hl.run pins s σ H _ I h) fun v s1 ⟨x, H1, I1, r1, q1⟩ => ?_
  rcases q1 with ⟨a, xs, e, q⟩ | ⟨z, e, q⟩
  · subst e
    cases r1
    rcases q with ⟨hq, q⟩ | ⟨hq, q⟩
    · obtain ⟨its, rv, p, hz⟩ := I1.list hq
      refine wpAny_pyIter_list p.isList ?_
      refine ⟨s1.heap.objs.size, [s1.heap.objs.size], _, _, H1, rfl, I1.kept (t' := s1.toks) fun b o e => Heap.get?_push_of_some _ e, turn_list a _, ⟨_, Heap.get?_push_size _ rfl, rfl, rfl⟩, fun b hb => ?_, q⟩
      have e : b = s1.heap.objs.size := by simpa using hb
      subst e
      exact I1.fpOk (Nat.le_refl _) (I1.hok.fresh (Nat.le_refl _))
    · obtain ⟨its, rv, p, hz⟩ := I1.tuple hq
      refine wpAny_pyIter_tuple (show s1.heap.IsTuple a its.toArray from p) ?_
      refine ⟨s1.heap.objs.size, [s1.heap.objs.size], _, _, H1, rfl, I1.kept (t' := s1.toks) fun b o e => Heap.get?_push_of_some _ e, turn_tuple a _, ⟨_, Heap.get?_push_size _ rfl, rfl, rfl⟩, fun b hb => ?_, q⟩
      have e : b = s1.heap.objs.size := by simpa using hb
      subst e
      exact I1.fpOk (Nat.le_refl _) (I1.hok.fresh (Nat.le_refl _))
  · subst e
    obtain ⟨t, rfl⟩ := r1
    cases ha : z.cps.all (· < 128)
    · exact wpAny_pyIter_wide ha (pi_one (tk := s1.toks) I1 _ (turn_str _ z t "str_iterator" (.inr rfl)) ⟨_, Heap.get?_push_size _ rfl, rfl, rfl⟩ q)
    · exact wpAny_pyIter_ascii ha (pi_one (tk := s1.toks) I1 _ (turn_str _ z t "str_ascii_iterator" (.inl rfl)) ⟨_, Heap.get?_push_size _ rfl, rfl, rfl⟩ q)
end DL
namespace DL
open PySem PySem.Spec PyProof.Rows L2
variable [Bs]
/-- a cell's list as a list -/
def rd (st : Sto) : D → D
  | .ref n => match st[n]? with
    | some (.lst ds) => .lst ds
    | _ => .ref n
  | d => d
section
variable {K : PySem.W.Frag} {io : List Addr} {F H : Hp} {st : Sto} {v : V} {d : D} {ds : List D}
/-- what stands behind a value read as a list -/
theorem rd_lst (R : RelH K H io F st) (n : Den K io F v d) (e : rd st d = .lst ds) : ∃ a xs, v = .ref a ∧ H a = some (.lst xs) ∧ DenL K io F xs ds ∧ ds.length ≤ sizeLine := by
  cases d with
  | lst es =>
    cases e
    cases n with
    | lst h r z => exact ⟨_, _, rfl, R.sub _ _ h, r, z⟩
  | ref k =>
    cases n with
    | ref h =>
      unfold rd at e
      cases q : st[k]? with
      | none => simp [q] at e
      | some c =>
        cases c with
        | lst es =>
          simp [q] at e
          subst e
          obtain ⟨h1, h2, vs, h3, h4⟩ := R.cel _ _ _ q h
          exact ⟨_, _, rfl, h3, h4, h2⟩
        | dead => simp [q] at e
        | ins C fs => simp [q] at e
        | dct b kvs => simp [q] at e
  | non => cases e
  | bl b => cases e
  | int i => cases e
  | str s => cases e
  | tup es => cases e
  | scr es => cases e
  | dct es => cases e
  | fn _ _ _ => cases e
  | exc => cases e
theorem rd_not (e : ∀ ds, rd st d ≠ .lst ds) (e2 : ∀ n, rd st d ≠ .ref n) : rd st d = d := by
  cases d with
  | ref n =>
    unfold rd at e e2 ⊢
    cases q : st[n]? with
    | none => simp [q] at e2
    | some c => cases c <;> simp [q] at e e2
  | _ => rfl
end
/-- what may be walked: with what must stay -/
def seqI (d : D) (s : Sto) (R : GK) : Prop :=
  match d with
  | .tup ds => R ds (fun _ => True) s
  | .lst ds => R ds (fun _ => True) s
  | .scr ds => R ds (fun _ => True) s
  | .str z => R (z.cps.toList.map fun c => .str ⟨#[c]⟩) (fun _ => True) s
  | .ref n => ∃ ds, s[n]? = some (.lst ds) ∧ R ds (fun s' => s'[n]? = some (.lst ds)) s
  | _ => False
theorem seqI_mo {d : D} {s : Sto} {R R' : GK} (h : ∀ ds G s, R ds G s → R' ds G s) (q : seqI d s R) : seqI d s R' := by
  cases d with
  | ref n => obtain ⟨ds, e, q⟩ := q; exact ⟨ds, e, h _ _ _ q⟩
  | tup _ => exact h _ _ _ q
  | lst _ => exact h _ _ _ q
  | scr _ => exact h _ _ _ q
  | str _ => exact h _ _ _ q
  | non => exact q
  | bl _ => exact q
  | int _ => exact q
  | dct _ => exact q
  | fn _ _ _ => exact q
  | exc => exact q
def iSeq (we : DE) : DI := fun env st R => we env st fun d s => seqI d s R
section
variable {K : PySem.W.Frag} {io : List Addr} {F H : Hp} {a : Addr} {xs : List V} {ds : List D}
theorem walkD_list {G : Sto → Prop} (r : DenL K io F xs ds) (h : ∀ {H2 io2 F2 st2}, Stp H io F H2 io2 F2 → RelH K H2 io2 F2 st2 → G st2 → ∃ ys, SqL K H2 a ys ∧ DenL K io2 F2 ys ds) : WalkD K (Itl K a) H io F ds G where
  go := fun i t R g hi => by
    obtain ⟨ys, s, r2⟩ := h t R g
    obtain ⟨v, e, _⟩ := r2.get (List.getElem?_eq_getElem hi)
    exact ⟨ys, v, s, e⟩
  stop := fun t R g => by
    obtain ⟨ys, s, r2⟩ := h t R g
    exact ⟨ys, s, Nat.le_of_eq r2.length⟩
  yld := fun {H2 io2 F2 st2} i x H3 t R g hi y => by
    obtain ⟨ys, s, r2⟩ := h t R g
    obtain ⟨v, e, n⟩ := r2.get (List.getElem?_eq_getElem hi)
    obtain ⟨e1, e2⟩ := y
    subst e1
    have := e2 ys s
    rw [e] at this
    cases this
    exact ⟨F2, _, Stp.refl, R, List.getElem?_eq_getElem hi, n⟩
theorem walkD_tup (s0 : SqT K F a xs) (r : DenL K io F xs ds) : WalkD K (Itt K a) H io F ds (fun _ => True) where
  go := fun i t R _ hi => by
    obtain ⟨v, e, _⟩ := (t.denL r).get (List.getElem?_eq_getElem hi)
    exact ⟨xs, v, SqT_mono R.sub (SqT_mono t.fr s0), e⟩
  stop := fun t R _ => ⟨xs, SqT_mono R.sub (SqT_mono t.fr s0), Nat.le_of_eq r.length⟩
  yld := fun {H2 io2 F2 st2} i x H3 t R _ hi y => by
    obtain ⟨v, e, n⟩ := (t.denL r).get (List.getElem?_eq_getElem hi)
    obtain ⟨e1, e2⟩ := y
    subst e1
    have := e2 xs (SqT_mono R.sub (SqT_mono t.fr s0))
    rw [e] at this
    cases this
    exact ⟨F2, _, Stp.refl, R, List.getElem?_eq_getElem hi, n⟩
theorem walkD_str {z : Str} : WalkD K (Its z) H io F (z.cps.toList.map fun c => .str ⟨#[c]⟩) (fun _ => True) where
  go := fun i t R _ hi => by
    have : i < z.cps.size := by simpa using hi
    exact this
  stop := fun t R _ => by
    have e : (z.cps.toList.map fun c => D.str ⟨#[c]⟩).length = z.cps.size := by simp
    rw [e]
    exact (walk_str (z := z)).stops _ trivial
  yld := fun {H2 io2 F2 st2} i x H3 t R _ hi y => by
    have hi' : i < z.cps.size := by simpa using hi
    obtain ⟨e1, c, e2, e3⟩ := (walk_str (z := z)).yields i H2 x H3 hi' trivial y
    subst e1
    subst e3
    refine ⟨F2, .str ⟨#[c]⟩, Stp.refl, R, ?_, .str _⟩
    simp [e2]
end
section
variable {X : Cx} {pos p : Pos} {tg e e2 : Expr} {we we2 : DE}
theorem wi_seq (he : WE X e we) : WI X tg e (iSeq we) := by
  refine ⟨fun _ _ _ _ h q => he.mo _ _ _ _ (fun _ _ q => seqI_mo h q) q, PI_imp (pi_seq he.pe) fun σ H R ⟨env, io, F, st, Rl, q⟩ => ?_⟩
  refine tE_use he.mo Rl q fun d s1 v io1 F1 H1 q1 t1 R1 n1 => ?_
  cases n1 with
  | tup s r z => exact .inl ⟨_, _, rfl, .inr ⟨SqT_mono R1.sub s.t, q1 _ _ _ _ t1 R1.toRelH (walkD_tup s.t r)⟩⟩
  | lst s r z => exact .inl ⟨_, _, rfl, .inl ⟨SqL.of (R1.sub _ _ s), q1 _ _ _ _ t1 R1.toRelH (walkD_list r fun t R _ => ⟨_, SqL.of (R.sub _ _ (t.fr _ _ s)), t.denL r⟩)⟩⟩
  | scr s r z => exact .inl ⟨_, _, rfl, .inl ⟨SqL_mono R1.sub s, q1 _ _ _ _ t1 R1.toRelH (walkD_list r fun t R _ => ⟨_, SqL_mono R.sub (SqL_mono t.fr s), t.denL r⟩)⟩⟩
  | @ref a n h =>
    obtain ⟨ds, e, q1⟩ := q1
    obtain ⟨h1, h2, vs, h3, h4⟩ := R1.cel _ _ _ e h
    refine .inl ⟨_, vs, rfl, .inl ⟨SqL.of h3, q1 _ _ _ _ t1 R1.toRelH (walkD_list h4 fun t R g => ?_)⟩⟩
    obtain ⟨_, _, ws, h5, h6⟩ := R.cel _ _ _ g (t.ix _ _ h)
    exact ⟨ws, SqL.of h5, h6⟩
  | str z => exact .inr ⟨_, rfl, q1 _ _ _ _ t1 R1.toRelH walkD_str⟩
  | non => exact q1.elim
  | bl _ => exact q1.elim
  | int _ => exact q1.elim
  | dct _ => exact q1.elim
  | fn _ _ => exact q1.elim
  | exc => exact q1.elim
def rangeD (lo : Int) (n : Nat) : List D := (List.range n).map fun (i : Nat) => .int (lo + i)
theorem walkD_range {K : PySem.W.Frag} {io : List Addr} {F H : Hp} {lo : Int} {n : Nat} : WalkD K (Itr lo n) H io F (rangeD lo n) (fun _ => True) where
  go := fun i t R _ hi => by show i < n; simpa [rangeD] using hi
  stop := fun t R _ => by show n ≤ (rangeD lo n).length; simp [rangeD]
  yld := fun {H2 io2 F2 st2} i x H3 t R _ hi y => by
    obtain ⟨e1, e2⟩ := y
    subst e1
    subst e2
    have hi' : i < n := by simpa [rangeD] using hi
    exact ⟨F2, .int (lo + i), Stp.refl, R, by simp [rangeD, hi'], .int _⟩
def iRange1 (wa : DA) : DI := fun env st R => wa env st fun ds s => ∃ j, ds = [.int j] ∧ -(2 ^ 62) ≤ j ∧ j < 2 ^ 62 ∧ R (rangeD 0 j.toNat) (fun _ => True) s
def iRange2 (wa : DA) : DI := fun env st R => wa env st fun ds s => ∃ i j, ds = [.int i, .int j] ∧ (-(2 ^ 62) ≤ i ∧ i < 2 ^ 62 ∧ -(2 ^ 62) ≤ j ∧ j < 2 ^ 62) ∧ R (rangeD i (j - i).toNat) (fun _ => True) s
theorem wi_range1 {wa : DA} (hg : Gl X "range") (hm : X.mg "range" = none) (ha : WA X [e] wa) (hs : starEach [e] X.env = [(false, eval e X.env)] := by rfl) : WI X tg (.Call (.Name "range" p) [e] [] pos) (iRange1 wa) := by
  refine ⟨fun _ _ _ _ h q => ha.mo _ _ _ _ (fun _ _ ⟨j, e, h1, h2, q⟩ => ⟨j, e, h1, h2, h _ _ _ q⟩) q, PI_imp (pi_range1 hg hm ha.pe hs) fun σ H R ⟨env, io, F, st, Rl, q⟩ => ?_⟩
  refine tA_use ha.mo Rl q fun ds s1 vs io1 F1 H1 ⟨j, ed, h1, h2, q1⟩ t1 R1 n1 => ?_
  subst ed
  cases n1 with
  | cons n1 n2 =>
    cases n1
    cases n2
    exact ⟨j, rfl, h1, h2, q1 _ _ _ _ t1 R1.toRelH walkD_range⟩
def enumD (ds : List D) : List D := ds.zipIdx.map fun p => .tup [.int (p.2 : Nat), p.1]
def zipD (ds es : List D) : List D := List.zipWith (fun x y => .tup [x, y]) ds es
theorem lay_pair {K : PySem.W.Frag} {io : List Addr} {F H : Hp} {st : Sto} {T : Addr} {o : Obj} {x y : V} {d e : D} (R : RelH K H io F st) (hT : H T = none) (ho : o.dict = none) (n1 : Den K io F x d) (n2 : Den K io F y e) :
    ∃ F3, Stp H io F (upd H T (.frz o (.tup [x, y]))) io F3 ∧ RelH K (upd H T (.frz o (.tup [x, y]))) io F3 st ∧ Den K io F3 (.ref T) (.tup [d, e]) :=
  ⟨upd F T (.frz o (.tup [x, y])), Stp.laid hT R.sub, R.laid hT, .tup (.inl ⟨o, upd_same, ho⟩) ((Stp.laid hT R.sub).denL (.cons n1 (.cons n2 .nil))) (by show 2 ≤ sizeLine; decide)⟩
theorem enumD_len (ds : List D) : (enumD ds).length = ds.length := by simp [enumD]
theorem enumD_at (ds : List D) (i : Nat) (hi : i < ds.length) : (enumD ds)[i]? = some (.tup [.int (i : Nat), ds[i]]) := by simp [enumD, hi]
section
variable {K : PySem.W.Frag} {io : List Addr} {F H : Hp} {a : Addr} {xs : List V} {ds : List D}
theorem walkD_enumL {G : Sto → Prop} (r : DenL K io F xs ds) (h : ∀ {H2 io2 F2 st2}, Stp H io F H2 io2 F2 → RelH K H2 io2 F2 st2 → G st2 → ∃ ys, SqL K H2 a ys ∧ DenL K io2 F2 ys ds) : WalkD K (IteX (SqL K) a) H io F (enumD ds) G where
  go := fun i t R g hi => by
    rw [enumD_len] at hi
    obtain ⟨ys, s, r2⟩ := h t R g
    obtain ⟨v, e, _⟩ := r2.get (List.getElem?_eq_getElem hi)
    exact ⟨ys, v, s, e⟩
  stop := fun t R g => by
    rw [enumD_len]
    obtain ⟨ys, s, r2⟩ := h t R g
    exact ⟨ys, s, r2.length⟩
  yld := fun {H2 io2 F2 st2} i x H3 t R g hi y => by
    rw [enumD_len] at hi
    obtain ⟨ys, s, r2⟩ := h t R g
    obtain ⟨v, e, n⟩ := r2.get (List.getElem?_eq_getElem hi)
    obtain ⟨T, u, o, e1, hT, ho, e2, hu⟩ := y
    subst e1
    subst e2
    have := hu ys s
    rw [e] at this
    cases this
    obtain ⟨F3, s3, R3, n3⟩ := lay_pair R hT ho (.int (i : Nat)) n
    exact ⟨F3, _, s3, R3, enumD_at ds i hi, n3⟩
theorem walkD_enumT (s0 : SqT K F a xs) (r : DenL K io F xs ds) : WalkD K (IteX (SqT K) a) H io F (enumD ds) (fun _ => True) where
  go := fun i t R _ hi => by
    rw [enumD_len] at hi
    obtain ⟨v, e, _⟩ := (t.denL r).get (List.getElem?_eq_getElem hi)
    exact ⟨xs, v, SqT_mono R.sub (SqT_mono t.fr s0), e⟩
  stop := fun t R _ => by rw [enumD_len]; exact ⟨xs, SqT_mono R.sub (SqT_mono t.fr s0), r.length⟩
  yld := fun {H2 io2 F2 st2} i x H3 t R _ hi y => by
    rw [enumD_len] at hi
    obtain ⟨v, e, n⟩ := (t.denL r).get (List.getElem?_eq_getElem hi)
    obtain ⟨T, u, o, e1, hT, ho, e2, hu⟩ := y
    subst e1
    subst e2
    have := hu xs (SqT_mono R.sub (SqT_mono t.fr s0))
    rw [e] at this
    cases this
    obtain ⟨F3, s3, R3, n3⟩ := lay_pair R hT ho (.int (i : Nat)) n
    exact ⟨F3, _, s3, R3, enumD_at ds i hi, n3⟩
end
/-- a sequence, no text -/
def seqJ (d : D) (s : Sto) (R : GK) : Prop :=
  match d with
  | .str _ => False
  | d => seqI d s R
theorem seqJ_mo {d : D} {s : Sto} {R R' : GK} (h : ∀ ds G s, R ds G s → R' ds G s) (q : seqJ d s R) : seqJ d s R' := by
  cases d with
  | str _ => exact q
  | ref n => exact seqI_mo (d := .ref n) h q
  | tup _ => exact h _ _ _ q
  | lst _ => exact h _ _ _ q
  | scr _ => exact h _ _ _ q
  | non => exact q
  | bl _ => exact q
  | int _ => exact q
  | dct _ => exact q
  | fn _ _ _ => exact q
  | exc => exact q
def iEnum (we : DE) : DI := fun env st R => we env st fun d s => seqJ d s fun ds G s => R (enumD ds) G s
theorem wi_enum {elts : List Expr} {kk : Nat} {tpos : Pos} (hg : Gl X "enumerate") (hm : X.mg "enumerate" = none) (he : WE X e we) (ha : starEach [e] X.env = (false, eval e X.env) :: starEach [] X.env := by rfl) (hs : starEach [e] X.env = [(false, eval e X.env)] := by rfl) :
    WI X (.Tuple elts kk tpos) (.Call (.Name "enumerate" p) [e] [] pos) (iEnum we) := by
  refine ⟨fun _ _ _ _ h q => he.mo _ _ _ _ (fun _ _ q => seqJ_mo (fun _ _ _ q => h _ _ _ q) q) q, PI_imp (pi_enumX hg hm (pa_cons he.pe pa_nil ha) hs) fun σ H R ⟨env, io, F, st, Rl, q⟩ => ?_⟩
  refine tE_use he.mo Rl q fun d s1 v io1 F1 H1 q1 t1 R1 n1 => ?_
  cases n1 with
  | tup s r z => exact ⟨_, _, rfl, .inr ⟨SqT_mono R1.sub s.t, q1 _ _ _ _ t1 R1.toRelH (walkD_enumT s.t r)⟩⟩
  | lst s r z => exact ⟨_, _, rfl, .inl ⟨SqL.of (R1.sub _ _ s), q1 _ _ _ _ t1 R1.toRelH (walkD_enumL r fun t R _ => ⟨_, SqL.of (R.sub _ _ (t.fr _ _ s)), t.denL r⟩)⟩⟩
  | scr s r z => exact ⟨_, _, rfl, .inl ⟨SqL_mono R1.sub s, q1 _ _ _ _ t1 R1.toRelH (walkD_enumL r fun t R _ => ⟨_, SqL_mono R.sub (SqL_mono t.fr s), t.denL r⟩)⟩⟩
  | @ref a n h =>
    obtain ⟨ds, e, q1⟩ := q1
    obtain ⟨h1, h2, vs, h3, h4⟩ := R1.cel _ _ _ e h
    refine ⟨_, vs, rfl, .inl ⟨SqL.of h3, q1 _ _ _ _ t1 R1.toRelH (walkD_enumL h4 fun t R g => ?_)⟩⟩
    obtain ⟨_, _, ws, h5, h6⟩ := R.cel _ _ _ g (t.ix _ _ h)
    exact ⟨ws, SqL.of h5, h6⟩
  | str z => exact q1.elim
  | non => exact q1.elim
  | bl _ => exact q1.elim
  | int _ => exact q1.elim
  | dct _ => exact q1.elim
  | fn => exact q1.elim
  | exc => exact q1.elim
end
end DL
namespace DL
open PySem PySem.Spec PyProof.Rows L2
variable [Bs]
section
variable {st : Sto} {d : D}
theorem rd_is {e : D} (h : rd st d = e) (h1 : ∀ ds, e ≠ .lst ds) (h2 : ∀ n, e ≠ .ref n) : d = e := by
  subst h
  exact (rd_not (fun ds q => h1 ds q) (fun n q => h2 n q)).symm
theorem rd_int {i : Int} (h : rd st d = .int i) : d = .int i := rd_is h (fun _ q => nomatch q) (fun _ q => nomatch q)
theorem rd_bl {i : Bool} (h : rd st d = .bl i) : d = .bl i := rd_is h (fun _ q => nomatch q) (fun _ q => nomatch q)
theorem rd_str {i : Str} (h : rd st d = .str i) : d = .str i := rd_is h (fun _ q => nomatch q) (fun _ q => nomatch q)
theorem rd_tup {i : List D} (h : rd st d = .tup i) : d = .tup i := rd_is h (fun _ q => nomatch q) (fun _ q => nomatch q)
theorem rd_scr {i : List D} (h : rd st d = .scr i) : d = .scr i := rd_is h (fun _ q => nomatch q) (fun _ q => nomatch q)
theorem rd_non (h : rd st d = .non) : d = .non := rd_is h (fun _ q => nomatch q) (fun _ q => nomatch q)
end
def dI (C : Int → Int → Prop) (g : Int → Int → D) : R2D := fun a b st Q => ∃ i j, a = .int i ∧ b = .int j ∧ C i j ∧ Q (g i j) st
theorem moI {C : Int → Int → Prop} {g : Int → Int → D} : MoR (dI C g) := fun _ _ _ _ _ h ⟨i, j, e1, e2, c, q⟩ => ⟨i, j, e1, e2, c, h _ _ q⟩
section
variable {K : PySem.W.Frag} {H : Hp} {io : List Addr} {F : Hp} {st : Sto} {Q : VK} {x y : V} {a b : D}
theorem kE_now {d : D} {v : V} (R : RelH K H io F st) (n : Den K io F v d) (q : kE K H io F Q d st) : Q v H := q v io F H Stp.refl R n
theorem z_I {C : Int → Int → Prop} {g : Int → Int → V} {g' : Int → Int → D} (hg : ∀ i j io F, Den K io F (g i j) (g' i j)) : Rz K (rI C g) (dI C g') where
  mo := moI
  on := fun R n1 n2 ⟨i, j, e1, e2, c, q⟩ => by
    subst e1 e2
    cases n1
    cases n2
    exact ⟨i, j, rfl, rfl, c, kE_now R (hg _ _ _ _) q⟩
theorem z_I0 {g : Int → Int → V} {g' : Int → Int → D} (hg : ∀ i j io F, Den K io F (g i j) (g' i j)) : Rz K (rI0 g) (dI (fun _ _ => True) g') where
  mo := moI
  on := fun R n1 n2 ⟨i, j, e1, e2, c, q⟩ => by
    subst e1 e2
    cases n1
    cases n2
    exact ⟨i, j, rfl, rfl, kE_now R (hg _ _ _ _) q⟩
end
section
variable {X : Cx}
abbrev T2 : Int → Int → Prop := fun _ _ => True
def dSub : R2D := dI T2 fun i j => .int (i - j)
def dMod : R2D := dI (fun _ j => 0 < j) fun i j => .int (i % j)
def CDv : Int → Int → Prop := fun _ j => 0 < j ∧ j < 2 ^ 62
def dFdiv : R2D := dI CDv fun i j => .int (i / j)
def dPow : R2D := dI CPow fun i j => .int (i ^ j.toNat)
theorem z_sub : Rz X.K (rI0 fun i j => .int (i - j)) dSub := z_I0 fun _ _ _ _ => .int _
theorem z_mod : Rz X.K (rI (fun _ j => 0 < j) fun i j => .int (i % j)) dMod := z_I fun _ _ _ _ => .int _
theorem z_pow : Rz X.K (rI CPow fun i j => .int (i ^ j.toNat)) dPow := z_I fun _ _ _ _ => .int _
theorem cdv {i j : Int} (h : CDv i j) : CDivW i j := by
  refine ⟨h.1, ?_⟩
  have h2 : j.natAbs < 2 ^ 62 := by have := h.2; have := h.1; omega
  have : j.natAbs.log2 < 62 := by
    rw [Nat.log2_lt (by have := h.1; omega)]
    exact h2
  omega
theorem z_fdiv : Rz X.K (rI CDivW fun i j => .int (i / j)) dFdiv where
  mo := moI
  on := fun R n1 n2 ⟨i, j, e1, e2, c, q⟩ => by
    subst e1 e2
    cases n1
    cases n2
    exact ⟨i, j, rfl, rfl, cdv c, kE_now R (.int _) q⟩
end
def dAdd : R2D := fun a b st Q => match rd st a, rd st b with
  | .int i, .int j => Q (.int (i + j)) st
  | .tup x, .tup y => x.length + y.length ≤ sizeLine ∧ Q (.tup (x ++ y)) st
  | .lst x, .lst y => x.length + y.length ≤ sizeLine ∧ Q (.lst (x ++ y)) st
  | .str x, .str y => x.length + y.length ≤ sizeLine ∧ Q (.str (x ++ y)) st
  | _, _ => False
def rAddD (K : PySem.W.Frag) : R2 := fun x y H Q => rI0 (fun i j => .int (i + j)) x y H Q ∨ rCatX K x y H Q ∨ rCat x y H Q ∨ (∃ i j, x = .str i ∧ y = .str j ∧ i.length + j.length ≤ sizeLine ∧ Q (.str (i ++ j)) H)
theorem op_addD {X : Cx} : OpR X (binaryOp .Add) (rAddD X.K) := op_add.or (op_catX.or (op_cat.or op_add_str))
theorem z_add {X : Cx} : Rz X.K (rAddD X.K) dAdd where
  mo := fun a b s Q Q' h q => by
    unfold dAdd at q ⊢
    split at q
    · exact h _ _ q
    · exact ⟨q.1, h _ _ q.2⟩
    · exact ⟨q.1, h _ _ q.2⟩
    · exact ⟨q.1, h _ _ q.2⟩
    · exact q
  on := fun {H io F st x y a b Q} R n1 n2 q => by
    unfold dAdd at q
    split at q
    · rename_i i j e1 e2
      cases rd_int e1
      cases rd_int e2
      cases n1
      cases n2
      exact .inl ⟨i, j, rfl, rfl, kE_now R (.int _) q⟩
    · rename_i i j e1 e2
      cases rd_tup e1
      cases rd_tup e2
      cases n1 with
      | tup s1 r1 z1 =>
        cases n2 with
        | tup s2 r2 z2 =>
          refine .inr (.inl ⟨_, _, _, _, rfl, rfl, SqT_mono R.sub s1.t, SqT_mono R.sub s2.t, by rw [r1.length, r2.length]; exact q.1, fun e => ?_, fun h1 e => ?_, fun _ _ => ?_⟩)
          · subst e
            cases r1
            exact kE_now R (.tup s2 r2 z2) q.2
          · subst e
            cases r2
            rw [List.append_nil] at q
            exact kE_now R (.tup s1 r1 z1) q.2
          · exact lay_tup R (r1.append r2) (by rw [List.length_append]; exact q.1) q.2
    · rename_i i j e1 e2
      obtain ⟨p1, xs, rfl, h1, r1, z1⟩ := rd_lst R n1 e1
      obtain ⟨p2, ys, rfl, h2, r2, z2⟩ := rd_lst R n2 e2
      exact .inr (.inr (.inl ⟨_, _, _, _, rfl, rfl, h1, h2, by rw [r1.length, r2.length]; exact q.1, lay_lst R (r1.append r2) (by rw [List.length_append]; exact q.1) q.2⟩))
    · rename_i i j e1 e2
      cases rd_str e1
      cases rd_str e2
      cases n1
      cases n2
      exact .inr (.inr (.inr ⟨i, j, rfl, rfl, q.1, kE_now R (.str _) q.2⟩))
    · exact q.elim
def kPy : Key → PyData
  | .inl i => .int i
  | .inr x => .str x
mutual
def D.py : D → PyData
  | .non => .none
  | .bl b => .bool b
  | .int i => .int i
  | .str s => .str s
  | .tup ds => .tuple (D.pyL ds)
  | .lst ds => .list (D.pyL ds)
  | .scr ds => .list (D.pyL ds)
  | .dct kvs => .dict (kvs.map fun p => (kPy p.1, kPy p.2))
  | .ref _ => .none
  | .fn _ _ _ => .none
  | .exc _ _ _ => .none
def D.pyL : List D → List PyData
  | [] => []
  | d :: r => d.py :: D.pyL r
end
mutual
/-- may be compared: no dict, no cell within, texts of right signs -/
def D.ok : D → Bool
  | .non => true
  | .bl _ => true
  | .int _ => true
  | .str s => PyData.canLay0 (.str s)
  | .tup ds => D.okL ds
  | .lst ds => D.okL ds
  | .scr _ => false
  | .dct _ => false
  | .ref _ => false
  | .fn _ _ _ => false
  | .exc _ _ _ => false
def D.okL : List D → Bool
  | [] => true
  | d :: r => d.ok && D.okL r
end
mutual
def D.dep : D → Nat
  | .tup ds => D.depL ds + 1
  | .lst ds => D.depL ds + 1
  | .scr ds => D.depL ds + 1
  | .non => 0
  | .bl _ => 0
  | .int _ => 0
  | .str _ => 0
  | .dct kvs => (PyData.dict (kvs.map fun p => (kPy p.1, kPy p.2))).depth
  | .ref _ => 0
  | .fn _ _ _ => 0
  | .exc _ _ _ => 0
def D.depL : List D → Nat
  | [] => 0
  | d :: r => max d.dep (D.depL r)
end
mutual
/-- Python's == -/
def D.eqv : D → D → Bool
  | .non, .non => true
  | .bl a, .bl b => a == b
  | .bl a, .int j => (if a then 1 else 0) == j
  | .int i, .bl b => i == (if b then 1 else 0)
  | .int i, .int j => i == j
  | .str x, .str y => x == y
  | .tup xs, .tup ys => D.eqvL xs ys
  | .lst xs, .lst ys => D.eqvL xs ys
  | _, _ => false
def D.eqvL : List D → List D → Bool
  | [], [] => true
  | x :: xs, y :: ys => D.eqv x y && D.eqvL xs ys
  | _, _ => false
end
mutual
theorem py_ok : ∀ d : D, d.ok = true → d.py.canLay0 = true
  | .non, _ => rfl
  | .bl _, _ => rfl
  | .int _, _ => rfl
  | .str s, h => h
  | .tup ds, h => by simp only [D.py, PyData.canLay0]; exact pyL_ok ds (by simpa only [D.ok] using h)
  | .lst ds, h => by simp only [D.py, PyData.canLay0]; exact pyL_ok ds (by simpa only [D.ok] using h)
  | .scr _, h => by simp [D.ok] at h
  | .dct _, h => by simp [D.ok] at h
  | .ref _, h => by simp [D.ok] at h
theorem pyL_ok : ∀ ds : List D, D.okL ds = true → PyData.canLayAll0 (D.pyL ds) = true
  | [], _ => rfl
  | d :: r, h => by
    simp only [D.okL, Bool.and_eq_true] at h
    simp only [D.pyL, PyData.canLayAll0, Bool.and_eq_true]
    exact ⟨py_ok d h.1, pyL_ok r h.2⟩
end
mutual
theorem py_dep : ∀ d : D, d.py.depth = d.dep
  | .non => rfl
  | .bl _ => rfl
  | .int _ => rfl
  | .str _ => rfl
  | .dct _ => rfl
  | .ref _ => rfl
  | .fn _ _ _ => rfl
  | .exc _ _ _ => rfl
  | .tup ds => by simp only [D.py, PyData.depth, D.dep]; rw [pyL_dep ds]
  | .lst ds => by simp only [D.py, PyData.depth, D.dep]; rw [pyL_dep ds]
  | .scr ds => by simp only [D.py, PyData.depth, D.dep]; rw [pyL_dep ds]
theorem pyL_dep : ∀ ds : List D, PyData.depthAll (D.pyL ds) = D.depL ds
  | [] => rfl
  | d :: r => by simp only [D.pyL, PyData.depthAll, D.depL]; rw [py_dep d, pyL_dep r]
end
mutual
theorem py_eqv : ∀ d e : D, d.ok = true → e.ok = true → PyData.eqv d.py e.py = D.eqv d e
  | .tup xs, .tup ys, h1, h2 => by
    simp only [D.py, PyData.eqv, D.eqv]
    exact pyL_eqv xs ys (by simpa only [D.ok] using h1) (by simpa only [D.ok] using h2)
  | .lst xs, .lst ys, h1, h2 => by
    simp only [D.py, PyData.eqv, D.eqv]
    exact pyL_eqv xs ys (by simpa only [D.ok] using h1) (by simpa only [D.ok] using h2)
  | .scr _, _, h, _ => by simp [D.ok] at h
  | _, .scr _, _, h => by simp [D.ok] at h
  | .dct _, _, h, _ => by simp [D.ok] at h
  | .ref _, _, h, _ => by simp [D.ok] at h
  | .fn _ _ _, _, h, _ => by simp [D.ok] at h
  | .exc _ _ _, _, h, _ => by simp [D.ok] at h
  | _, .dct _, _, h => by simp [D.ok] at h
  | _, .ref _, _, h => by simp [D.ok] at h
  | _, .fn _ _ _, _, h => by simp [D.ok] at h
  | _, .exc _ _ _, _, h => by simp [D.ok] at h
  | .non, .non, _, _ => rfl
  | .non, .bl _, _, _ => rfl
  | .non, .int _, _, _ => rfl
  | .non, .str _, _, _ => rfl
  | .non, .tup _, _, _ => by simp only [D.py, PyData.eqv, D.eqv]
  | .non, .lst _, _, _ => by simp only [D.py, PyData.eqv, D.eqv]
  | .bl _, .non, _, _ => rfl
  | .bl _, .bl _, _, _ => rfl
  | .bl _, .int _, _, _ => rfl
  | .bl _, .str _, _, _ => rfl
  | .bl _, .tup _, _, _ => by simp only [D.py, PyData.eqv, D.eqv]
  | .bl _, .lst _, _, _ => by simp only [D.py, PyData.eqv, D.eqv]
  | .int _, .non, _, _ => rfl
  | .int _, .bl _, _, _ => rfl
  | .int _, .int _, _, _ => rfl
  | .int _, .str _, _, _ => rfl
  | .int _, .tup _, _, _ => by simp only [D.py, PyData.eqv, D.eqv]
  | .int _, .lst _, _, _ => by simp only [D.py, PyData.eqv, D.eqv]
  | .str _, .non, _, _ => rfl
  | .str _, .bl _, _, _ => rfl
  | .str _, .int _, _, _ => rfl
  | .str _, .str _, _, _ => by simp only [D.py, PyData.eqv, D.eqv]
  | .str _, .tup _, _, _ => by simp only [D.py, PyData.eqv, D.eqv]
  | .str _, .lst _, _, _ => by simp only [D.py, PyData.eqv, D.eqv]
  | .tup _, .non, _, _ => by simp only [D.py, PyData.eqv, D.eqv]
  | .tup _, .bl _, _, _ => by simp only [D.py, PyData.eqv, D.eqv]
  | .tup _, .int _, _, _ => by simp only [D.py, PyData.eqv, D.eqv]
  | .tup _, .str _, _, _ => by simp only [D.py, PyData.eqv, D.eqv]
  | .tup _, .lst _, _, _ => by simp only [D.py, PyData.eqv, D.eqv]
  | .lst _, .non, _, _ => by simp only [D.py, PyData.eqv, D.eqv]
  | .lst _, .bl _, _, _ => by simp only [D.py, PyData.eqv, D.eqv]
  | .lst _, .int _, _, _ => by simp only [D.py, PyData.eqv, D.eqv]
  | .lst _, .str _, _, _ => by simp only [D.py, PyData.eqv, D.eqv]
  | .lst _, .tup _, _, _ => by simp only [D.py, PyData.eqv, D.eqv]
theorem pyL_eqv : ∀ ds es : List D, D.okL ds = true → D.okL es = true → PyData.eqvAll (D.pyL ds) (D.pyL es) = D.eqvL ds es
  | [], [], _, _ => by simp only [D.pyL, PyData.eqvAll, D.eqvL]
  | [], _ :: _, _, _ => by simp only [D.pyL, PyData.eqvAll, D.eqvL]
  | _ :: _, [], _, _ => by simp only [D.pyL, PyData.eqvAll, D.eqvL]
  | d :: r, e :: t, h1, h2 => by
    simp only [D.okL, Bool.and_eq_true] at h1 h2
    simp only [D.pyL, PyData.eqvAll, D.eqvL]
    rw [py_eqv d e h1.1 h2.1, pyL_eqv r t h1.2 h2.2]
end
end DL
namespace DL
open PySem PySem.Spec PyProof.Rows L2
variable [Bs]
section
variable {K : PySem.W.Frag} {io : List Addr} {F H : Hp} {st : Sto}
mutual
theorem den_dp (hs : ∀ a o, F a = some o → H a = some o) : ∀ {v : V} {d : D}, Den K io F v d → d.ok = true → Dp K H v d.py
  | _, _, .non, _ => by simp only [D.py]; exact .non
  | _, _, .bl b, _ => by simp only [D.py]; exact .bl b
  | _, _, .int i, _ => by simp only [D.py]; exact .int i
  | _, _, .str x, _ => by simp only [D.py]; exact .str x
  | _, _, .tup s r _, h => by simp only [D.py]; exact .tup (SqT_mono hs s.t) (den_dpL hs r (by simpa only [D.ok] using h))
  | _, _, .lst s r _, h => by simp only [D.py]; exact .lst (SqL.of (hs _ _ s)) (den_dpL hs r (by simpa only [D.ok] using h))
  | _, _, .scr s r _, h => by simp [D.ok] at h
  | _, _, .dct _, h => by simp [D.ok] at h
  | _, _, .ref _, h => by simp [D.ok] at h
  | _, _, .fn _ _, h => by simp [D.ok] at h
theorem den_dpL (hs : ∀ a o, F a = some o → H a = some o) : ∀ {vs : List V} {ds : List D}, DenL K io F vs ds → D.okL ds = true → DpAll K H vs (D.pyL ds)
  | _, _, .nil, _ => by simp only [D.pyL]; exact .nil
  | _, _, .cons a b, h => by
    simp only [D.okL, Bool.and_eq_true] at h
    simp only [D.pyL]
    exact .cons (den_dp hs a h.1) (den_dpL hs b h.2)
end
theorem rd_dp (R : RelH K H io F st) {v : V} {d : D} (n : Den K io F v d) (h : (rd st d).ok = true) : Dp K H v (rd st d).py := by
  cases e : rd st d with
  | lst ds =>
    obtain ⟨a, xs, rfl, h1, h2, h3⟩ := rd_lst R n e
    rw [e] at h
    simp only [D.py]
    exact .lst (SqL.of h1) (den_dpL R.sub h2 (by simpa only [D.ok] using h))
  | ref k => rw [e] at h; simp [D.ok] at h
  | non => cases rd_non e; exact den_dp R.sub n (by rw [e] at h; exact h)
  | bl b => cases rd_bl e; exact den_dp R.sub n (by rw [e] at h; exact h)
  | int i => cases rd_int e; exact den_dp R.sub n (by rw [e] at h; exact h)
  | str s => cases rd_str e; exact den_dp R.sub n (by rw [e] at h; exact h)
  | tup ds => cases rd_tup e; exact den_dp R.sub n (by rw [e] at h; exact h)
  | scr ds => rw [e] at h; simp [D.ok] at h
  | dct ds => rw [e] at h; simp [D.ok] at h
  | fn => rw [e] at h; simp [D.ok] at h
  | exc => rw [e] at h; simp [D.ok] at h
end
def dEqO (f : Bool → Bool) : R2D := fun a b st Q => (rd st a).ok = true ∧ (rd st b).ok = true ∧ min (rd st a).dep (rd st b).dep ≤ 60 ∧ Q (.bl (f ((rd st a).eqv (rd st b)))) st
/-- == : of two texts, or of two data -/
def dEqB (f : Bool → Bool) : R2D := fun a b st Q => (∃ x y, a = .str x ∧ b = .str y ∧ Q (.bl (f (x == y))) st) ∨ dEqO f a b st Q
abbrev dEq : R2D := dEqB fun b => b
abbrev dNe : R2D := dEqB fun b => !b
def rEqB (K : PySem.W.Frag) (f : Bool → Bool) : R2 := fun x y H Q => ∃ d e, Dp K H x d ∧ Dp K H y e ∧ d.canLay0 = true ∧ e.canLay0 = true ∧ min d.depth e.depth ≤ 60 ∧ Q (.bl (f (PyData.eqv d e))) H
theorem op_eqB {X : Cx} (hu : X.A.units + 64 < cLine) : OpR X (compareOp .Eq) (rEqB X.K fun b => b) := by
  intro pins s σ H x y v u Q I rx ry h
  obtain ⟨d, e, hd, he, sd, se, z, q⟩ := h
  obtain ⟨as, r1⟩ := Dp.reads I d x v hd rx
  obtain ⟨bs, r2⟩ := Dp.reads I e y u he ry
  exact SeqAt.compareEq_reads r1 r2 sd se (by omega) ⟨.bl _, H, I, rfl, q⟩
theorem op_neB {X : Cx} (hu : X.A.units + 64 < cLine) : OpR X (compareOp .NotEq) (rEqB X.K fun b => !b) := by
  intro pins s σ H x y v u Q I rx ry h
  obtain ⟨d, e, hd, he, sd, se, z, q⟩ := h
  obtain ⟨as, r1⟩ := Dp.reads I d x v hd rx
  obtain ⟨bs, r2⟩ := Dp.reads I e y u he ry
  exact SeqAt.compareNe_reads r1 r2 sd se (by omega) ⟨.bl _, H, I, rfl, q⟩
theorem z_eqO {K : PySem.W.Frag} {f : Bool → Bool} : Rz K (rEqB K f) (dEqO f) where
  mo := fun a b s Q Q' h ⟨h1, h2, h3, q⟩ => ⟨h1, h2, h3, h _ _ q⟩
  on := fun {H io F st x y a b Q} R n1 n2 ⟨h1, h2, h3, q⟩ => by
    refine ⟨_, _, rd_dp R n1 h1, rd_dp R n2 h2, py_ok _ h1, py_ok _ h2, by rw [py_dep, py_dep]; exact h3, ?_⟩
    rw [py_eqv _ _ h1 h2]
    exact kE_now R (.bl _) q
def rEqS (f : Bool → Bool) : R2 := fun x y H Q => scal x y = true ∧ Q (.bl (f (decide (x = y)))) H
theorem op_eqS {X : Cx} : OpR X (compareOp .Eq) (rEqS fun b => b) := op_eq
theorem op_neS {X : Cx} : OpR X (compareOp .NotEq) (rEqS fun b => !b) := op_ne
theorem op_eqC {X : Cx} (hu : X.A.units + 64 < cLine) : OpR X (compareOp .Eq) (fun x y H Q => rEqS (fun b => b) x y H Q ∨ rEqB X.K (fun b => b) x y H Q) := op_eqS.or (op_eqB hu)
theorem op_neC {X : Cx} (hu : X.A.units + 64 < cLine) : OpR X (compareOp .NotEq) (fun x y H Q => rEqS (fun b => !b) x y H Q ∨ rEqB X.K (fun b => !b) x y H Q) := op_neS.or (op_neB hu)
theorem z_eqB {K : PySem.W.Frag} {f : Bool → Bool} : Rz K (fun x y H Q => rEqS f x y H Q ∨ rEqB K f x y H Q) (dEqB f) where
  mo := fun a b s Q Q' h q => by
    rcases q with ⟨x, y, e1, e2, q⟩ | q
    · exact .inl ⟨x, y, e1, e2, h _ _ q⟩
    · exact .inr (z_eqO (K := K).mo _ _ _ _ _ h q)
  on := fun {H io F st x y a b Q} R n1 n2 q => by
    rcases q with ⟨x, y, rfl, rfl, q⟩ | q
    · cases n1
      cases n2
      refine .inl ⟨rfl, ?_⟩
      rw [dec_str]
      exact kE_now R (.bl _) q
    · exact .inr (z_eqO.on R n1 n2 q)
def dInB (f : Bool → Bool) : R2D := fun a b st Q => ∃ ds, (rd st b = .lst ds ∨ rd st b = .tup ds) ∧ (rd st a).ok = true ∧ D.okL ds = true ∧ min (D.depL ds) (rd st a).dep ≤ 60 ∧ Q (.bl (f (ds.any fun z => z.eqv (rd st a)))) st
abbrev dIn : R2D := dInB fun b => b
abbrev dNotIn : R2D := dInB fun b => !b
def rInB (K : PySem.W.Frag) (f : Bool → Bool) : R2 := fun x y H Q => ∃ d ds, Dp K H x d ∧ (Dp K H y (.list ds) ∨ Dp K H y (.tuple ds)) ∧ d.canLay0 = true ∧ PyData.canLayAll0 ds = true ∧ min (PyData.depthAll ds) d.depth ≤ 60 ∧ Q (.bl (f (ds.any fun z => PyData.eqv z d))) H
theorem op_inB {X : Cx} (hu : X.A.units + 64 < cLine) : OpR X (compareOp .In) (rInB X.K fun b => b) := by
  intro pins s σ H x y v u Q I rx ry h
  obtain ⟨d, ds, hd, he, sd, se, z, q⟩ := h
  obtain ⟨as, r1⟩ := Dp.reads I d x v hd rx
  rcases he with he | he
  · obtain ⟨bs, r2⟩ := Dp.reads I _ y u he ry
    exact SeqAt.in_list_reads r2 r1 se sd (by omega) ⟨.bl _, H, I, rfl, q⟩
  · obtain ⟨bs, r2⟩ := Dp.reads I _ y u he ry
    exact SeqAt.in_tuple_reads r2 r1 se sd (by omega) ⟨.bl _, H, I, rfl, q⟩
theorem op_notInB {X : Cx} (hu : X.A.units + 64 < cLine) : OpR X (compareOp .NotIn) (rInB X.K fun b => !b) := by
  intro pins s σ H x y v u Q I rx ry h
  obtain ⟨d, ds, hd, he, sd, se, z, q⟩ := h
  obtain ⟨as, r1⟩ := Dp.reads I d x v hd rx
  rcases he with he | he
  · obtain ⟨bs, r2⟩ := Dp.reads I _ y u he ry
    exact SeqAt.notIn_list_reads r2 r1 se sd (by omega) ⟨.bl _, H, I, rfl, q⟩
  · obtain ⟨bs, r2⟩ := Dp.reads I _ y u he ry
    exact SeqAt.notIn_tuple_reads r2 r1 se sd (by omega) ⟨.bl _, H, I, rfl, q⟩
theorem any_py {d : D} (h : d.ok = true) : ∀ ds : List D, D.okL ds = true → (D.pyL ds).any (fun z => PyData.eqv z d.py) = ds.any fun z => z.eqv d
  | [], _ => rfl
  | e :: r, h2 => by
    simp only [D.okL, Bool.and_eq_true] at h2
    simp only [D.pyL, List.any_cons]
    rw [py_eqv e d h2.1 h, any_py h r h2.2]
theorem z_inB {K : PySem.W.Frag} {f : Bool → Bool} : Rz K (rInB K f) (dInB f) where
  mo := fun a b s Q Q' h ⟨ds, h1, h2, h3, h4, q⟩ => ⟨ds, h1, h2, h3, h4, h _ _ q⟩
  on := fun {H io F st x y a b Q} R n1 n2 ⟨ds, h1, h2, h3, h4, q⟩ => by
    refine ⟨_, D.pyL ds, rd_dp R n1 h2, ?_, py_ok _ h2, pyL_ok ds h3, by rw [pyL_dep, py_dep]; exact h4, ?_⟩
    · rcases h1 with e | e
      · have := rd_dp R n2 (by rw [e]; simpa only [D.ok] using h3)
        rw [e] at this
        exact .inl (by simpa only [D.py] using this)
      · have := rd_dp R n2 (by rw [e]; simpa only [D.ok] using h3)
        rw [e] at this
        exact .inr (by simpa only [D.py] using this)
    · rw [any_py h2 ds h3]
      exact kE_now R (.bl _) q
def D.isNon : D → Bool
  | .non => true
  | _ => false
def dIsN (f : Bool → Bool) : R2D := fun a b st Q => b = .non ∧ Q (.bl (f a.isNon)) st
theorem isNon_den {K : PySem.W.Frag} {io : List Addr} {F : Hp} {v : V} {d : D} (n : Den K io F v d) : decide (v = .non) = d.isNon := by
  cases n <;> first | rfl | exact decide_eq_false (fun h => nomatch h)
theorem z_isN {K : PySem.W.Frag} {f : Bool → Bool} : Rz K (fun x y H Q => y = .non ∧ Q (.bl (f (decide (x = .non)))) H) (dIsN f) where
  mo := fun a b s Q Q' h ⟨e, q⟩ => ⟨e, h _ _ q⟩
  on := fun R n1 n2 ⟨e, q⟩ => by
    subst e
    cases n2
    rw [isNon_den n1]
    exact ⟨rfl, kE_now R (.bl _) q⟩
end DL
namespace DL
open PySem PySem.Spec PyProof.Rows L2
variable [Bs]
def D.ty : D → String
  | .non => "NoneType"
  | .bl _ => "bool"
  | .int _ => "int"
  | .str _ => "str"
  | .tup _ => "tuple"
  | .lst _ => "list"
  | .scr _ => "list"
  | .dct _ => "dict"
  | .ref _ => ""
  | .fn _ _ _ => ""
  | .exc _ _ _ => ""
def D.noRef : D → Prop
  | .ref _ => False
  | .fn _ _ _ => False
  | .exc _ _ _ => False
  | _ => True
def D.isa (T : String) : D → Bool
  | .bl _ => T == "bool" || T == "int"
  | d => d.ty == T
def wIsi (T : String) (we : DE) : DE := fun env st Q => we env st fun d s => d.noRef ∧ Q (.bl (d.isa T)) s
theorem CallR.or {X : Cx} {f : Value} {r r' : List V → Hp → VK → Prop} (h : CallR X f r) (h' : CallR X f r') : CallR X f (fun xs H Q => r xs H Q ∨ r' xs H Q) := by
  intro pins s σ H vs us Q I rv q
  rcases q with q | q
  · exact h pins s σ H vs us Q I rv q
  · exact h' pins s σ H vs us Q I rv q
def lenD (d : D) : Option Nat := match d with
  | .tup ds => some ds.length
  | .lst ds => some ds.length
  | .scr ds => some ds.length
  | .str z => if z.length ≤ sizeLine then some z.length else none
  | _ => none
def bLen : RLD := fun ds st Q => ∃ d n, ds = [d] ∧ lenD (rd st d) = some n ∧ Q (.int (n : Nat)) st
section
variable {K : PySem.W.Frag} {H : Hp} {io : List Addr} {F : Hp} {st : Sto} {Q : VK} {v : V} {d : D}
theorem DenL.one {vs : List V} (n : DenL K io F vs [d]) : ∃ v, vs = [v] ∧ Den K io F v d := by
  cases n with
  | cons a b => cases b; exact ⟨_, rfl, a⟩
theorem DenL.two {vs : List V} {e : D} (n : DenL K io F vs [d, e]) : ∃ v w, vs = [v, w] ∧ Den K io F v d ∧ Den K io F w e := by
  cases n with
  | cons a b =>
    cases b with
    | cons b c => cases c; exact ⟨_, _, rfl, a, b⟩
end
theorem z_len {X : Cx} : RzL X.K (fun xs H Q => (∃ p ys, xs = [.ref p] ∧ (SqL X.K H p ys ∨ SqT X.K H p ys) ∧ Q (.int ys.length) H) ∨ ∃ z, xs = [.str z] ∧ z.length ≤ sizeLine ∧ Q (.int z.length) H) bLen where
  mo := fun ds s Q Q' h ⟨d, n, e1, e2, q⟩ => ⟨d, n, e1, e2, h _ _ q⟩
  on := fun {H io F st vs ds Q} R nl ⟨d, n, e1, e2, q⟩ => by
    subst e1
    obtain ⟨v, rfl, n1⟩ := nl.one
    cases e : rd st d with
    | lst es =>
      obtain ⟨a, xs, rfl, h1, h2, h3⟩ := rd_lst R n1 e
      rw [e] at e2
      cases e2
      refine .inl ⟨a, xs, rfl, .inl (SqL.of h1), ?_⟩
      rw [h2.length]
      exact kE_now R (.int _) q
    | tup es =>
      rw [e] at e2
      cases e2
      cases rd_tup e
      cases n1 with
      | tup s r z =>
        refine .inl ⟨_, _, rfl, .inr (SqT_mono R.sub s.t), ?_⟩
        rw [r.length]
        exact kE_now R (.int _) q
    | scr es =>
      rw [e] at e2
      cases e2
      cases rd_scr e
      cases n1 with
      | scr s r z =>
        refine .inl ⟨_, _, rfl, .inl (SqL_mono R.sub s), ?_⟩
        rw [r.length]
        exact kE_now R (.int _) q
    | str z =>
      rw [e] at e2
      cases rd_str e
      cases n1
      unfold lenD at e2
      by_cases hz : z.length ≤ sizeLine
      · simp only [hz, if_true] at e2
        cases e2
        exact .inr ⟨z, rfl, hz, kE_now R (.int _) q⟩
      · simp only [hz, if_false] at e2
        cases e2
    | non => rw [e] at e2; cases e2
    | bl _ => rw [e] at e2; cases e2
    | int _ => rw [e] at e2; cases e2
    | dct _ => rw [e] at e2; cases e2
    | fn => rw [e] at e2; cases e2
    | exc => rw [e] at e2; cases e2
    | ref _ => rw [e] at e2; cases e2
def bAbs : RLD := fun ds st Q => ∃ i, ds = [.int i] ∧ Q (.int (if i < 0 then -i else i)) st
theorem z_abs {K : PySem.W.Frag} : RzL K (fun xs H Q => ∃ i, xs = [.int i] ∧ Q (.int (if i < 0 then -i else i)) H) bAbs where
  mo := fun ds s Q Q' h ⟨i, e, q⟩ => ⟨i, e, h _ _ q⟩
  on := fun R nl ⟨i, e, q⟩ => by
    subst e
    obtain ⟨v, rfl, n⟩ := nl.one
    cases n
    exact ⟨i, rfl, kE_now R (.int _) q⟩
def bMax2 : RLD := fun ds st Q => ∃ i j, ds = [.int i, .int j] ∧ Q (.int (if j > i then j else i)) st
def bMin2 : RLD := fun ds st Q => ∃ i j, ds = [.int i, .int j] ∧ Q (.int (if j < i then j else i)) st
theorem z_min2 {K : PySem.W.Frag} : RzL K (fun xs H Q => ∃ i j, xs = [.int i, .int j] ∧ Q (.int (if j < i then j else i)) H) bMin2 where
  mo := fun ds s Q Q' h ⟨i, j, e, q⟩ => ⟨i, j, e, h _ _ q⟩
  on := fun R nl ⟨i, j, e, q⟩ => by
    subst e
    obtain ⟨v, w, rfl, n, m⟩ := nl.two
    cases n
    cases m
    exact ⟨i, j, rfl, kE_now R (.int _) q⟩
def bInt : RLD := fun ds st Q => ∃ d, ds = [d] ∧ match d with
  | .int i => Q (.int i) st
  | .bl b => Q (.int (if b then 1 else 0)) st
  | _ => False
theorem z_int {K : PySem.W.Frag} : RzL K (fun xs H Q => (∃ i, xs = [.int i] ∧ Q (.int i) H) ∨ ∃ k, xs = [.bl k] ∧ Q (.int (if k then 1 else 0)) H) bInt where
  mo := fun ds s Q Q' h ⟨d, e, q⟩ => ⟨d, e, by cases d <;> first | exact h _ _ q | exact q⟩
  on := fun R nl ⟨d, e, q⟩ => by
    subst e
    obtain ⟨v, rfl, n⟩ := nl.one
    cases n <;> first
      | exact False.elim q
      | exact .inl ⟨_, rfl, kE_now R (.int _) q⟩
      | exact .inr ⟨_, rfl, kE_now R (.int _) q⟩
def D.ints : List D → Option (List Int)
  | [] => some []
  | .int i :: r => (D.ints r).map (i :: ·)
  | _ => none
theorem ints_eq : ∀ {ds : List D} {ns : List Int}, D.ints ds = some ns → ds = ns.map .int
  | [], ns, h => by cases h; rfl
  | .int i :: r, ns, h => by
    simp only [D.ints] at h
    cases e : D.ints r with
    | none => rw [e] at h; cases h
    | some ms =>
      rw [e] at h
      cases h
      rw [List.map_cons, ints_eq e]
theorem den_ints {K : PySem.W.Frag} {io : List Addr} {F : Hp} : ∀ {ns : List Int} {vs : List V}, DenL K io F vs (ns.map .int) → vs = ns.map V.int
  | [], _, .nil => rfl
  | n :: r, _, .cons a b => by cases a; rw [List.map_cons, den_ints b]
def bTuple : RLD := fun ds st Q => ∃ d es, ds = [d] ∧ (rd st d = .lst es ∨ rd st d = .tup es) ∧ Q (.tup es) st
theorem z_tuple {X : Cx} : RzL X.K (fun xs H Q => ∃ p ys, xs = [.ref p] ∧ ((SqL X.K H p ys ∧ XtK H Q ys) ∨ (SqT X.K H p ys ∧ Q (.ref p) H))) bTuple where
  mo := fun ds s Q Q' h ⟨d, es, e1, e2, q⟩ => ⟨d, es, e1, e2, h _ _ q⟩
  on := fun {H io F st vs ds Q} R n ⟨d, es, e1, e2, q⟩ => by
    subst e1
    obtain ⟨v, rfl, n1⟩ := n.one
    rcases e2 with e | e
    · obtain ⟨a, xs, rfl, h1, h2, h3⟩ := rd_lst R n1 e
      exact ⟨a, xs, rfl, .inl ⟨SqL.of h1, lay_tup R h2 h3 q⟩⟩
    · cases rd_tup e
      cases n1 with
      | tup s r z => exact ⟨_, _, rfl, .inr ⟨SqT_mono R.sub s.t, kE_now R (.tup s r z) q⟩⟩
end DL
namespace DL
open PySem PySem.Spec PyProof.Rows L2
variable [Bs]
theorem atI_den {K : PySem.W.Frag} {io : List Addr} {F : Hp} {xs : List V} {ds : List D} {i : Int} {d : D} (r : DenL K io F xs ds) (h : atI ds i = some d) : ∃ v, atI xs i = some v ∧ Den K io F v d := by
  unfold atI at h ⊢
  rw [r.length]
  cases e : ixN ds.length i with
  | none => rw [e] at h; cases h
  | some j => rw [e] at h; exact r.get h
def dIx : R2D := fun a b st Q => ∃ i, b = .int i ∧ match rd st a with
  | .lst ds => ∃ d, atI ds i = some d ∧ Q d st
  | .tup ds => ∃ d, atI ds i = some d ∧ Q d st
  | .scr ds => ∃ d, atI ds i = some d ∧ Q d st
  | .str z => z.length ≤ sizeLine ∧ ∃ c, atI z.cps.toList i = some c ∧ Q (.str ⟨#[c]⟩) st
  | _ => False
theorem z_ix {X : Cx} : Rz X.K (rIx X.K) dIx where
  mo := fun a b s Q Q' h ⟨i, e, q⟩ => ⟨i, e, by
    split at q
    · exact ⟨q.choose, q.choose_spec.1, h _ _ q.choose_spec.2⟩
    · exact ⟨q.choose, q.choose_spec.1, h _ _ q.choose_spec.2⟩
    · exact ⟨q.choose, q.choose_spec.1, h _ _ q.choose_spec.2⟩
    · exact ⟨q.1, q.2.choose, q.2.choose_spec.1, h _ _ q.2.choose_spec.2⟩
    · exact q⟩
  on := fun {H io F st x y a b Q} R n1 n2 ⟨i, e, q⟩ => by
    subst e
    cases n2
    split at q
    · rename_i ds e
      obtain ⟨p, xs, rfl, h1, h2, h3⟩ := rd_lst R n1 e
      obtain ⟨d, h, q⟩ := q
      obtain ⟨v, h4, h5⟩ := atI_den h2 h
      exact .inl ⟨p, xs, i, v, rfl, rfl, SqL.of h1, h4, kE_now R h5 q⟩
    · rename_i ds e
      cases rd_tup e
      obtain ⟨d, h, q⟩ := q
      cases n1 with
      | tup s r z =>
        obtain ⟨v, h4, h5⟩ := atI_den r h
        exact .inr (.inl ⟨_, _, i, v, rfl, rfl, SqT_mono R.sub s.t, h4, kE_now R h5 q⟩)
    · rename_i ds e
      cases rd_scr e
      obtain ⟨d, h, q⟩ := q
      cases n1 with
      | scr s r z =>
        obtain ⟨v, h4, h5⟩ := atI_den r h
        exact .inl ⟨_, _, i, v, rfl, rfl, SqL_mono R.sub s, h4, kE_now R h5 q⟩
    · rename_i z e
      cases rd_str e
      obtain ⟨hz, c, h, q⟩ := q
      cases n1
      exact .inr (.inr ⟨z, i, c, rfl, rfl, hz, h, kE_now R (.str _) q⟩)
    · exact q.elim
section
variable {X : Cx} {pos p2 : Pos} {a b : Expr} {wa wb : DE}
theorem we_ix (ha : WE X a wa) (hb : WE X b wb) (hs : PlainIx b := by exact fun _ _ => rfl) : WE X (.Subscript a b pos) (wOp dIx wa wb) :=
  ⟨moOp (z_ix (X := X)).mo ha.mo hb.mo, PE_imp (pe_ix ix_seq ha.pe hb.pe hs) fun σ H Q h => tOp_of z_ix ha hb h⟩
def cutL {α : Type} (xs : List α) (lo hi : Option Int) : List α := (xs.drop (HT.sIx xs.length 0 lo)).take (HT.sIx xs.length xs.length hi - HT.sIx xs.length 0 lo)
theorem cutL_length {α : Type} (xs : List α) (lo hi : Option Int) : (cutL xs lo hi).length ≤ xs.length := by
  unfold cutL
  rw [List.length_take, List.length_drop]
  omega
theorem cut_den {K : PySem.W.Frag} {io : List Addr} {F : Hp} {xs : List V} {ds : List D} (r : DenL K io F xs ds) (lo hi : Option Int) : DenL K io F (cutV xs lo hi) (cutL ds lo hi) := by
  unfold cutV cutL
  rw [r.length]
  exact (r.drop _).take _
abbrev DO := En → Sto → (Option Int → Sto → Prop) → Prop
def MoO (w : DO) : Prop := ∀ (e : En) (s : Sto) (Q Q' : Option Int → Sto → Prop), (∀ d s, Q d s → Q' d s) → w e s Q → w e s Q'
def kO (K : PySem.W.Frag) (H : Hp) (io : List Addr) (F : Hp) (Q : Option Int → Hp → Prop) : Option Int → Sto → Prop := fun b st' => ∀ io' F' H', Stp H io F H' io' F' → RelH K H' io' F' st' → Q b H'
def tO (K : PySem.W.Frag) (w : DO) : TO := fun σ H Q => ∃ env io F st, Rel K σ H env io F st ∧ w env st (kO K H io F Q)
structure WO (X : Cx) (e : Option Expr) (w : DO) : Prop where
  mo : MoO w
  pe : PO X e (tO X.K w)
theorem PO_imp {e : Option Expr} {t t' : TO} (h : PO X e t) (i : ∀ σ H Q, t' σ H Q → t σ H Q) : PO X e t' := ⟨fun p s σ H Q I q => h.run p s σ H Q I (i σ H Q q)⟩
def oNo : DO := fun _ st Q => Q none st
def oPart (we : DE) : DO := fun env st Q => we env st fun d s => ∃ i, d = .int i ∧ Q (some i) s
theorem wo_none : WO X none oNo := ⟨fun _ _ _ _ h q => h _ _ q, PO_imp po_none fun σ H Q ⟨env, io, F, st, R, q⟩ => q _ _ _ Stp.refl R.toRelH⟩
theorem wo_some (ha : WE X a wa) : WO X (some a) (oPart wa) := by
  refine ⟨fun _ _ _ _ h q => ha.mo _ _ _ _ (fun _ _ ⟨i, e, q⟩ => ⟨i, e, h _ _ q⟩) q, PO_imp (po_some ha.pe) fun σ H Q ⟨env, io, F, st, R, q⟩ => ?_⟩
  refine tE_use ha.mo R q fun d s1 v io1 F1 H1 ⟨i, e, q1⟩ t1 R1 n1 => ?_
  subst e
  cases n1
  exact ⟨i, rfl, q1 _ _ _ t1 R1.toRelH⟩
def dSl (m : Bool) (a : D) (lo hi : Option Int) (st : Sto) (Q : DK) : Prop := match rd st a with
  | .lst ds => newL m (cutL ds lo hi) st Q
  | .scr ds => newL m (cutL ds lo hi) st Q
  | .tup ds => Q (.tup (cutL ds lo hi)) st
  | .str z => z.length ≤ sizeLine ∧ Q (.str (cutS z lo hi)) st
  | _ => False
def wSl (m : Bool) (wa : DE) (wl wh : DO) : DE := fun env st Q => wa env st fun a s1 => wl env s1 fun lo s2 => wh env s2 fun hi s3 => dSl m a lo hi s3 Q
theorem mo_dSl {m : Bool} {a : D} {lo hi : Option Int} {st : Sto} {Q Q' : DK} (h : ∀ d s, Q d s → Q' d s) (q : dSl m a lo hi st Q) : dSl m a lo hi st Q' := by
  unfold dSl at q ⊢
  split at q
  · exact newL_mo h q
  · exact newL_mo h q
  · exact h _ _ q
  · exact ⟨q.1, h _ _ q.2⟩
  · exact q
theorem cut_whole {α : Type} (xs : List α) (lo hi : Option Int) (h : HT.sIx xs.length 0 lo = 0 ∧ HT.sIx xs.length xs.length hi = xs.length) : cutL xs lo hi = xs := by
  unfold cutL
  rw [h.1, h.2, List.drop_zero, Nat.sub_zero, List.take_length]
theorem we_sl {m : Bool} {lo hi : Option Expr} {wl wh : DO} (ha : WE X a wa) (hl : WO X lo wl) (hh : WO X hi wh) : WE X (.Subscript a (.Slice lo hi none p2) pos) (wSl m wa wl wh) := by
  refine ⟨fun _ _ _ _ h q => ha.mo _ _ _ _ (fun _ _ q => hl.mo _ _ _ _ (fun _ _ q => hh.mo _ _ _ _ (fun _ _ q => mo_dSl h q) q) q) q, PE_imp (pe_slice (sl_list.or (sl_tupX.or sl_str)) ha.pe hl.pe hh.pe) fun σ H Q ⟨env, io, F, st, R, q⟩ => ?_⟩
  refine tE_use ha.mo R q fun d s1 v io1 F1 H1 q1 t1 R1 n1 => ?_
  refine ⟨env, io1, F1, s1, R1, hl.mo _ _ _ _ (fun l s2 q2 => ?_) q1⟩
  intro io2 F2 H2 t2 R2
  refine ⟨env, io2, F2, s2, R1.next t2 R2, hh.mo _ _ _ _ (fun u s3 q3 => ?_) q2⟩
  intro io3 F3 H3 t3 R3
  replace q3 := mo_dSl (fun d s => kE_later ((t1.trans t2).trans t3)) q3
  replace n1 := (t2.trans t3).den n1
  unfold dSl at q3
  split at q3
  · rename_i ds e
    obtain ⟨p, xs, rfl, h1, h2, h3⟩ := rd_lst R3 n1 e
    exact .inl ⟨p, xs, rfl, SqL.of h1, lay_new R3 (cut_den h2 _ _) (Nat.le_trans (cutL_length _ _ _) h3) q3⟩
  · rename_i ds e
    cases rd_scr e
    cases n1 with
    | scr s r z => exact .inl ⟨_, _, rfl, SqL_mono R3.sub s, lay_new R3 (cut_den r _ _) (Nat.le_trans (cutL_length _ _ _) z) q3⟩
  · rename_i ds e
    cases rd_tup e
    cases n1 with
    | tup s r z =>
      refine .inr (.inl ⟨_, _, rfl, SqT_mono R3.sub s.t, fun hw => ?_, fun _ => ?_⟩)
      · rw [r.length] at hw
        rw [cut_whole ds l u hw] at q3
        exact kE_now R3 (.tup s r z) q3
      · exact lay_tup R3 (cut_den r _ _) (Nat.le_trans (cutL_length _ _ _) z) q3
  · rename_i z e
    cases rd_str e
    cases n1
    exact .inr (.inr ⟨z, rfl, q3.1, kE_now R3 (.str _) q3.2⟩)
  · exact q3.elim
end
theorem nodup_at {io : List Addr} (h : io.Nodup) {i j : Nat} {a : Addr} (h1 : io[i]? = some a) (h2 : io[j]? = some a) : i = j := by
  obtain ⟨x1, e1⟩ := List.getElem?_eq_some_iff.mp h1
  obtain ⟨x2, e2⟩ := List.getElem?_eq_some_iff.mp h2
  exact (List.getElem_inj h).mp (e1.trans e2.symm)
section
variable {K : PySem.W.Frag} {io : List Addr} {F H : Hp} {st : Sto} {n : Nat} {a : Addr}
theorem RelH.write (R : RelH K H io F st) {c : Cel} {o : HO} (h : io[n]? = some a) (hf : F a = none) (hc : CelOk K (upd H a o) io F a c) : RelH K (upd H a o) io F (st.set n c) ∧ Stp H io F (upd H a o) io F := by
  have hmem := List.mem_of_getElem? h
  obtain ⟨o1, ho⟩ := R.there a hmem
  refine ⟨⟨fun b u e => ?_, by rw [List.length_set]; exact R.len, R.nd, fun b hb => ?_, fun m d b h1 h2 => ?_, fun q hq => ?_⟩, ⟨⟨[], by simp, fun _ h => by cases h⟩, fun _ _ h => h, fun b u e hn hb => ?_, fun b u e => ?_, fun _ _ h => .inl h⟩⟩
  · rw [upd_ne (fun z => by subst z; rw [hf] at e; cases e)]; exact R.sub _ _ e
  · by_cases z : b = a
    · subst z; exact ⟨_, upd_same⟩
    · rw [upd_ne z]; exact R.there b hb
  · by_cases z : m = n
    · subst z
      have hm : m < st.length := by rw [← R.len]; exact (List.getElem?_eq_some_iff.mp h).1
      rw [List.getElem?_set_self hm] at h1
      cases h1
      rw [h] at h2
      cases h2
      exact hc
    · rw [List.getElem?_set_ne (Ne.symm z)] at h1
      have ne : b ≠ a := fun q => by subst q; exact z (nodup_at R.nd h2 h)
      have := R.cel m d b h1 h2
      cases d with
      | lst ds => obtain ⟨q1, q2, vs, q3, q4⟩ := this; exact ⟨q1, q2, vs, by rw [upd_ne ne]; exact q3, q4⟩
      | dead => trivial
      | ins C fs => obtain ⟨q1, cc, dx, fv, qc, q3, q4⟩ := this; exact ⟨q1, cc, dx, fv, qc, by rw [upd_ne ne]; exact q3, q4⟩
      | dct b kvs => obtain ⟨q1, q2, u, q3, q4⟩ := this; exact ⟨q1, q2, u, by rw [upd_ne ne]; exact q3, q4⟩
  · obtain ⟨t1, t2, ps, t3, t4, t5⟩ := R.tab q hq
    exact ⟨t1, t2, ps, by rw [upd_ne (fun z => by rw [z] at t2; exact t2 hmem)]; exact t3, t4, t5⟩
  · rw [upd_ne (fun z => by subst z; exact hb hmem)]; exact e
  · by_cases z : b = a
    · subst z; exact ⟨_, upd_same⟩
    · rw [upd_ne z]; exact ⟨u, e⟩
theorem RelH.writeL (R : RelH K H io F st) {ds ds' : List D} {vs' : List V} (h : io[n]? = some a) (hn : st[n]? = some (.lst ds)) (r : DenL K io F vs' ds') (z : ds'.length ≤ sizeLine) : RelH K (upd H a (.lst vs')) io F (st.set n (.lst ds')) ∧ Stp H io F (upd H a (.lst vs')) io F :=
  R.write h (R.cel n _ a hn h).1 ⟨(R.cel n _ a hn h).1, z, vs', upd_same, r⟩
/-- a cell's list -/
theorem RelH.at (R : RelH K H io F st) {ds : List D} (h : io[n]? = some a) (hn : st[n]? = some (.lst ds)) : ∃ vs, H a = some (.lst vs) ∧ DenL K io F vs ds ∧ ds.length ≤ sizeLine := by
  obtain ⟨h1, h2, vs, h3, h4⟩ := R.cel n _ a hn h
  exact ⟨vs, h3, h4, h2⟩
end
abbrev RMD := D → List D → Sto → DK → Prop
structure RzM (K : PySem.W.Frag) (r : V → List V → Hp → VK → Prop) (f : RMD) : Prop where
  mo : ∀ d ds s Q Q', (∀ d s, Q d s → Q' d s) → f d ds s Q → f d ds s Q'
  on : ∀ {H io F st v vs d ds Q}, RelH K H io F st → Den K io F v d → DenL K io F vs ds → f d ds st (kE K H io F Q) → r v vs H Q
def wM (f : RMD) (wo : DE) (wa : DA) : DE := fun env st Q => wo env st fun d s1 => (∃ ds, rd s1 d = .lst ds) ∧ wa env s1 fun ds s2 => f d ds s2 Q
section
variable {X : Cx} {apos cpos : Pos} {o e : Expr} {es : List Expr} {wo : DE} {wa : DA} {name : Str} {id : String} {r : V → List V → Hp → VK → Prop} {f : RMD}
theorem moM (mo : MoE wo) (ma : MoA wa) (z : RzM X.K r f) : MoE (wM f wo wa) := fun _ _ _ _ h q => mo _ _ _ _ (fun _ _ ⟨t, q⟩ => ⟨t, ma _ _ _ _ (fun _ _ q => z.mo _ _ _ _ _ h q) q⟩) q
theorem tM_of {σ : L2.St} {H : Hp} {Q : VK} (ho : WE X o wo) (ma : MoA wa) (z : RzM X.K r f) (h : tE X.K (wM f wo wa) σ H Q) : tBM X.K "list" r (tE X.K wo) (tA X.K wa) σ H Q := by
  obtain ⟨env, io, F, st, R, q⟩ := h
  refine tE_use ho.mo R q fun d s1 v io1 F1 H1 ⟨⟨ds, e⟩, q1⟩ t1 R1 n1 => ?_
  obtain ⟨p, xs, rfl, h1, h2, h3⟩ := rd_lst R1.toRelH n1 e
  refine ⟨.inl ⟨rfl, _, SqL.of h1⟩, ?_⟩
  refine tA_use ma R1 q1 fun ds s2 vs io2 F2 H2 q2 t2 R2 n2 => ?_
  exact z.on R2.toRelH (t2.den n1) n2 (z.mo _ _ _ _ _ (fun _ _ => kE_later (t1.trans t2)) q2)
theorem we_m (slot : Slot "list" name id) (hty : typeOf (.builtin id) = pure (.type "method_descriptor")) (hm : MtR X id r) (z : RzM X.K r f) (ho : WE X o wo) (ha : WA X (e :: es) wa)
    (pe : ∀ {to : TE} {t : TA}, PE X o to → PA X (e :: es) t → PE X (.Call (.Attribute o name apos) (e :: es) [] cpos) (tBM X.K "list" r to t)) : WE X (.Call (.Attribute o name apos) (e :: es) [] cpos) (wM f wo wa) :=
  ⟨moM ho.mo ha.mo z, PE_imp (pe ho.pe ha.pe) fun σ H Q h => tM_of ho ha.mo z h⟩
end
def mAppend : RMD := fun d xs st Q => ∃ n ds x, d = .ref n ∧ xs = [x] ∧ st[n]? = some (.lst ds) ∧ ds.length < sizeLine ∧ Q .non (st.set n (.lst (ds ++ [x])))
theorem z_append {K : PySem.W.Frag} : RzM K rAppend mAppend where
  mo := fun _ _ _ _ _ h ⟨n, ds, x, e1, e2, e3, z, q⟩ => ⟨n, ds, x, e1, e2, e3, z, h _ _ q⟩
  on := fun {H io F st v vs d ds Q} R n1 n2 ⟨n, ds', x, e1, e2, e3, z, q⟩ => by
    subst e1 e2
    cases n1 with
    | ref h =>
      obtain ⟨y, rfl, ny⟩ := n2.one
      obtain ⟨xs, h1, h2, h3⟩ := R.at h e3
      obtain ⟨R', s⟩ := R.writeL (ds' := ds' ++ [x]) h e3 (h2.append (.cons ny .nil)) (by rw [List.length_append]; exact z)
      exact ⟨_, xs, y, rfl, rfl, h1, by rw [h2.length]; exact z, q _ _ _ _ s R' .non⟩
def mPopAt : RMD := fun d xs st Q => ∃ n ds i k x, d = .ref n ∧ xs = [.int i] ∧ st[n]? = some (.lst ds) ∧ -(2 ^ 63) ≤ i ∧ i < 2 ^ 63 ∧ ixN ds.length i = some k ∧ ds[k]? = some x ∧ Q x (st.set n (.lst (ds.eraseIdx k)))
theorem erase_le {α : Type} (xs : List α) (k : Nat) : (xs.eraseIdx k).length ≤ xs.length := by
  rw [List.length_eraseIdx]
  split <;> omega
theorem z_popAt {K : PySem.W.Frag} : RzM K rPopAt mPopAt where
  mo := fun _ _ _ _ _ h ⟨n, ds, i, k, x, e1, e2, e3, z1, z2, z3, z4, q⟩ => ⟨n, ds, i, k, x, e1, e2, e3, z1, z2, z3, z4, h _ _ q⟩
  on := fun {H io F st v vs d ds Q} R n1 n2 ⟨n, ds', i, k, x, e1, e2, e3, z1, z2, z3, z4, q⟩ => by
    subst e1 e2
    cases n1 with
    | ref h =>
      obtain ⟨y, rfl, ny⟩ := n2.one
      cases ny
      obtain ⟨xs, h1, h2, h3⟩ := R.at h e3
      obtain ⟨y, h4, h5⟩ := h2.get z4
      obtain ⟨R', s⟩ := R.writeL (ds' := ds'.eraseIdx k) h e3 (h2.erase k) (Nat.le_trans (erase_le _ _) h3)
      exact ⟨_, xs, i, k, y, rfl, rfl, h1, z1, z2, by rw [h2.length]; exact (ixN_seq z3).1, h4, q _ _ _ _ s R' (s.den h5)⟩
def gSet (wo wi : DE) : DG := fun d env st Q => wo env st fun o s1 => wi env s1 fun i s2 => ∃ n ds k j, o = .ref n ∧ i = .int k ∧ s2[n]? = some (.lst ds) ∧ ixN ds.length k = some j ∧ Q env (s2.set n (.lst (ds.set j d)))
section
variable {X : Cx} {pos : Pos} {o i : Expr} {wo wi : DE}
theorem wg_sub (ho : WE X o wo) (hi : WE X i wi)
    (ha : ∀ v, assign (.Subscript o i pos) X.env v = (do
      let ov ← holding [v] (eval o X.env)
      let iv ← holding [v, ov] (eval i X.env)
      standAt pos
      holding [v, ov, iv] (setItem ov iv v)
      release [v, ov, iv] []) := by intro _; rfl) : WG X (.Subscript o i pos) (gSet wo wi) := by
  refine ⟨fun _ _ _ _ _ h q => ho.mo _ _ _ _ (fun _ _ q => hi.mo _ _ _ _ (fun _ _ ⟨n, ds, k, j, e1, e2, e3, e4, q⟩ => ⟨n, ds, k, j, e1, e2, e3, e4, h _ _ q⟩) q) q, PG_imp (pg_sub ho.pe hi.pe set_list ha) fun v σ H Q ⟨d, env, io, F, st, R, n1, q⟩ => ?_⟩
  refine tE_use ho.mo R q fun o s1 vo io1 F1 H1 q1 t1 R1 no => ?_
  refine tE_use hi.mo R1 q1 fun ix s2 vi io2 F2 H2 q2 t2 R2 ni => ?_
  obtain ⟨n, ds, k, j, e1, e2, e3, e4, q2⟩ := q2
  subst e1 e2
  cases ni
  cases no with
  | ref h =>
    have h' := t2.ix _ _ h
    obtain ⟨xs, h1, h2, h3⟩ := R2.at h' e3
    obtain ⟨R', s⟩ := R2.writeL (ds' := ds.set j d) h' e3 (h2.setAt j ((t1.trans t2).den n1)) (by rw [List.length_set]; exact h3)
    exact ⟨_, xs, k, j, rfl, rfl, h1, by rw [h2.length]; exact e4, q2 _ _ _ _ ((t1.trans t2).trans s) (R2.next s R')⟩
end
end DL
namespace DL
open PySem PySem.Spec PyProof.Rows L2
variable [Bs]
section
variable {X : Cx} {pos spos : Pos} {elt tg iter : Expr} {ifs : List Expr} {scope : Scope} {own : List (Str × Nat)} {wi : DI} {t : Tg} {c : DT} {w : DE} {m : Bool}
theorem moComp (mi : MoI wi) (mc : MoT c) (mw : MoE w) {vs : List Nat} : MoE (wComp m wi t c w vs) := fun _ _ _ _ h q => mi _ _ _ _ (fun _ _ _ ⟨z, q⟩ => ⟨z, moCompL mc mw (fun _ _ q => newL_mo h q) _ _ _ q⟩) q
theorem we_lc (hc : X.calm = true) (hN : X.N.Nodup) (hi : WI X tg iter wi) (ok : BlkOk X.N X.env.scope scope own) (hv : ∀ i ∈ t.ix, i ∈ own.map (·.2))
    (hg : ∀ (s : Shared) (H : Hp) (C : Addr) (cl : List (Str × Addr)) (fp : List Addr), PG (X.blk s H scope (compEnvC scope cl C X.env) fp) tg (t.tg X.K))
    (ht : ∀ (s : Shared) (H : Hp) (C : Addr) (cl : List (Str × Addr)) (fp : List Addr), WTs (X.blk s H scope (compEnvC scope cl C X.env) fp) ifs c)
    (he : ∀ (s : Shared) (H : Hp) (C : Addr) (cl : List (Str × Addr)) (fp : List Addr), WE (X.blk s H scope (compEnvC scope cl C X.env) fp) elt w) (hs : ∀ x, foldedSetIterable iter X.env x = pure x := by intro _; rfl) :
    WE X (.ListComp elt [⟨tg, iter, ifs, 0⟩] scope pos) (wComp m wi t c w (own.map (·.2))) :=
  ⟨moComp hi.mo (ht X.s_0 X.H_0 0 [] []).mo (he X.s_0 X.H_0 0 [] []).mo, PE_imp (pe_lc hc hN hi.pe ok hg (fun s H C cl fp => (ht s H C cl fp).pe) (fun s H C cl fp => (he s H C cl fp).pe) hs) fun σ H Q h =>
    tLc_of hi.mo (ht X.s_0 X.H_0 0 [] []).mo (he X.s_0 X.H_0 0 [] []).mo hv h⟩
theorem ws_setLc {i : Nat} {y : Str} {py : Pos} (hc : X.calm = true) (hN : X.N.Nodup) (hy : X.N[i]? = some y) (hyl : X.env.scope.names.lookup y = some .local)
    (hsw : swapsWith (.ListComp elt [⟨tg, iter, ifs, 0⟩] scope pos) (some (.Name y py)) spos.line X.env = pure true) (hi : WI X tg iter wi) (ok : BlkOk X.N X.env.scope scope own) (hv : ∀ i ∈ t.ix, i ∈ own.map (·.2))
    (hg : ∀ (s : Shared) (H : Hp) (C : Addr) (cl : List (Str × Addr)) (fp : List Addr), PG (X.blk s H scope (compEnvC scope cl C X.env) fp) tg (t.tg X.K))
    (ht : ∀ (s : Shared) (H : Hp) (C : Addr) (cl : List (Str × Addr)) (fp : List Addr), WTs (X.blk s H scope (compEnvC scope cl C X.env) fp) ifs c)
    (he : ∀ (s : Shared) (H : Hp) (C : Addr) (cl : List (Str × Addr)) (fp : List Addr), WE (X.blk s H scope (compEnvC scope cl C X.env) fp) elt w) (hs : ∀ x, foldedSetIterable iter X.env x = pure x := by intro _; rfl) :
    WS X (.Assign [.Name y py] (.ListComp elt [⟨tg, iter, ifs, 0⟩] scope pos) spos) (wAsg (wComp m wi t c w (own.map (·.2))) (gNm i)) := by
  have mo := moComp (m := m) (t := t) (vs := own.map (·.2)) hi.mo (ht X.s_0 X.H_0 0 [] []).mo (he X.s_0 X.H_0 0 [] []).mo
  refine ⟨fun _ _ _ _ l q => mo _ _ _ _ (fun _ _ q => l.nx _ _ q) q, PS_imp (ps_setLc (te := tE X.K w) (tt := tT X.K c) hc hN hy hyl hsw hi.pe ok hg (fun s H C cl fp => (ht s H C cl fp).pe) (fun s H C cl fp => (he s H C cl fp).pe) hs) fun D σ H ⟨env, io, F, st, R, q⟩ => ?_⟩
  show tLc _ _ _ _ _ σ H _
  refine tLc_of (m := m) (Q := fun x H1 => gName i x σ H1 D.nx) hi.mo (ht X.s_0 X.H_0 0 [] []).mo (he X.s_0 X.H_0 0 [] []).mo hv ?_
  exact tE_use mo R q fun d s1 v io1 F1 H1 q1 t1 R1 n1 => q1 _ _ _ _ t1 (R1.set n1)
end
def startE (N : List Str) (ds : List D) : En := ds.map some ++ List.replicate (N.length - ds.length) none
omit [Bs] in
theorem start_rel {K : PySem.W.Frag} {H : Hp} {io : List Addr} {F : Hp} {st : Sto} {N : List Str} {vs : List V} {ds : List D} (R : RelH K H io F st) (n : DenL K io F vs ds) : @Rel ⟨H, io, F⟩ K (L2.start N vs) H (startE N ds) io F st :=
  letI : Bs := ⟨H, io, F⟩
  { R with
    bs := Stp.refl
    sl := by unfold L2.start startE; simp [n.length]
    slot := fun i d e => by
      unfold startE at e
      unfold L2.start
      by_cases hi : i < ds.length
      · rw [List.getElem?_append_left (by simpa using hi)] at e
        rw [List.getElem?_append_left (by rw [List.length_map, n.length]; exact hi)]
        rw [List.getElem?_map] at e ⊢
        cases q : ds[i]? with
        | none => rw [q] at e; cases e
        | some d' =>
          rw [q] at e
          cases e
          obtain ⟨v, h1, h2⟩ := n.get q
          exact ⟨v, by rw [h1]; rfl, h2⟩
      · rw [List.getElem?_append_right (by simpa using hi)] at e
        have := List.mem_of_getElem? e
        rw [List.mem_replicate] at this
        cases this.2 }
/-- how a body ends -/
def bodyEnds (post : D → Sto → Prop) : DEnds := ⟨fun _ st => post .non st, post, fun _ _ => False, fun _ _ => False⟩
section
variable {P : Program} {w : World} {K : PySem.W.Frag} {mg : Str → Option Value} {base : Heap}
omit [Bs] in
theorem fn_ok {x qual : Str} {st : Stmt} {f : Addr} {fd : FuncData} {N ps : List Str} {k : Nat} {S : Spec} {wb : DS} (F : Fun K x qual st f fd) (sc : FnScope N ps (defScope st)) (hn : S.n = ps.length)
    (body : ∀ [Bs] (cdv : Value) (A : Around) (outer : List Env) (s : Shared) (H : Hp) (E : XK), Room k (A.deeper (envOfC qual (defScope st) s.heap.objs.size f cdv)) → A.guards = some [] → WB (cxOf CX0 P w K mg base N qual (defScope st) f cdv A outer s H E).nox (defBody st) wb)
    (vc : ∀ g sto, (S.args g).length = S.n → S.pre g sto → wb (bodyEnds (S.post g sto)) (startE N (S.args g)) sto) : FnG P w K mg base CX0 (k + 1) f fd ps (spOf K S) := by
  refine fnG_of F sc (fun vs H Q E h => ?_) (fun cdv A outer s H vs Q E _ hr hgd h => ?_)
  · obtain ⟨g, io, Fz, sto, z, R, n, p, q⟩ := h
    rw [n.length, z, hn]
  · obtain ⟨g, io, Fz, sto, z, R, n, p, q⟩ := h
    letI : Bs := ⟨H, io, Fz⟩
    have B := body cdv A outer s H E hr hgd
    refine ⟨_, B.pe.nox, startE N (S.args g), io, Fz, sto, start_rel R n, B.mo (bodyEnds (S.post g sto)) _ _ _ ?_ (vc g sto z p)⟩
    refine ⟨fun e s h => ?_, fun d s h => ?_, fun e s h => h.elim, fun e s h => h.elim⟩
    · exact fun σ' io' F' H' t R' => q .non s h .non io' F' H' t R'.toRelH .non
    · exact q d s h
mutual
def D.blw (n : Nat) : D → Bool
  | .tup ds => D.blwL n ds
  | .lst ds => D.blwL n ds
  | .scr ds => D.blwL n ds
  | .ref k => decide (k < n)
  | .fn _ io0 _ => decide (0 < n ∧ io0.length ≤ n)
  | .exc _ _ ds => decide (0 < n) && D.blwL n ds
  | .non => true
  | .bl _ => true
  | .int _ => true
  | .str _ => true
  | .dct _ => true
def D.blwL (n : Nat) : List D → Bool
  | [] => true
  | d :: r => d.blw n && D.blwL n r
end
def Cel.blw (n : Nat) : Cel → Bool
  | .lst ds => D.blwL n ds
  | .dead => true
  | .ins _ fs => D.blwL n (fs.map (·.2))
  | .dct _ _ => true
mutual
theorem Den.cut {K : PySem.W.Frag} {io io' : List Addr} {F : Hp} (h : ∀ (n : Nat) a, n < io.length → io'[n]? = some a → io[n]? = some a) : ∀ {v : V} {d : D}, Den K io' F v d → d.blw io.length = true → Den K io F v d
  | _, _, .non, _ => .non
  | _, _, .bl b, _ => .bl b
  | _, _, .int i, _ => .int i
  | _, _, .str x, _ => .str x
  | _, _, .dct e, _ => .dct e
  | _, _, .tup s r z, b => .tup s (DenL.cut h r (by simpa only [D.blw] using b)) z
  | _, _, .lst s r z, b => .lst s (DenL.cut h r (by simpa only [D.blw] using b)) z
  | _, _, .scr s r z, b => .scr s (DenL.cut h r (by simpa only [D.blw] using b)) z
  | _, _, .ref e, b => .ref (h _ _ (by simpa only [D.blw, decide_eq_true_eq] using b) e)
  | _, _, .fn e1 e2, b => .fn (fun n a e => h n a (Nat.lt_of_lt_of_le (List.getElem?_eq_some_iff.mp e).1 (of_decide_eq_true (show decide (0 < io.length ∧ _) = true by simpa only [D.blw] using b)).2) (e1 n a e)) e2
  | _, _, .exc n e x a1 a2 r, b => .exc n e x a1 a2 (DenL.cut h r (by simp only [D.blw, Bool.and_eq_true] at b; exact b.2))
theorem DenL.cut {K : PySem.W.Frag} {io io' : List Addr} {F : Hp} (h : ∀ (n : Nat) a, n < io.length → io'[n]? = some a → io[n]? = some a) : ∀ {vs : List V} {ds : List D}, DenL K io' F vs ds → D.blwL io.length ds = true → DenL K io F vs ds
  | _, _, .nil, _ => .nil
  | _, _, .cons a b, q => by
    simp only [D.blwL, Bool.and_eq_true] at q
    exact .cons (Den.cut h a q.1) (DenL.cut h b q.2)
end
mutual
theorem Den.blw {K : PySem.W.Frag} {io : List Addr} {F : Hp} (h0 : 0 < io.length) : ∀ {v : V} {d : D}, Den K io F v d → d.blw io.length = true
  | _, _, .non => rfl
  | _, _, .bl b => rfl
  | _, _, .int i => rfl
  | _, _, .str x => rfl
  | _, _, .dct e => rfl
  | _, _, .tup s r z => by simpa only [D.blw] using DenL.blw h0 r
  | _, _, .lst s r z => by simpa only [D.blw] using DenL.blw h0 r
  | _, _, .scr s r z => by simpa only [D.blw] using DenL.blw h0 r
  | _, _, .ref e => by simpa only [D.blw, decide_eq_true_eq] using (List.getElem?_eq_some_iff.mp e).1
  | _, _, .exc n e x a1 a2 r => by
    simp only [D.blw, Bool.and_eq_true, decide_eq_true_eq]
    exact ⟨h0, DenL.blw h0 r⟩
  | _, _, @Den.fn _ _ _ _ io0 _ e1 _ => by
    simp only [D.blw, decide_eq_true_eq]
    rcases Nat.lt_or_ge io.length io0.length with q | q
    · have h1 : io0[io.length]? = some io0[io.length] := List.getElem?_eq_getElem q
      exact absurd (List.getElem?_eq_some_iff.mp (e1 _ _ h1)).1 (Nat.lt_irrefl _)
    · exact ⟨h0, q⟩
theorem DenL.blw {K : PySem.W.Frag} {io : List Addr} {F : Hp} (h0 : 0 < io.length) : ∀ {vs : List V} {ds : List D}, DenL K io F vs ds → D.blwL io.length ds = true
  | _, _, .nil => rfl
  | _, _, .cons a b => by simp only [D.blwL, Bool.and_eq_true]; exact ⟨Den.blw h0 a, DenL.blw h0 b⟩
end
theorem DenF.cut {K : PySem.W.Frag} {io io' : List Addr} {F : Hp} (h : ∀ (n : Nat) a, n < io.length → io'[n]? = some a → io[n]? = some a) : ∀ {vs : List (Str × V)} {ds : List (Str × D)}, DenF K io' F vs ds → D.blwL io.length (ds.map (·.2)) = true → DenF K io F vs ds
  | _, _, .nil, _ => .nil
  | _, _, .cons a b, q => by
    simp only [List.map_cons, D.blwL, Bool.and_eq_true] at q
    exact .cons ⟨a.1, a.2.cut h q.1⟩ (DenF.cut h b q.2)
theorem DenF.blw {K : PySem.W.Frag} {io : List Addr} {F : Hp} (h0 : 0 < io.length) : ∀ {vs : List (Str × V)} {ds : List (Str × D)}, DenF K io F vs ds → D.blwL io.length (ds.map (·.2)) = true
  | _, _, .nil => rfl
  | _, _, .cons a b => by simp only [List.map_cons, D.blwL, Bool.and_eq_true]; exact ⟨a.2.blw h0, DenF.blw h0 b⟩
/-- the end of a def that forgets its own cells: the cells that were there, and what is handed back, know nothing of them -/
def popEnds (n : Nat) (st0 : Sto) (post : D → Sto → Prop) : D → Sto → Prop := fun d st' => ∃ st1 ex, st' = st1 ++ ex ∧ st1.length = n ∧ d.blw n = true ∧ (∀ (i : Nat) c, st1[i]? = some c → st0[i]? = some c ∨ c.blw n = true) ∧ post d st1
theorem pop_rel {K : PySem.W.Frag} {H H' : Hp} {io io' : List Addr} {F F' : Hp} {st st1 ex : Sto} (R : RelH K H io F st) (t : Stp H io F H' io' F') (R' : RelH K H' io' F' (st1 ++ ex)) (hl : st1.length = st.length)
    (hb : ∀ (i : Nat) c, st1[i]? = some c → st[i]? = some c ∨ c.blw st.length = true) : RelH K H' io F' st1 ∧ Stp H io F H' io F' := by
  obtain ⟨more, em, hm⟩ := t.ext
  have cutH : ∀ (n : Nat) a, n < io.length → io'[n]? = some a → io[n]? = some a := fun n a h e => by
    rw [em, List.getElem?_append_left h] at e; exact e
  have mem' : ∀ a ∈ io, a ∈ io' := fun a h => by rw [em]; exact List.mem_append_left _ h
  refine ⟨⟨R'.sub, by rw [hl]; exact R.len, R.nd, fun a ha => R'.there a (mem' a ha), fun n c a h1 h2 => ?_, fun q hq => let ⟨t1, t2, r⟩ := R'.tab q hq; ⟨t1, fun h => t2 (mem' _ h), r⟩⟩, ⟨⟨[], by simp, fun _ h => by cases h⟩, t.fr, t.keep, t.dom, t.fnw⟩⟩
  have hn : n < st1.length := (List.getElem?_eq_some_iff.mp h1).1
  have q := R'.cel n c a (by rw [List.getElem?_append_left hn]; exact h1) (t.ix _ _ h2)
  have b : c.blw io.length = true := by
    rw [R.len]
    rcases hb n c h1 with e | e
    · have z := R.cel n c a e h2
      have h0 : 0 < io.length := Nat.lt_of_le_of_lt (Nat.zero_le _) (List.getElem?_eq_some_iff.mp h2).1
      rw [← R.len]
      cases c with
      | lst ds => obtain ⟨_, _, vs, _, z⟩ := z; exact z.blw h0
      | dead => rfl
      | ins C fs => obtain ⟨_, _, dx, fv, _, _, z⟩ := z; exact DenF.blw h0 z
      | dct b kvs => rfl
    · exact e
  cases c with
  | lst ds => obtain ⟨q1, q2, vs, q3, q4⟩ := q; exact ⟨q1, q2, vs, q3, q4.cut cutH b⟩
  | dead => trivial
  | ins C fs => obtain ⟨q1, cc, dx, fv, qc, q3, q4⟩ := q; exact ⟨q1, cc, dx, fv, qc, q3, DenF.cut cutH q4 b⟩
  | dct b kvs => exact q
omit [Bs] in
theorem fn_okP {x qual : Str} {st : Stmt} {f : Addr} {fd : FuncData} {N ps : List Str} {k : Nat} {S : Spec} {wb : DS} (F : Fun K x qual st f fd) (sc : FnScope N ps (defScope st)) (hn : S.n = ps.length)
    (body : ∀ [Bs] (cdv : Value) (A : Around) (outer : List Env) (s : Shared) (H : Hp) (E : XK), Room k (A.deeper (envOfC qual (defScope st) s.heap.objs.size f cdv)) → A.guards = some [] → WB (cxOf CX0 P w K mg base N qual (defScope st) f cdv A outer s H E).nox (defBody st) wb)
    (vc : ∀ g sto, (S.args g).length = S.n → S.pre g sto → wb (bodyEnds (popEnds sto.length sto (S.post g sto))) (startE N (S.args g)) sto) : FnG P w K mg base CX0 (k + 1) f fd ps (spOf K S) := by
  refine fnG_of F sc (fun vs H Q E h => ?_) (fun cdv A outer s H vs Q E _ hr hgd h => ?_)
  · obtain ⟨g, io, Fz, sto, z, R, n, p, q⟩ := h
    rw [n.length, z, hn]
  · obtain ⟨g, io, Fz, sto, z, R, n, p, q⟩ := h
    letI : Bs := ⟨H, io, Fz⟩
    have B := body cdv A outer s H E hr hgd
    refine ⟨_, B.pe.nox, startE N (S.args g), io, Fz, sto, start_rel R n, B.mo (bodyEnds (popEnds sto.length sto (S.post g sto))) _ _ _ ?_ (vc g sto z p)⟩
    have fin : ∀ {d : D} {s : Sto} {v : V} {io' : List Addr} {F' H' : Hp}, popEnds sto.length sto (S.post g sto) d s → Stp H io Fz H' io' F' → RelH K H' io' F' s → Den K io' F' v d → Q v H' := fun {d s v io' F' H'} h t R' nd => by
      obtain ⟨st1, ex, rfl, hl, hd, hb, h⟩ := h
      obtain ⟨R2, t2⟩ := pop_rel R t R' hl hb
      refine q d st1 h v io F' H' t2 R2 (nd.cut (fun n a h e => ?_) (by rw [R.len]; exact hd))
      obtain ⟨more, em, hm⟩ := t.ext
      rw [em, List.getElem?_append_left h] at e
      exact e
    refine ⟨fun e s h => ?_, fun d s h => ?_, fun e s h => h.elim, fun e s h => h.elim⟩
    · exact fun σ' io' F' H' t R' => fin h t R'.toRelH .non
    · exact fun v io' F' H' t R' nd => fin h t R' nd
end
end DL
namespace DL
open PySem PySem.Spec PyProof.Rows L2
variable [Bs]
def lexG (r : Int → Int → Bool) (z : Nat → Nat → Bool) : List Int → List Int → Bool
  | x :: xs, y :: ys => if x = y then lexG r z xs ys else r x y
  | xs, ys => z xs.length ys.length
theorem lexAt_shift (e r : Nat → Bool) (z : Bool) : ∀ (k i : Nat), Ob.lexAt e r z (i + 1) k = Ob.lexAt (fun j => e (j + 1)) (fun j => r (j + 1)) z i k
  | 0, i => rfl
  | k + 1, i => by rw [Ob.lexAt_succ, Ob.lexAt_succ, lexAt_shift e r z k (i + 1)]
theorem lexAt_G (r : Int → Int → Bool) (z : Nat → Nat → Bool) (hz : ∀ a b, z (a + 1) (b + 1) = z a b) : ∀ ns ms : List Int,
    Ob.lexAt (fun j => decide (ns.getD j 0 = ms.getD j 0)) (fun j => r (ns.getD j 0) (ms.getD j 0)) (z ns.length ms.length) 0 (min ns.length ms.length) = lexG r z ns ms
  | [], ms => by
    rw [show min ([] : List Int).length ms.length = 0 by simp]
    cases ms <;> rfl
  | x :: xs, [] => rfl
  | x :: xs, y :: ys => by
    rw [show min (x :: xs).length (y :: ys).length = min xs.length ys.length + 1 by simp only [List.length_cons]; omega, Ob.lexAt_succ, lexAt_shift]
    simp only [List.getD_cons_zero, List.getD_cons_succ, List.length_cons, hz]
    rw [lexAt_G r z hz xs ys]
    by_cases h : x = y
    · simp [lexG, h]
    · simp [lexG, h]
theorem lexG_lt : ∀ ns ms : List Int, lexG (fun x y => decide (x < y)) (fun a b => decide (a < b)) ns ms = HT.lexLt ns ms
  | [], [] => rfl
  | [], _ :: _ => by simp [lexG, HT.lexLt]
  | _ :: _, [] => by simp [lexG, HT.lexLt]
  | x :: xs, y :: ys => by simp only [lexG, HT.lexLt]; rw [lexG_lt xs ys]
theorem lexG_gt : ∀ ns ms : List Int, lexG (fun x y => decide (x > y)) (fun a b => decide (a > b)) ns ms = HT.lexLt ms ns
  | [], [] => rfl
  | [], _ :: _ => by simp [lexG, HT.lexLt]
  | _ :: _, [] => by simp [lexG, HT.lexLt]
  | x :: xs, y :: ys => by
    simp only [lexG, HT.lexLt]
    rw [lexG_gt xs ys]
    by_cases h : x = y
    · simp [h]
    · have h' : ¬ y = x := fun e => h e.symm
      simp [h, h']
theorem lexG_le : ∀ ns ms : List Int, lexG (fun x y => decide (x ≤ y)) (fun a b => decide (a ≤ b)) ns ms = !HT.lexLt ms ns
  | [], [] => rfl
  | [], _ :: _ => by simp [lexG, HT.lexLt]
  | _ :: _, [] => by simp [lexG, HT.lexLt]
  | x :: xs, y :: ys => by
    simp only [lexG, HT.lexLt]
    rw [lexG_le xs ys]
    by_cases h : x = y
    · simp [h]
    · have h' : ¬ y = x := fun e => h e.symm
      simp only [h, h', if_false]
      by_cases q : x ≤ y
      · have : ¬ y < x := by omega
        simp [q, this]
      · have : y < x := by omega
        simp [q, this]
theorem lexG_ge : ∀ ns ms : List Int, lexG (fun x y => decide (x ≥ y)) (fun a b => decide (a ≥ b)) ns ms = !HT.lexLt ns ms
  | [], [] => rfl
  | [], _ :: _ => by simp [lexG, HT.lexLt]
  | _ :: _, [] => by simp [lexG, HT.lexLt]
  | x :: xs, y :: ys => by
    simp only [lexG, HT.lexLt]
    rw [lexG_ge xs ys]
    by_cases h : x = y
    · simp [h]
    · simp only [h, if_false]
      by_cases q : x ≥ y
      · have : ¬ x < y := by omega
        simp [q, this]
      · have : x < y := by omega
        simp [q, this]
def rCmpT (K : PySem.W.Frag) (f : List Int → List Int → Bool) : R2 := fun x y H Q => ∃ (a b : Addr) (ns ms : List Int), x = .ref a ∧ y = .ref b ∧ SqT K H a (ns.map V.int) ∧ SqT K H b (ms.map V.int) ∧ Q (.bl (f ns ms)) H
theorem tupsOf {X : Cx} {pins : List (Addr × Obj)} {s : Shared} {σ : L2.St} {H : Hp} {a : Addr} {ns : List Int} (I : Inv X pins σ H s) (ha : SqT X.K H a (ns.map V.int)) :
    ∃ its : Array Value, s.heap.IsTuple a its ∧ its.size = ns.length ∧ ∀ j (h : j < its.size), ∃ t, its[j] = .int (ns.getD j 0) t := by
  obtain ⟨its, r1, p1, _⟩ := I.tuple ha
  have i1 : IntsAre its ns := Vals.ints r1
  exact ⟨its.toArray, p1, by rw [List.size_toArray]; exact i1.length, fun j h1 => PyProof.Rows.IntsAre.int_at i1 _ _ (by simp at h1; simp [h1])⟩
theorem op_cmpT {X : Cx} {op : CmpOp} (r : Int → Int → Bool) (z : Nat → Nat → Bool) (hz : ∀ a b, z (a + 1) (b + 1) = z a b) (hop : ∀ v u, compareOp op v u = richCompare op v u)
    (base : ∀ (A : Around) (s : Shared) (i j : Int) (t u : Tok), Ob.RcOp op A s (.int i t) (.int j u) (r i j))
    (tups : ∀ {A : Around} {s : Shared} {l b : Addr} {items items2 : Array Value} {e r : Nat → Bool}, s.heap.IsTuple l items → s.heap.IsTuple b items2 → A.units < cLine → (∀ j (h1 : j < items.size) (h2 : j < items2.size), SeqAt.EqAt A.in1 s items[j] items2[j] (e j)) →
      (∀ j (h1 : j < items.size) (h2 : j < items2.size), e j = false → Ob.RcOp op A.in1 s items[j] items2[j] (r j)) → Ob.RcOp op A s (.ref l) (.ref b) (Ob.lexAt e r (z items.size items2.size) 0 (min items.size items2.size)))
    (hu : X.A.units < cLine) : OpR X (compareOp op) (rCmpT X.K (lexG r z)) := by
  intro pins s σ H x y v u Q I rx ry h
  obtain ⟨a, b, ns, ms, rfl, rfl, ha, hb, q⟩ := h
  cases rx
  cases ry
  obtain ⟨its, p1, z1, g1⟩ := tupsOf I ha
  obtain ⟨its2, p2, z2, g2⟩ := tupsOf I hb
  have R := tups (e := fun j => decide (ns.getD j 0 = ms.getD j 0)) (r := fun j => r (ns.getD j 0) (ms.getD j 0)) p1 p2 hu (fun j h1 h2 => by
    obtain ⟨t, et⟩ := g1 j h1
    obtain ⟨t', et'⟩ := g2 j h2
    rw [et, et', ← Bool.beq_eq_decide_eq]
    exact SeqAt.EqAt.int_int _ _ _ _) (fun j h1 h2 _ => by
    obtain ⟨t, et⟩ := g1 j h1
    obtain ⟨t', et'⟩ := g2 j h2
    rw [et, et']
    exact base _ _ _ _ _ _)
  rw [z1, z2, lexAt_G r z hz] at R
  rw [hop]
  exact R X.prog X.w X.xe _ ⟨.bl _, H, I, rfl, q⟩
theorem op_ltD {X : Cx} (hu : X.A.units < cLine) : OpR X (compareOp .Lt) (fun x y H Q => rI0 (fun i j => .bl (decide (i < j))) x y H Q ∨ rCmpT X.K (lexG (fun x y => decide (x < y)) (fun a b => decide (a < b))) x y H Q) :=
  op_lt.or (op_cmpT _ (fun a b => decide (a < b)) (fun a b => by simp) (fun _ _ => rfl) (fun _ _ _ _ _ _ => Ob.RcOp.lt_int _ _ _ _) Ob.RcOp.tuples_lt hu)
theorem op_gtD {X : Cx} (hu : X.A.units < cLine) : OpR X (compareOp .Gt) (fun x y H Q => rI0 (fun i j => .bl (decide (j < i))) x y H Q ∨ rCmpT X.K (lexG (fun x y => decide (x > y)) (fun a b => decide (a > b))) x y H Q) :=
  op_gt.or (op_cmpT _ (fun a b => decide (a > b)) (fun a b => by simp) (fun _ _ => rfl) (fun _ _ _ _ _ _ => Ob.RcOp.gt_int _ _ _ _) Ob.RcOp.tuples_gt hu)
theorem op_leD {X : Cx} (hu : X.A.units < cLine) : OpR X (compareOp .LtE) (fun x y H Q => rI0 (fun i j => .bl (decide (i ≤ j))) x y H Q ∨ rCmpT X.K (lexG (fun x y => decide (x ≤ y)) (fun a b => decide (a ≤ b))) x y H Q) :=
  op_le.or (op_cmpT _ (fun a b => decide (a ≤ b)) (fun a b => by simp) (fun _ _ => rfl) (fun _ _ _ _ _ _ => Ob.RcOp.le_int _ _ _ _) Ob.RcOp.tuples_le hu)
theorem op_geD {X : Cx} (hu : X.A.units < cLine) : OpR X (compareOp .GtE) (fun x y H Q => rI0 (fun i j => .bl (decide (j ≤ i))) x y H Q ∨ rCmpT X.K (lexG (fun x y => decide (x ≥ y)) (fun a b => decide (a ≥ b))) x y H Q) :=
  op_ge.or (op_cmpT _ (fun a b => decide (a ≥ b)) (fun a b => by simp) (fun _ _ => rfl) (fun _ _ _ _ _ _ => Ob.RcOp.ge_int _ _ _ _) Ob.RcOp.tuples_ge hu)
def dCmp (p : Int → Int → Bool) (f : List Int → List Int → Bool) : R2D := fun a b st Q => match a, b with
  | .int i, .int j => Q (.bl (p i j)) st
  | .tup x, .tup y => ∃ ns ms, D.ints x = some ns ∧ D.ints y = some ms ∧ Q (.bl (f ns ms)) st
  | _, _ => False
theorem z_cmp {K : PySem.W.Frag} {p : Int → Int → Bool} {f g : List Int → List Int → Bool} (h : ∀ ns ms, g ns ms = f ns ms) : Rz K (fun x y H Q => rI0 (fun i j => .bl (p i j)) x y H Q ∨ rCmpT K g x y H Q) (dCmp p f) where
  mo := fun a b s Q Q' h q => by
    unfold dCmp at q ⊢
    split at q
    · exact h _ _ q
    · obtain ⟨ns, ms, e1, e2, q⟩ := q; exact ⟨ns, ms, e1, e2, h _ _ q⟩
    · exact q
  on := fun {H io F st x y a b Q} R n1 n2 q => by
    unfold dCmp at q
    split at q
    · cases n1
      cases n2
      exact .inl ⟨_, _, rfl, rfl, kE_now R (.bl _) q⟩
    · obtain ⟨ns, ms, e1, e2, q⟩ := q
      cases ints_eq e1
      cases ints_eq e2
      cases n1 with
      | tup s1 r1 _ =>
        cases n2 with
        | tup s2 r2 _ =>
          rw [den_ints r1] at s1
          rw [den_ints r2] at s2
          refine .inr ⟨_, _, ns, ms, rfl, rfl, SqT_mono R.sub s1.t, SqT_mono R.sub s2.t, ?_⟩
          rw [h]
          exact kE_now R (.bl _) q
    · exact q.elim
def dLt : R2D := dCmp (fun i j => decide (i < j)) HT.lexLt
def dGt : R2D := dCmp (fun i j => decide (j < i)) fun ns ms => HT.lexLt ms ns
def dLe : R2D := dCmp (fun i j => decide (i ≤ j)) fun ns ms => !HT.lexLt ms ns
def dGe : R2D := dCmp (fun i j => decide (j ≤ i)) fun ns ms => !HT.lexLt ns ms
theorem z_lt {K : PySem.W.Frag} : Rz K (fun x y H Q => rI0 (fun i j => .bl (decide (i < j))) x y H Q ∨ rCmpT K (lexG (fun x y => decide (x < y)) (fun a b => decide (a < b))) x y H Q) dLt := z_cmp (p := fun i j => decide (i < j)) lexG_lt
theorem z_gt {K : PySem.W.Frag} : Rz K (fun x y H Q => rI0 (fun i j => .bl (decide (j < i))) x y H Q ∨ rCmpT K (lexG (fun x y => decide (x > y)) (fun a b => decide (a > b))) x y H Q) dGt := z_cmp (p := fun i j => decide (j < i)) lexG_gt
theorem z_le {K : PySem.W.Frag} : Rz K (fun x y H Q => rI0 (fun i j => .bl (decide (i ≤ j))) x y H Q ∨ rCmpT K (lexG (fun x y => decide (x ≤ y)) (fun a b => decide (a ≤ b))) x y H Q) dLe := z_cmp (p := fun i j => decide (i ≤ j)) lexG_le
theorem z_ge {K : PySem.W.Frag} : Rz K (fun x y H Q => rI0 (fun i j => .bl (decide (j ≤ i))) x y H Q ∨ rCmpT K (lexG (fun x y => decide (x ≥ y)) (fun a b => decide (a ≥ b))) x y H Q) dGe := z_cmp (p := fun i j => decide (j ≤ i)) lexG_ge
mutual
/-- no list, no cell within; dicts are allowed -/
def D.okd : D → Bool
  | .non => true
  | .bl _ => true
  | .int _ => true
  | .str _ => true
  | .tup ds => D.okdL ds
  | .lst _ => false
  | .scr _ => false
  | .dct _ => true
  | .ref _ => false
  | .fn _ _ _ => false
  | .exc _ _ _ => false
def D.okdL : List D → Bool
  | [] => true
  | d :: r => d.okd && D.okdL r
end
mutual
inductive DpD (K : PySem.W.Frag) (H : Hp) : V → PyData → Prop
  | non : DpD K H .non .none
  | bl (b : Bool) : DpD K H (.bl b) (.bool b)
  | int (i : Int) : DpD K H (.int i) (.int i)
  | str (x : Str) : DpD K H (.str x) (.str x)
  | tup {a : Addr} {xs : List V} {ds : List PyData} : SqT K H a xs → DpDL K H xs ds → DpD K H (.ref a) (.tuple ds)
  | dct {a : Addr} {kvs : List (Key × Key)} : H a = some (.dK (kvs.map fun p => (p.1, kV p.2))) → DpD K H (.ref a) (.dict (kvs.map fun p => (kPy p.1, kPy p.2)))
inductive DpDL (K : PySem.W.Frag) (H : Hp) : List V → List PyData → Prop
  | nil : DpDL K H [] []
  | cons {v : V} {vs : List V} {d : PyData} {ds : List PyData} : DpD K H v d → DpDL K H vs ds → DpDL K H (v :: vs) (d :: ds)
end
theorem key_reads {h : Heap} {k : Key} {v : Value} (r : RelV (kV k) v) : Reads h v (kPy k) [] := by
  cases k with
  | inl i => obtain ⟨t, rfl⟩ := r; exact .int i t
  | inr x => obtain ⟨t, rfl⟩ := r; exact .str x t
theorem pairs_read {h : Heap} : ∀ (kvs : List (Key × Key)) (vs : List (Key × Value)), KV (kvs.map fun p => (p.1, kV p.2)) vs → PyProof.V.PairsRead h kPy vs (kvs.map fun p => (kPy p.1, kPy p.2)) []
  | [], vs, r => by rw [List.map_nil] at r; cases r; exact .nil
  | p :: kvs, vs, r => by
    rw [List.map_cons] at r
    cases r with
    | @cons a b as bs h1 t =>
      obtain ⟨b1, b2⟩ := b
      obtain ⟨e1, e2⟩ := h1
      subst e1
      exact .cons (as := []) (key_reads e2) (pairs_read kvs bs t)
section
variable {X : Cx} {pins : List (Addr × Obj)} {σ : L2.St} {H : Hp} {s : Shared}
mutual
theorem DpD.reads (I : Inv X pins σ H s) : ∀ {v : V} {d : PyData}, DpD X.K H v d → ∀ u : Value, RelV v u → ∃ as, Reads s.heap u d as ∧ sysModules ∉ as
  | _, _, .non, u, r => by cases r; exact ⟨_, .none, by simp⟩
  | _, _, .bl b, u, r => by cases r; exact ⟨_, .bool b, by simp⟩
  | _, _, .int i, u, r => by obtain ⟨t, rfl⟩ := r; exact ⟨_, .int i t, by simp⟩
  | _, _, .str x, u, r => by obtain ⟨t, rfl⟩ := r; exact ⟨_, .str x t, by simp⟩
  | _, _, .tup hs ha, u, r => by
    cases r
    obtain ⟨its, rv, ⟨o, ho, hc, n, hd⟩, _⟩ := I.tuple hs
    obtain ⟨as, hr, hn⟩ := DpDL.reads I ha its rv
    exact ⟨_, Reads.tuple ho hc hd hr, hn⟩
  | _, _, .dct e, u, r => by
    cases r
    obtain ⟨z, hs, vs, rk, hd⟩ := dk_of I.hok e
    refine ⟨_, PyProof.V.reads_dictOf (enc := kPy) (fun k key hk => key_reads (keyIs_rel hk)) hd (pairs_read _ vs rk), ?_⟩
    have hs := beq_eq_false_iff_ne.mp hs
    simp only [List.mem_singleton]
    exact fun z => hs z.symm
theorem DpDL.reads (I : Inv X pins σ H s) : ∀ {vs : List V} {ds : List PyData}, DpDL X.K H vs ds → ∀ us : List Value, Vals vs us → ∃ as, ReadsAll s.heap us ds as ∧ sysModules ∉ as
  | _, _, .nil, us, r => by cases r; exact ⟨_, .nil, by simp⟩
  | _, _, .cons h1 h2, us, r => by
    cases r with
    | cons r1 r2 =>
      obtain ⟨as, q1, n1⟩ := DpD.reads I h1 _ r1
      obtain ⟨bs, q2, n2⟩ := DpDL.reads I h2 _ r2
      exact ⟨_, .cons q1 q2, fun z => (List.mem_append.mp z).elim n1 n2⟩
end
end
section
variable {K : PySem.W.Frag} {io : List Addr} {F H : Hp}
mutual
theorem den_dpd (hs : ∀ a o, F a = some o → H a = some o) : ∀ {v : V} {d : D}, Den K io F v d → d.okd = true → DpD K H v d.py
  | _, _, .non, _ => by simp only [D.py]; exact .non
  | _, _, .bl b, _ => by simp only [D.py]; exact .bl b
  | _, _, .int i, _ => by simp only [D.py]; exact .int i
  | _, _, .str x, _ => by simp only [D.py]; exact .str x
  | _, _, .tup s r _, h => by simp only [D.py]; exact .tup (SqT_mono hs s.t) (den_dpdL hs r (by simpa only [D.okd] using h))
  | _, _, .dct e, _ => by simp only [D.py]; exact .dct (hs _ _ e)
  | _, _, .lst _ _ _, h => by simp [D.okd] at h
  | _, _, .scr _ _ _, h => by simp [D.okd] at h
  | _, _, .ref _, h => by simp [D.okd] at h
  | _, _, .fn _ _, h => by simp [D.okd] at h
theorem den_dpdL (hs : ∀ a o, F a = some o → H a = some o) : ∀ {vs : List V} {ds : List D}, DenL K io F vs ds → D.okdL ds = true → DpDL K H vs (D.pyL ds)
  | _, _, .nil, _ => .nil
  | _, _, .cons a b, h => by
    simp only [D.okdL, Bool.and_eq_true] at h
    exact .cons (den_dpd hs a h.1) (den_dpdL hs b h.2)
end
theorem rd_dpd {st : Sto} (R : RelH K H io F st) {v : V} {d : D} (n : Den K io F v d) (h : (rd st d).okd = true) : DpD K H v (rd st d).py := by
  have e : rd st d = d := by
    refine rd_not (fun ds e => ?_) fun n e => ?_ <;> (rw [e] at h; simp [D.okd] at h)
  rw [e] at h ⊢
  exact den_dpd R.sub n h
end
def rRepr (K : PySem.W.Frag) : List V → Hp → VK → Prop := fun xs H Q => ∃ x d, xs = [x] ∧ ((Dp K H x d ∧ d.canLay0 = true) ∨ DpD K H x d) ∧ d.showable = true ∧ d.depth ≤ 60 ∧ d.shown.length ≤ sizeLine ∧ Q (.str d.shown) H
theorem call_reprD {X : Cx} (hgd : X.A.guards = some []) (hu : X.A.units + 64 < cLine) : CallR X (.builtin "repr") (rRepr X.K) := by
  intro pins s σ H xs us Q I r h
  obtain ⟨x, d, rfl, hd, hs, hz, hl, q⟩ := h
  obtain ⟨u, rfl, ru⟩ := vals1 r
  have rd : ∃ as, Reads s.heap u d as ∧ (d.hasDict = true → sysModules ∉ as) := by
    rcases hd with ⟨hd, hc⟩ | hd
    · obtain ⟨as, rd⟩ := Dp.reads I d x u hd ru
      exact ⟨as, rd, PyData.noDict_hsm (PyData.hasDict_of_canLay d hc)⟩
    · obtain ⟨as, rd, n⟩ := DpD.reads I hd u ru
      exact ⟨as, rd, fun _ => n⟩
  obtain ⟨as, rd, hsm⟩ := rd
  cases x with
  | ref a =>
    cases ru
    exact repr_of_reads' rd hs hsm hgd (by omega) (fun b o e => e) (fun h' u tk hk => ⟨.str d.shown, H, I.kept hk, ⟨u, rfl⟩, q⟩) hl
  | non => cases ru; cases rd; exact PySem.P.repr_of_none ⟨.str _, H, I.tok _, ⟨_, rfl⟩, q⟩
  | bl b => cases ru; cases rd; exact PySem.P.repr_of_bool ⟨.str _, H, I.tok _, ⟨_, rfl⟩, q⟩
  | int i =>
    obtain ⟨t, rfl⟩ := ru
    cases rd
    exact PySem.P.repr_of_int (by simpa [PyData.showable] using hs) ⟨.str _, H, I.tok _, ⟨_, rfl⟩, q⟩
  | str z =>
    obtain ⟨t, rfl⟩ := ru
    cases rd
    exact PySem.P.repr_of_str ⟨.str _, H, I.tok _, ⟨_, rfl⟩, q⟩ hl
  | byt _ => rcases hd with ⟨hd, _⟩ | hd <;> cases hd
  | flt _ => rcases hd with ⟨hd, _⟩ | hd <;> cases hd
  | ty _ => rcases hd with ⟨hd, _⟩ | hd <;> cases hd
mutual
/-- all numbers below 10 ^ 12 -/
def D.sml : D → Bool
  | .non => true
  | .bl _ => true
  | .int i => decide (i.natAbs < 10 ^ 12)
  | .str s => PyData.leavesShort 13 (.str s)
  | .tup ds => D.smlL ds
  | .lst ds => D.smlL ds
  | .scr ds => D.smlL ds
  | .dct kvs => (PyData.dict (kvs.map fun p => (kPy p.1, kPy p.2))).leavesShort 13 && (PyData.dict (kvs.map fun p => (kPy p.1, kPy p.2))).showable
  | .ref _ => false
  | .fn _ _ _ => false
  | .exc _ _ _ => false
def D.smlL : List D → Bool
  | [] => true
  | d :: r => d.sml && D.smlL r
end
mutual
/-- how many things -/
def D.blk : D → Nat
  | .str s => s.cps.size
  | .tup ds => D.blkL ds
  | .lst ds => D.blkL ds
  | .scr ds => D.blkL ds
  | .non => 0
  | .bl _ => 0
  | .int _ => 0
  | .dct kvs => (PyData.dict (kvs.map fun p => (kPy p.1, kPy p.2))).bulk
  | .ref _ => 0
  | .fn _ _ _ => 0
  | .exc _ _ _ => 0
def D.blkL : List D → Nat
  | [] => 0
  | d :: r => d.blk + 1 + D.blkL r
end
mutual
theorem py_blk : ∀ d : D, d.py.bulk = d.blk
  | .non => rfl
  | .bl _ => rfl
  | .int _ => rfl
  | .str _ => rfl
  | .dct _ => rfl
  | .ref _ => rfl
  | .fn _ _ _ => rfl
  | .exc _ _ _ => rfl
  | .tup ds => by simp only [D.py, PyData.bulk, D.blk]; rw [pyL_blk ds]
  | .lst ds => by simp only [D.py, PyData.bulk, D.blk]; rw [pyL_blk ds]
  | .scr ds => by simp only [D.py, PyData.bulk, D.blk]; rw [pyL_blk ds]
theorem pyL_blk : ∀ ds : List D, PyData.bulkAll (D.pyL ds) = D.blkL ds
  | [] => rfl
  | d :: r => by simp only [D.pyL, PyData.bulkAll, D.blkL]; rw [py_blk d, pyL_blk r]
end
mutual
theorem py_short : ∀ d : D, d.sml = true → d.py.leavesShort 13 = true ∧ d.py.showable = true
  | .non, _ => ⟨rfl, rfl⟩
  | .bl _, _ => ⟨rfl, rfl⟩
  | .int i, h => by
    have h' : i.natAbs < 10 ^ 12 := by simpa [D.sml] using h
    refine ⟨?_, ?_⟩
    · simp only [D.py, PyData.leavesShort, decide_eq_true_eq]
      exact PyData.shown_int_le h'
    · simp only [D.py, PyData.showable, decide_eq_true_eq]
      have : i.natAbs.log2 ≤ 40 := by
        by_cases h0 : i.natAbs = 0
        · rw [h0]; decide
        · have : i.natAbs.log2 < 41 := (Nat.log2_lt h0).mpr (by omega)
          omega
      omega
  | .str s, h => ⟨by simpa [D.py, D.sml] using h, rfl⟩
  | .tup ds, h => by simp only [D.py, PyData.leavesShort, PyData.showable]; exact pyL_short ds (by simpa only [D.sml] using h)
  | .lst ds, h => by simp only [D.py, PyData.leavesShort, PyData.showable]; exact pyL_short ds (by simpa only [D.sml] using h)
  | .scr ds, h => by simp only [D.py, PyData.leavesShort, PyData.showable]; exact pyL_short ds (by simpa only [D.sml] using h)
  | .dct kvs, h => by
    simp only [D.sml, Bool.and_eq_true] at h
    exact h
  | .ref _, h => by simp [D.sml] at h
theorem pyL_short : ∀ ds : List D, D.smlL ds = true → PyData.leavesShortAll 13 (D.pyL ds) = true ∧ PyData.showableAll (D.pyL ds) = true
  | [], _ => ⟨rfl, rfl⟩
  | d :: r, h => by
    simp only [D.smlL, Bool.and_eq_true] at h
    have h1 := py_short d h.1
    have h2 := pyL_short r h.2
    simp only [D.pyL, PyData.leavesShortAll, PyData.showableAll, Bool.and_eq_true]
    exact ⟨⟨h1.1, h2.1⟩, h1.2, h2.2⟩
end
/-- may be shown -/
structure D.Fit (d : D) : Prop where
  ok : d.ok = true ∨ d.okd = true
  can : d.py.showable = true
  len : d.py.shown.length ≤ sizeLine
  dep : d.dep ≤ 60
theorem fit_mk' {d : D} (ok : d.ok = true ∨ d.okd = true) (sml : d.sml = true) (blk : d.blk ≤ 1000000) (dep : d.dep ≤ 60) : d.Fit := by
  have hs := py_short _ sml
  refine ⟨ok, hs.2, ?_, dep⟩
  refine PyData.shown_fits_bulk (B := 13) (by decide) (by decide) hs.1 ?_
  rw [py_blk]
  omega
theorem fit_mk {d : D} (ok : d.ok = true) (sml : d.sml = true) (blk : d.blk ≤ 1000000) (dep : d.dep ≤ 60) : d.Fit := fit_mk' (.inl ok) sml blk dep
def D.rep (d : D) : Str := d.py.shown
def bRepr : RLD := fun ds st Q => ∃ d, ds = [d] ∧ (rd st d).Fit ∧ Q (.str (rd st d).rep) st
theorem z_repr {K : PySem.W.Frag} : RzL K (rRepr K) bRepr where
  mo := fun ds s Q Q' h ⟨d, e, f, q⟩ => ⟨d, e, f, h _ _ q⟩
  on := fun {H io F st vs ds Q} R nl ⟨d, e, f, q⟩ => by
    subst e
    obtain ⟨v, rfl, n⟩ := nl.one
    exact ⟨v, _, rfl, f.ok.imp (fun ok => ⟨rd_dp R n ok, py_ok _ ok⟩) (fun ok => rd_dpd R n ok), f.can, by rw [py_dep]; exact f.dep, f.len, kE_now R (.str _) q⟩
theorem tup_mul_same (l : Addr) (items : Array Value) (n : Nat) (dd : Option Addr) (sl : Array (Option Value)) (x : Int) (u : Tok) (c0 : (decide (x < -(2 ^ 63)) || decide (x ≥ 2 ^ 63)) = false) (c1 : (items.isEmpty || x == 1) = true) :
    Meets (Builtin.«tuple.__mul__» ⟨[.ref l, .int x u], []⟩) (fun _ R s => s.heap.get? l = some { cls := .type "tuple", dict := dd, data := .seq items n, slots := sl } ∧ R (.ok (.ret (Value.ref l))) s) :=
  .of_wp fun prog w A R s h => by
    obtain ⟨hp, g, d, tk, os⟩ := s
    obtain ⟨hl, h⟩ := h
    have f1 := AutoSeq1.idx_int
    have hT : (⟨hp, g, d, tk, os⟩ : Shared).TypeIs (.ref l) "tuple" := ⟨_, hl, rfl⟩
    wp_walk using wpAny_loadPart' hl
    repeat (first
      | (refine wpAny_ite_false (decide_eq_false (by rw [c0]; exact Bool.false_ne_true)) ?_; wp_walk using wpAny_loadPart' hl)
      | (refine wpAny_ite_true (decide_eq_true c1) ?_; wp_walk using wpAny_loadPart' hl))
    exact ⟨_, rfl, h⟩
theorem tup_mul_none (l : Addr) (items : Array Value) (n : Nat) (dd : Option Addr) (sl : Array (Option Value)) (x : Int) (u : Tok) (c0 : (decide (x < -(2 ^ 63)) || decide (x ≥ 2 ^ 63)) = false) (c1 : (items.isEmpty || x == 1) = false) (c2 : (decide (x ≤ 0) || items.isEmpty) = true) :
    Meets (Builtin.«tuple.__mul__» ⟨[.ref l, .int x u], []⟩) (fun _ R s => s.heap.get? l = some { cls := .type "tuple", dict := dd, data := .seq items n, slots := sl } ∧
      R (.ok (.ret (Value.ref s.heap.objs.size))) { s with heap := s.heap.push { cls := Value.type "tuple", data := Data.seq #[] }, toks := s.toks }) :=
  .of_wp fun prog w A R s h => by
    obtain ⟨hp, g, d, tk, os⟩ := s
    obtain ⟨hl, h⟩ := h
    have f1 := AutoSeq1.idx_int
    wp_walk using wpAny_loadPart' hl
    repeat (first
      | (refine wpAny_ite_false (decide_eq_false (by rw [c0]; exact Bool.false_ne_true)) ?_; wp_walk using wpAny_loadPart' hl)
      | (refine wpAny_ite_false (decide_eq_false (by rw [c1]; exact Bool.false_ne_true)) ?_; wp_walk using wpAny_loadPart' hl)
      | (refine wpAny_ite_true (decide_eq_true c2) ?_; wp_walk using wpAny_loadPart' hl))
    exact ⟨_, rfl, h⟩
def rRep1 (K : PySem.W.Frag) : R2 := fun x y H Q => ∃ l k xs, x = .ref l ∧ y = .int k ∧ SqT K H l xs ∧ -(2 ^ 63) ≤ k ∧ k < 2 ^ 63 ∧ (((xs = [] ∨ k = 1) ∧ Q (.ref l) H) ∨ (xs ≠ [] ∧ k ≤ 0 ∧ XtK H Q []) ∨ (xs ≠ [] ∧ 2 ≤ k ∧ k ≤ 1000 ∧ xs.length ≤ 1000 ∧ XtK H Q (List.replicate k.toNat xs).flatten))
theorem op_rep1 {X : Cx} : OpR X (binaryOp .Mult) (rRep1 X.K) := by
  intro pins s σ H x y v u Q I rx ry h
  obtain ⟨l, k, xs, rfl, rfl, hT, k0, k1, h⟩ := h
  cases rx
  obtain ⟨t, rfl⟩ := ry
  obtain ⟨its, r, ⟨⟨cls, dd, data, sl⟩, ho, hc, n, hd⟩, hs⟩ := I.tuple hT
  simp only at hc hd
  subst hc hd
  have c0 : (decide (k < -(2 ^ 63)) || decide (k ≥ 2 ^ 63)) = false := by
    rw [decide_eq_false (by omega), decide_eq_false (by omega)] <;> rfl
  have emp : its.toArray.isEmpty = decide (xs = []) := by
    cases r with
    | nil => rfl
    | cons _ _ => rfl
  have road : ∀ {Q₁ : Value → Shared → Prop}, wpAny (model X.prog X.w) X.A (call (.builtin "tuple.__mul__") [.ref l, .int k t]) Q₁ X.xe s → wpAny (model X.prog X.w) X.A (binaryOp .Mult (.ref l) (.int k t)) Q₁ X.xe s := fun {Q₁} hq =>
    wpAny_binaryOp_repeat_ref (T := "tuple") (U := "int") (by decide) ⟨_, ho, rfl⟩ (fun s' => typeIs_int s' k t) noFill_tuple_mul F.fills_int_mul F.slot_int_rmul repeat_tuple F.slot_int_index.lookup
      (call_meets F.slot_int_rmul (typeIs_int s k t) F.entry_int_rmul (F.args_int_rmul_2 _ _) (int_rmul_tuple k t l its.toArray n dd sl) ⟨ho, rfl, ⟨_, ho, rfl⟩, hq⟩)
  rcases h with ⟨hk, q⟩ | ⟨hne, hk, q⟩ | ⟨hne, hk, hk2, hx, q⟩
  · refine road (call_meets F.slot_tuple_mul ⟨_, ho, rfl⟩ F.entry_tuple_mul (F.args_tuple_mul_2 _ _) (tup_mul_same l its.toArray n dd sl k t c0 ?_) ⟨ho, .ref l, H, I, rfl, q⟩)
    rw [emp]
    rcases hk with e | e
    · rw [decide_eq_true e]; rfl
    · subst e; exact Bool.or_true _
  · have e1 : (its.toArray.isEmpty || k == 1) = false := by
      rw [emp, decide_eq_false hne, Bool.false_or]
      exact beq_eq_false_iff_ne.mpr (by omega)
    refine road (call_meets F.slot_tuple_mul ⟨_, ho, rfl⟩ F.entry_tuple_mul (F.args_tuple_mul_2 _ _) (tup_mul_none l its.toArray n dd sl k t c0 e1 ?_) ⟨ho, ?_⟩)
    · rw [decide_eq_true hk]; rfl
    · exact new_tup (its := []) I (Nat.zero_le _) .nil q
  · have le := r.length
    have e0 : its.toArray.isEmpty = false := by rw [emp]; exact decide_eq_false hne
    have e1 : (its.toArray.isEmpty || k == 1) = false := by rw [e0, Bool.false_or]; exact beq_eq_false_iff_ne.mpr (by omega)
    have e2 : (decide (k ≤ 0) || its.toArray.isEmpty) = false := by rw [e0, Bool.or_false]; exact decide_eq_false (by omega)
    have mm : k.toNat * xs.length ≤ 1000 * 1000 := Nat.mul_le_mul (by omega) hx
    have sz : its.toArray.size = xs.length := by rw [List.size_toArray]; exact le.symm
    have ml : ((its.toArray.size : Nat) : Int) * k ≤ 1000000 := by
      rw [sz, show k = ((k.toNat : Nat) : Int) by omega, ← Int.natCast_mul, Nat.mul_comm]
      omega
    have fl : (List.replicate k.toNat its).flatten.length ≤ sizeLine := by rw [PyProof.Rows.lm_len_rep_flat, ← le, sizeLine_eq]; omega
    refine road (call_meets F.slot_tuple_mul ⟨_, ho, rfl⟩ F.entry_tuple_mul (F.args_tuple_mul_2 _ _) (tuple_mulW l its.toArray n dd sl k t c0 e1 e2 (by omega) (by unfold Builtin.Tuple.tupleTooMany; rw [sizeLine_eq]; exact decide_eq_false (by omega)) (by rw [size_rep, List.size_toArray]; exact fl)) ⟨ho, ?_⟩)
    rw [size_rep]
    exact new_tup I (by rw [PyProof.Rows.lm_len_rep_flat, sizeLine_eq]; omega) (r.rep k.toNat) q
def dMul : R2D := fun a b st Q => match rd st a, b with
  | .int i, .int j => CMul i j ∧ Q (.int (i * j)) st
  | .lst x, .int k => -(2 ^ 63) ≤ k ∧ k < 2 ^ 63 ∧ x.length * k.toNat ≤ sizeLine ∧ Q (.lst (List.replicate k.toNat x).flatten) st
  | .tup x, .int k => -(2 ^ 63) ≤ k ∧ k ≤ 1000 ∧ x.length ≤ 1000 ∧ Q (.tup (List.replicate k.toNat x).flatten) st
  | _, _ => False
/-- a list whose cell is one's own -/
def dMulM : R2D := fun a b st Q => ∃ x k, rd st a = .lst x ∧ b = .int k ∧ -(2 ^ 63) ≤ k ∧ k < 2 ^ 63 ∧ x.length * k.toNat ≤ sizeLine ∧ Q (.ref st.length) (st ++ [.lst (List.replicate k.toNat x).flatten])
def rMulD (K : PySem.W.Frag) : R2 := fun x y H Q => rI CMul (fun i j => .int (i * j)) x y H Q ∨ rRep x y H Q ∨ rRep1 K x y H Q
theorem op_mulD {X : Cx} : OpR X (binaryOp .Mult) (rMulD X.K) := op_mul.or (op_rep.or op_rep1)
theorem flat_len {α : Type} (x : List α) : ∀ n : Nat, (List.replicate n x).flatten.length = x.length * n
  | 0 => by simp
  | n + 1 => by rw [List.replicate_succ, List.flatten_cons, List.length_append, flat_len x n, Nat.mul_succ, Nat.add_comm]
theorem flat_nil {α : Type} : ∀ n : Nat, (List.replicate n ([] : List α)).flatten = []
  | 0 => rfl
  | n + 1 => by rw [List.replicate_succ, List.flatten_cons, flat_nil n]; rfl
theorem z_mul {X : Cx} : Rz X.K (rMulD X.K) dMul where
  mo := fun a b s Q Q' h q => by
    unfold dMul at q ⊢
    split at q
    · exact ⟨q.1, h _ _ q.2⟩
    · exact ⟨q.1, q.2.1, q.2.2.1, h _ _ q.2.2.2⟩
    · exact ⟨q.1, q.2.1, q.2.2.1, h _ _ q.2.2.2⟩
    · exact q
  on := fun {H io F st x y a b Q} R n1 n2 q => by
    unfold dMul at q
    split at q
    · rename_i i j e1
      cases rd_int e1
      cases n1
      cases n2
      exact .inl ⟨_, _, rfl, rfl, q.1, kE_now R (.int _) q.2⟩
    · rename_i xs k e1
      obtain ⟨p, vs, rfl, h1, h2, h3⟩ := rd_lst R n1 e1
      cases n2
      exact .inr (.inl ⟨p, k, vs, rfl, rfl, h1, q.1, q.2.1, by rw [h2.length]; exact q.2.2.1, lay_lst R (h2.flat _) (by rw [flat_len]; exact q.2.2.1) q.2.2.2⟩)
    · rename_i xs k e1
      cases rd_tup e1
      cases n2
      cases n1 with
      | @tup p vs _ s r z =>
        obtain ⟨q1, q2, q3, q⟩ := q
        have hz : (List.replicate k.toNat xs).flatten.length ≤ sizeLine := by
          rw [flat_len, sizeLine_eq]
          have : xs.length * k.toNat ≤ 1000 * 1000 := Nat.mul_le_mul q3 (by omega)
          omega
        by_cases hx : xs = []
        · subst hx
          cases r
          rw [flat_nil] at q
          exact .inr (.inr ⟨p, k, [], rfl, rfl, SqT_mono R.sub s.t, q1, by omega, .inl ⟨.inl rfl, kE_now R (.tup s .nil z) q⟩⟩)
        · have hv : vs ≠ [] := fun e => hx (by subst e; cases r; rfl)
          by_cases h1 : k = 1
          · subst h1
            have e : (List.replicate (1 : Int).toNat xs).flatten = xs := by simp
            rw [e] at q
            exact .inr (.inr ⟨p, 1, vs, rfl, rfl, SqT_mono R.sub s.t, by omega, by omega, .inl ⟨.inr rfl, kE_now R (.tup s r z) q⟩⟩)
          · by_cases h0 : k ≤ 0
            · have e : k.toNat = 0 := by omega
              rw [e] at q
              exact .inr (.inr ⟨p, k, vs, rfl, rfl, SqT_mono R.sub s.t, by omega, by omega, .inr (.inl ⟨hv, h0, lay_tup R .nil (Nat.zero_le _) q⟩)⟩)
            · exact .inr (.inr ⟨p, k, vs, rfl, rfl, SqT_mono R.sub s.t, by omega, by omega, .inr (.inr ⟨hv, by omega, q2, by rw [r.length]; exact q3, lay_tup R (r.flat _) hz q⟩)⟩)
    · exact q.elim
theorem z_mulM {X : Cx} : Rz X.K (rMulD X.K) dMulM where
  mo := fun a b s Q Q' h ⟨x, k, e1, e2, h1, h2, h3, q⟩ => ⟨x, k, e1, e2, h1, h2, h3, h _ _ q⟩
  on := fun {H io F st x y a b Q} R n1 n2 ⟨xs, k, e1, e2, q1, q2, q3, q⟩ => by
    subst e2
    obtain ⟨p, vs, rfl, h1, h2, h3⟩ := rd_lst R n1 e1
    cases n2
    exact .inr (.inl ⟨p, k, vs, rfl, rfl, h1, q1, q2, by rw [h2.length]; exact q3, lay_cell R (h2.flat _) (by rw [flat_len]; exact q3) q⟩)
end DL
namespace DL
open PySem PySem.Spec PyProof.Rows L2
variable [Bs]
theorem bb_len : bootBuiltins "len" = some (.builtin "len") := by decide +kernel
theorem bb_abs : bootBuiltins "abs" = some (.builtin "abs") := by decide +kernel
theorem bb_repr : bootBuiltins "repr" = some (.builtin "repr") := by decide +kernel
theorem bb_min : bootBuiltins "min" = some (.builtin "min") := by decide +kernel
theorem bb_int : bootBuiltins "int" = some (.type "int") := by decide +kernel
theorem bb_tuple : bootBuiltins "tuple" = some (.type "tuple") := by decide +kernel
/-- a law's def, at the end -/
theorem law_end {K : PySem.W.Frag} {S : Spec} (hn : S.n = 1) (g : List Int → S.G) (ha : ∀ ns, S.args (g ns) = [.scr (ns.map .int)]) (hpre : ∀ ns : List Int, ns.length ≤ 63 → S.pre (g ns) []) (hpost : ∀ x st d st', S.post x st d st' → d = .bl true) (H : Hp) (a : Addr) (ns : List Int) (hl : ns.length ≤ 63) (hT : ∀ p ∈ tabCs K, H p.2 = some (.tbl #[])) (hS : SqL K H a (ns.map V.int)) :
    spOf K S [.ref a] H (fun v _ => v = .bl true) fun _ _ _ => False := by
  have den : ∀ ns : List Int, DenL K [] H (ns.map V.int) (ns.map D.int) := fun ns => by
    induction ns with
    | nil => exact .nil
    | cons n r ih => exact .cons (.int n) ih
  have hz : (ns.map D.int).length ≤ sizeLine := by rw [List.length_map, sizeLine_eq]; omega
  let F : Hp := fun b => match H b with
    | some (.tbl _) => none
    | o => o
  have fS : ∀ b o, F b = some o → H b = some o := fun b o e => by
    have e : (match H b with | some (.tbl _) => none | o => o) = some o := e
    split at e
    · cases e
    · exact e
  have fN : ∀ b o, H b = some o → (∀ ps, o ≠ .tbl ps) → F b = some o := fun b o e n => by
    show (match H b with | some (.tbl _) => none | o => o) = some o
    rw [e]
    cases o <;> first | rfl | exact absurd rfl (n _)
  have sq : SqL K F a (ns.map V.int) := by
    rcases hS with (h | ⟨o, h⟩) | h
    · exact .inl (.inl (fN _ _ h fun _ z => nomatch z))
    · exact .inl (.inr ⟨o, fN _ _ h fun _ z => nomatch z⟩)
    · exact .inr h
  have ht : ∀ p ∈ tabsOf K, F p.1 = none ∧ p.1 ∉ ([] : List Addr) ∧ ∃ ps, H p.1 = some (.tbl ps) ∧ TriplesOk ps.toList ∧ ∀ (pos : Pos) (cv : Value), codeAmong pos ps.toList = some cv → ∃ c, cv = .ref c ∧ F c = some (LamX.CodeO c p.2) := fun p hp => by
    obtain ⟨c, hc⟩ := tabs_cs hp
    have hH := hT _ hc
    refine ⟨?_, by simp, #[], hH, True.intro, fun pos cv h => ?_⟩
    · show (match H p.1 with | some (.tbl _) => none | o => o) = none
      have hH : H p.1 = some (.tbl #[]) := hH
      rw [hH]
    · have : codeAmong pos [] = some cv := h
      simp [codeAmong] at this
  have den : ∀ ns : List Int, DenL K [] F (ns.map V.int) (ns.map D.int) := fun ns => by
    induction ns with
    | nil => exact .nil
    | cons n r ih => exact .cons (.int n) ih
  refine ⟨g ns, [], F, [], by rw [ha, hn]; rfl, ⟨fS, rfl, List.nodup_nil, (fun _ h => nomatch h), (fun n c e h1 h2 => by simp at h1), ht⟩, by rw [ha]; exact .cons (.scr sq (den ns) hz) .nil, hpre ns hl, fun d st' h => ?_⟩
  · have e := hpost _ _ _ _ h
    subst e
    intro v io' F' H' s r n
    cases n
    rfl
end DL
namespace DL
open PySem PySem.Spec PyProof.Rows L2
variable [Bs]
theorem compL_inv {G : Sto → Prop} {t : Tg} {c : DT} {w : DE} {env : En} {Q : LK} {ds : List D} (I : Nat → Sto → List D → Prop)
    (step : ∀ i st acc d, I i st acc → ds[i]? = some d → ∀ R : Sto → List D → Prop, (∀ s a, I (i + 1) s a → R s a) → G st ∧ t.dg d env st fun e s => c e s fun b s1 => if b = true then w e s1 fun x s2 => R s2 (acc ++ [x]) else R s1 acc)
    (fin : ∀ st acc, I ds.length st acc → G st ∧ Q acc st) (st : Sto) (acc : List D) (h : I 0 st acc) : wCompL G t c w env ds st acc Q := by
  have key : ∀ (n i : Nat) (st : Sto) (acc : List D), i + n = ds.length → I i st acc → wCompL G t c w env (ds.drop i) st acc Q := fun n => by
    induction n with
    | zero =>
      intro i st acc e hI
      have e' : i = ds.length := by omega
      subst e'
      rw [List.drop_length]
      exact fin st acc hI
    | succ n ih =>
      intro i st acc e hI
      have hlt : i < ds.length := by omega
      rw [List.drop_eq_getElem_cons hlt]
      exact step i st acc _ hI (List.getElem?_eq_getElem hlt) (fun s a => wCompL G t c w env (ds.drop (i + 1)) s a Q) fun s a h => ih (i + 1) s a (by omega) h
  have := key ds.length 0 st acc (by omega) h
  rwa [List.drop_zero] at this
theorem forL_inv {G : Sto → Prop} {g : DG} {b : DS} {A : DEnds} {ds : List D} (I : Nat → En → Sto → Prop)
    (step : ∀ i env st d, I i env st → ds[i]? = some d → ∀ R : En → Sto → Prop, (∀ e s, I (i + 1) e s → R e s) → G st ∧ g d env st fun e s => b { nx := R, rt := A.rt, bk := A.nx, ct := R } e s)
    (fin : ∀ env st, I ds.length env st → G st ∧ A.nx env st) (env : En) (st : Sto) (h : I 0 env st) : wForL G g b A ds env st := by
  have key : ∀ (n i : Nat) (env : En) (st : Sto), i + n = ds.length → I i env st → wForL G g b A (ds.drop i) env st := fun n => by
    induction n with
    | zero =>
      intro i env st e hI
      have e' : i = ds.length := by omega
      subst e'
      rw [List.drop_length]
      exact fin env st hI
    | succ n ih =>
      intro i env st e hI
      have hlt : i < ds.length := by omega
      rw [List.drop_eq_getElem_cons hlt]
      exact step i env st _ hI (List.getElem?_eq_getElem hlt) (wForL G g b A (ds.drop (i + 1))) fun e s h => ih (i + 1) e s (by omega) h
  have := key ds.length 0 env st (by omega) h
  rwa [List.drop_zero] at this
/-- a comprehension that leaves the store, over encoded items -/
theorem compL_map {α : Type} {G : Sto → Prop} {t : Tg} {c : DT} {w : DE} {env : En} {Q : LK} {st : Sto} (enc : α → D) (f : α → Option D) (hG : G st) :
    ∀ (xs : List α) (acc : List D), (∀ x ∈ xs, ∀ R : Option D → Sto → Prop, R (f x) st → t.dg (enc x) env st fun e s => c e s fun b s1 => if b = true then w e s1 fun y s2 => R (some y) s2 else R none s1) →
    Q (acc ++ xs.filterMap f) st → wCompL G t c w env (xs.map enc) st acc Q
  | [], acc, _, q => ⟨hG, by simpa using q⟩
  | x :: xs, acc, step, q => by
    refine ⟨hG, step x List.mem_cons_self (fun o s => match o with | some y => wCompL G t c w env (xs.map enc) s (acc ++ [y]) Q | none => wCompL G t c w env (xs.map enc) s acc Q) ?_⟩
    cases e : f x with
    | some y =>
      refine compL_map enc f hG xs _ (fun z hz => step z (List.mem_cons_of_mem _ hz)) ?_
      rw [List.filterMap_cons, e] at q
      rwa [List.append_assoc]
    | none =>
      refine compL_map enc f hG xs _ (fun z hz => step z (List.mem_cons_of_mem _ hz)) ?_
      rw [List.filterMap_cons, e] at q
      exact q
theorem rangeD_at {lo : Int} {n i : Nat} {d : D} (h : (rangeD lo n)[i]? = some d) : i < n ∧ d = .int (lo + i) := by
  unfold rangeD at h
  rw [List.getElem?_map] at h
  cases e : (List.range n)[i]? with
  | none => rw [e] at h; cases h
  | some j =>
    rw [e] at h
    cases h
    obtain ⟨h1, h2⟩ := List.getElem?_eq_some_iff.mp e
    rw [List.length_range] at h1
    rw [List.getElem_range] at h2
    subst h2
    exact ⟨h1, rfl⟩
@[simp] theorem rangeD_len (lo : Int) (n : Nat) : (rangeD lo n).length = n := by simp [rangeD]
def rangeI (lo : Int) (n : Nat) : List Int := (List.range n).map fun (i : Nat) => lo + i
theorem rangeD_eq (lo : Int) (n : Nat) : rangeD lo n = (rangeI lo n).map D.int := by simp [rangeD, rangeI]
theorem mem_rangeI {lo x : Int} {n : Nat} : x ∈ rangeI lo n ↔ lo ≤ x ∧ x < lo + n := by
  unfold rangeI
  rw [List.mem_map]
  constructor
  · rintro ⟨i, hi, rfl⟩
    rw [List.mem_range] at hi
    omega
  · rintro ⟨h1, h2⟩
    exact ⟨(x - lo).toNat, List.mem_range.mpr (by omega), by omega⟩
@[simp] theorem rangeI_len (lo : Int) (n : Nat) : (rangeI lo n).length = n := by simp [rangeI]
@[simp] theorem rd_int' (st : Sto) (i : Int) : rd st (.int i) = .int i := rfl
@[simp] theorem rd_bl' (st : Sto) (i : Bool) : rd st (.bl i) = .bl i := rfl
@[simp] theorem rd_str' (st : Sto) (i : Str) : rd st (.str i) = .str i := rfl
@[simp] theorem rd_tup' (st : Sto) (i : List D) : rd st (.tup i) = .tup i := rfl
@[simp] theorem rd_lst' (st : Sto) (i : List D) : rd st (.lst i) = .lst i := rfl
@[simp] theorem rd_scr' (st : Sto) (i : List D) : rd st (.scr i) = .scr i := rfl
@[simp] theorem rd_non' (st : Sto) : rd st .non = .non := rfl
theorem rd_ref' {st : Sto} {n : Nat} {ds : List D} (h : st[n]? = some (.lst ds)) : rd st (.ref n) = .lst ds := by
  unfold rd; simp only [h]
theorem atI_of {α : Type} {xs : List α} {i : Int} {x : α} (h0 : 0 ≤ i) (h : xs[i.toNat]? = some x) : atI xs i = some x := by
  have hl := (List.getElem?_eq_some_iff.mp h).1
  unfold atI ixN
  rw [if_pos h0, if_pos (by omega)]
  exact h
theorem atI_map {α β : Type} {f : α → β} {xs : List α} {i : Int} {x : α} (h : atI xs i = some x) : atI (xs.map f) i = some (f x) := by
  unfold atI at h ⊢
  rw [List.length_map]
  cases e : ixN xs.length i with
  | none => rw [e] at h; cases h
  | some j =>
    rw [e] at h
    show (xs.map f)[j]? = _
    rw [List.getElem?_map, show xs[j]? = some x from h]
    rfl
end DL
namespace DL
open PySem PySem.Spec PyProof.Rows L2
variable [Bs]
section
variable {C : Int → Int → Prop} {g : Int → Int → D} {i j : Int} {st : Sto} {Q : DK} {env : En} {a b : D} {ds es : List D}
theorem v_dI : dI C g (.int i) (.int j) st Q = (C i j ∧ Q (g i j) st) := propext ⟨fun ⟨_, _, e1, e2, c, q⟩ => by cases e1; cases e2; exact ⟨c, q⟩, fun ⟨c, q⟩ => ⟨_, _, rfl, rfl, c, q⟩⟩
theorem v_sub : dSub (.int i) (.int j) st Q = Q (.int (i - j)) st := by unfold dSub; rw [v_dI]; simp
theorem v_mod : dMod (.int i) (.int j) st Q = (0 < j ∧ Q (.int (i % j)) st) := v_dI
theorem v_fdiv : dFdiv (.int i) (.int j) st Q = ((0 < j ∧ j < 2 ^ 62) ∧ Q (.int (i / j)) st) := v_dI
theorem v_pow : dPow (.int i) (.int j) st Q = ((0 ≤ j ∧ j ≤ 1000000 ∧ i.natAbs < 2 ^ 64) ∧ Q (.int (i ^ j.toNat)) st) := v_dI
theorem v_iadd : dI T2 (fun i j => .int (i + j)) (.int i) (.int j) st Q = Q (.int (i + j)) st := by rw [v_dI]; simp
theorem v_add : dAdd (.int i) (.int j) st Q = Q (.int (i + j)) st := rfl
theorem v_addT : dAdd (.tup ds) (.tup es) st Q = (ds.length + es.length ≤ sizeLine ∧ Q (.tup (ds ++ es)) st) := rfl
theorem v_addL : dAdd (.lst ds) (.lst es) st Q = (ds.length + es.length ≤ sizeLine ∧ Q (.lst (ds ++ es)) st) := rfl
theorem v_mul : dMul (.int i) (.int j) st Q = (CMul i j ∧ Q (.int (i * j)) st) := rfl
theorem v_lt : dLt (.int i) (.int j) st Q = Q (.bl (decide (i < j))) st := rfl
theorem v_le : dLe (.int i) (.int j) st Q = Q (.bl (decide (i ≤ j))) st := rfl
theorem v_gt : dGt (.int i) (.int j) st Q = Q (.bl (decide (j < i))) st := rfl
theorem v_ge : dGe (.int i) (.int j) st Q = Q (.bl (decide (j ≤ i))) st := rfl
theorem v_eqO {f : Bool → Bool} (h : ∀ x, a ≠ .str x) : dEqB f a b st Q = dEqO f a b st Q := propext ⟨fun q => by rcases q with ⟨x, _, e, _⟩ | q; exact absurd e (h x); exact q, .inr⟩
theorem v_eqs {f : Bool → Bool} {x y : Str} (q : Q (.bl (f (x == y))) st) : dEqB f (.str x) (.str y) st Q := .inl ⟨x, y, rfl, rfl, q⟩
theorem v_eqi {f : Bool → Bool} : dEqB f (.int i) (.int j) st Q = Q (.bl (f (i == j))) st := by
  rw [v_eqO (a := .int i) (fun _ h => nomatch h)]
  unfold dEqO; simp [D.ok, D.dep, D.eqv]
theorem v_ixT : dIx (.tup ds) (.int i) st Q = ∃ d, atI ds i = some d ∧ Q d st := propext ⟨fun ⟨_, e, q⟩ => by cases e; exact q, fun q => ⟨_, rfl, q⟩⟩
theorem v_ixL : dIx (.lst ds) (.int i) st Q = ∃ d, atI ds i = some d ∧ Q d st := propext ⟨fun ⟨_, e, q⟩ => by cases e; exact q, fun q => ⟨_, rfl, q⟩⟩
theorem v_ixS : dIx (.scr ds) (.int i) st Q = ∃ d, atI ds i = some d ∧ Q d st := propext ⟨fun ⟨_, e, q⟩ => by cases e; exact q, fun q => ⟨_, rfl, q⟩⟩
theorem v_var {k : Nat} {d : D} (h : env[k]? = some (some d)) : wVar k env st Q = Q d st := propext ⟨fun ⟨e, h2, q⟩ => by rw [h] at h2; cases h2; exact q, fun q => ⟨_, h, q⟩⟩
theorem v_var0 {d : D} : wVar 0 (some d :: env) st Q = Q d st := v_var rfl
theorem v_varS {k : Nat} {x : Option D} : wVar (k + 1) (x :: env) st Q = wVar k env st Q := propext ⟨fun ⟨e, h2, q⟩ => ⟨e, by simpa using h2, q⟩, fun ⟨e, h2, q⟩ => ⟨e, by simpa using h2, q⟩⟩
theorem v_len {n : Nat} (h : lenD (rd st a) = some n) : bLen [a] st Q = Q (.int (n : Nat)) st := propext ⟨fun ⟨_, _, e, h2, q⟩ => by cases e; rw [h] at h2; cases h2; exact q, fun q => ⟨_, _, rfl, h, q⟩⟩
theorem v_lenT : bLen [.tup ds] st Q = Q (.int ds.length) st := v_len rfl
theorem v_lenL : bLen [.lst ds] st Q = Q (.int ds.length) st := v_len rfl
theorem v_lenS : bLen [.scr ds] st Q = Q (.int ds.length) st := v_len rfl
theorem v_abs : bAbs [.int i] st Q = Q (.int (if i < 0 then -i else i)) st := propext ⟨fun ⟨_, e, q⟩ => by cases e; exact q, fun q => ⟨_, rfl, q⟩⟩
theorem v_min2 : bMin2 [.int i, .int j] st Q = Q (.int (if j < i then j else i)) st := propext ⟨fun ⟨_, _, e, q⟩ => by cases e; exact q, fun q => ⟨_, _, rfl, q⟩⟩
theorem v_max2 : bMax2 [.int i, .int j] st Q = Q (.int (if j > i then j else i)) st := propext ⟨fun ⟨_, _, e, q⟩ => by cases e; exact q, fun q => ⟨_, _, rfl, q⟩⟩
theorem v_intI : bInt [.int i] st Q = Q (.int i) st := propext ⟨fun ⟨_, e, q⟩ => by cases e; exact q, fun q => ⟨_, rfl, q⟩⟩
theorem v_intB {c : Bool} : bInt [.bl c] st Q = Q (.int (if c then 1 else 0)) st := propext ⟨fun ⟨_, e, q⟩ => by cases e; exact q, fun q => ⟨_, rfl, q⟩⟩
theorem v_tupL (h : rd st a = .lst ds) : bTuple [a] st Q = Q (.tup ds) st := propext ⟨fun ⟨_, _, e, h2, q⟩ => by cases e; rw [h] at h2; rcases h2 with h2 | h2 <;> cases h2; exact q, fun q => ⟨_, _, rfl, .inl h, q⟩⟩
theorem v_tupl : bTuple [.lst ds] st Q = Q (.tup ds) st := v_tupL rfl
theorem v_tupT : bTuple [.tup ds] st Q = Q (.tup ds) st := propext ⟨fun ⟨_, _, e, h2, q⟩ => by cases e; rcases h2 with h2 | h2 <;> cases h2; exact q, fun q => ⟨_, _, rfl, .inr rfl, q⟩⟩
theorem v_bl {x : Bool} {P : Bool → Prop} : (∃ b, D.bl x = .bl b ∧ P b) = P x := propext ⟨fun ⟨_, e, q⟩ => by cases e; exact q, fun q => ⟨_, rfl, q⟩⟩
theorem v_in {x : Int} {P : Int → Prop} : (∃ b, D.int x = .int b ∧ P b) = P x := propext ⟨fun ⟨_, e, q⟩ => by cases e; exact q, fun q => ⟨_, rfl, q⟩⟩
theorem v_some {α : Type} {x : α} {P : α → Prop} : (∃ b, some x = some b ∧ P b) = P x := propext ⟨fun ⟨_, e, q⟩ => by cases e; exact q, fun q => ⟨_, rfl, q⟩⟩
theorem v_gTp {n : Nat} {gs : DGs} {Q : En → Sto → Prop} : gTp n gs (.tup ds) env st Q = (ds.length = n ∧ gs ds env st Q) := propext ⟨fun ⟨_, e, q⟩ => by cases e; exact q, fun q => ⟨_, rfl, q⟩⟩
theorem v_gCn {h : DG} {gs : DGs} {d : D} {Q : En → Sto → Prop} : gCn h gs (d :: ds) env st Q = h d env st fun e s => gs ds e s Q := propext ⟨fun ⟨_, _, e, q⟩ => by cases e; exact q, fun q => ⟨_, _, rfl, q⟩⟩
theorem v_gNl {Q : En → Sto → Prop} : gNl [] env st Q = Q env st := propext ⟨fun ⟨_, q⟩ => q, fun q => ⟨rfl, q⟩⟩
theorem v_newT : newL true ds st Q = Q (.ref st.length) (st ++ [.lst ds]) := rfl
theorem v_newF : newL false ds st Q = Q (.lst ds) st := rfl
theorem v_app {n : Nat} {d : D} (h : st[n]? = some (.lst ds)) : mAppend (.ref n) [d] st Q = (ds.length < sizeLine ∧ Q .non (st.set n (.lst (ds ++ [d])))) := propext ⟨fun ⟨_, _, _, e1, e2, e3, q⟩ => by cases e1; cases e2; rw [h] at e3; cases e3; exact q, fun q => ⟨_, _, _, rfl, rfl, h, q⟩⟩
theorem get_last {α : Type} (st : List α) (c : α) : (st ++ [c])[st.length]? = some c := by simp
theorem set_last {α : Type} (st : List α) (c e : α) : (st ++ [c]).set st.length e = st ++ [e] := by
  rw [List.set_append_right _ _ (Nat.le_refl _), Nat.sub_self]; rfl
theorem v_repr {d : D} : bRepr [d] st Q = ((rd st d).Fit ∧ Q (.str (rd st d).rep) st) := propext ⟨fun ⟨_, e, q⟩ => by cases e; exact q, fun q => ⟨_, rfl, q⟩⟩
theorem at0 {α : Type} {x : α} {xs : List α} : atI (x :: xs) 0 = some x := atI_of (by decide) rfl
theorem at1 {α : Type} {x y : α} {xs : List α} : atI (x :: y :: xs) 1 = some y := atI_of (by decide) rfl
theorem at2 {α : Type} {x y z : α} {xs : List α} : atI (x :: y :: z :: xs) 2 = some z := atI_of (by decide) rfl
theorem at3 {α : Type} {x y z u : α} {xs : List α} : atI (x :: y :: z :: u :: xs) 3 = some u := atI_of (by decide) rfl
theorem at4 {α : Type} {x y z u v : α} {xs : List α} : atI (x :: y :: z :: u :: v :: xs) 4 = some v := atI_of (by decide) rfl
end
theorem v_rg1 {a : DE} {env : En} {st : Sto} {R : GK} : iRange1 (wCons a wNil) env st R = a env st fun d s => ∃ j, d = .int j ∧ (-(2 ^ 62) ≤ j ∧ j < 2 ^ 62) ∧ R (rangeD 0 j.toNat) (fun _ => True) s := by
  unfold iRange1 wCons wNil
  congr 1
  funext d s
  exact propext ⟨fun ⟨j, e, h1, h2, q⟩ => by cases e; exact ⟨_, rfl, ⟨h1, h2⟩, q⟩, fun ⟨j, e, h, q⟩ => by cases e; exact ⟨_, rfl, h.1, h.2, q⟩⟩
theorem v_rg2 {a b : DE} {env : En} {st : Sto} {R : GK} : iRange2 (wCons a (wCons b wNil)) env st R = a env st fun d s => b env s fun e s => ∃ i, d = .int i ∧ ∃ j, e = .int j ∧ (-(2 ^ 62) ≤ i ∧ i < 2 ^ 62 ∧ -(2 ^ 62) ≤ j ∧ j < 2 ^ 62) ∧ R (rangeD i (j - i).toNat) (fun _ => True) s := by
  unfold iRange2 wCons wNil
  congr 1
  funext d s
  congr 1
  funext e s
  exact propext ⟨fun ⟨i, j, e, h, q⟩ => by cases e; exact ⟨_, rfl, _, rfl, h, q⟩, fun ⟨i, e, j, e2, h, q⟩ => by cases e; cases e2; exact ⟨_, _, rfl, h, q⟩⟩
theorem forL_foldN {α σ : Type} {G : Sto → Prop} {g : DG} {b : DS} {A : DEnds} (enc : α → D) (f : σ → α → σ) (Rp : Nat → σ → En → Sto → Prop) (N : Nat) :
    ∀ (xs : List α) (i : Nat) (s0 : σ) (env : En) (st : Sto), i + xs.length = N → (∀ i s x e st, i < N → x ∈ xs → Rp i s e st → ∀ R : En → Sto → Prop, (∀ e' st', Rp (i + 1) (f s x) e' st' → R e' st') → G st ∧ g (enc x) e st fun e s => b { nx := R, rt := A.rt, bk := A.nx, ct := R } e s) →
    (∀ e st, Rp N (xs.foldl f s0) e st → G st ∧ A.nx e st) → Rp i s0 env st → wForL G g b A (xs.map enc) env st
  | [], i, _, env, st, hN, _, fin, h => fin env st (by rw [List.length_nil] at hN; rw [← hN]; exact h)
  | x :: xs, i, s0, env, st, hN, step, fin, h => by
    rw [List.length_cons] at hN
    refine step i s0 x env st (by omega) List.mem_cons_self h (wForL G g b A (xs.map enc)) fun e' st' h' => ?_
    exact forL_foldN enc f Rp N xs (i + 1) (f s0 x) e' st' (by omega) (fun j s y e st hj hy => step j s y e st hj (List.mem_cons_of_mem _ hy)) fin h'
/-- a loop as a fold -/
theorem forL_fold {α σ : Type} {G : Sto → Prop} {g : DG} {b : DS} {A : DEnds} (enc : α → D) (f : σ → α → σ) (Rp : Nat → σ → En → Sto → Prop) (xs : List α) (s0 : σ) (env : En) (st : Sto)
    (step : ∀ i s x e st, i < xs.length → x ∈ xs → Rp i s e st → ∀ R : En → Sto → Prop, (∀ e' st', Rp (i + 1) (f s x) e' st' → R e' st') → G st ∧ g (enc x) e st fun e s => b { nx := R, rt := A.rt, bk := A.nx, ct := R } e s)
    (fin : ∀ e st, Rp xs.length (xs.foldl f s0) e st → G st ∧ A.nx e st) (h : Rp 0 s0 env st) : wForL G g b A (xs.map enc) env st :=
  forL_foldN enc f Rp xs.length xs 0 s0 env st (Nat.zero_add _) step fin h
end DL
namespace DL
open PySem PySem.Spec PyProof.Rows L2
variable [Bs]
def zipI (a b : D) (s : Sto) (R : GK) : Prop := match a, b with
  | .tup xs, .tup ys => R (zipD xs ys) (fun _ => True) s
  | .lst xs, .lst ys => R (zipD xs ys) (fun _ => True) s
  | .lst xs, .tup ys => R (zipD xs ys) (fun _ => True) s
  | .tup xs, .lst ys => R (zipD xs ys) (fun _ => True) s
  | _, _ => False
def iZip (wa wb : DE) : DI := fun env st R => wa env st fun a s1 => wb env s1 fun b s2 => zipI a b s2 R
theorem zipI_tup {xs ys : List D} {s : Sto} {R : GK} : zipI (.tup xs) (.tup ys) s R = R (zipD xs ys) (fun _ => True) s := rfl
theorem zipI_lt {xs ys : List D} {s : Sto} {R : GK} : zipI (.lst xs) (.tup ys) s R = R (zipD xs ys) (fun _ => True) s := rfl
theorem zipI_tl {xs ys : List D} {s : Sto} {R : GK} : zipI (.tup xs) (.lst ys) s R = R (zipD xs ys) (fun _ => True) s := rfl
theorem zipI_lst {xs ys : List D} {s : Sto} {R : GK} : zipI (.lst xs) (.lst ys) s R = R (zipD xs ys) (fun _ => True) s := rfl
end DL
namespace DL
open PySem PySem.Spec PyProof.Rows L2
variable [Bs]
def rgD (a b : Int) : List D := (List.range (b - a).toNat).map fun i => D.int (a + (i : Nat))
def wRgL1 (m : Bool) (wa : DE) : DE := fun env st Q => wa env st fun d s => ∃ b, d = .int b ∧ RgOk 0 b ∧ newL m (rgD 0 b) s Q
def wRgL2 (m : Bool) (wa wb : DE) : DE := fun env st Q => wa env st fun d s => wb env s fun d2 s2 => ∃ a b, d = .int a ∧ d2 = .int b ∧ RgOk a b ∧ newL m (rgD a b) s2 Q
def wRgT1 (wa : DE) : DE := fun env st Q => wa env st fun d s => ∃ b, d = .int b ∧ RgOk 0 b ∧ Q (.tup (rgD 0 b)) s
def wRgT2 (wa wb : DE) : DE := fun env st Q => wa env st fun d s => wb env s fun d2 s2 => ∃ a b, d = .int a ∧ d2 = .int b ∧ RgOk a b ∧ Q (.tup (rgD a b)) s2
def repS (x : Str) (n : Int) : Str := ⟨(List.replicate n.toNat x.cps).foldl (· ++ ·) #[]⟩
def dMulS : R2D := fun a b st Q => ∃ z n, a = .str z ∧ b = .int n ∧ 2 ≤ n ∧ n ≤ 1000000 ∧ z.length ≠ 0 ∧ z.length * n.toNat ≤ sizeLine ∧ Q (.str (repS z n)) st
theorem v_mulS {x : Str} {k : Int} {st : Sto} {Q : DK} : dMulS (.str x) (.int k) st Q = (2 ≤ k ∧ k ≤ 1000000 ∧ x.length ≠ 0 ∧ x.length * k.toNat ≤ sizeLine ∧ Q (.str (repS x k)) st) :=
  propext ⟨fun ⟨_, _, e1, e2, h⟩ => by cases e1; cases e2; exact h, fun h => ⟨_, _, rfl, rfl, h⟩⟩
theorem v_rgx1 {n : Int} {P : Int → Prop} : (∃ b, D.int n = .int b ∧ P b) = P n := propext ⟨fun ⟨_, e, h⟩ => by cases e; exact h, fun h => ⟨_, rfl, h⟩⟩
theorem v_rgx2 {m n : Int} {P : Int → Int → Prop} : (∃ a b, D.int m = .int a ∧ D.int n = .int b ∧ P a b) = P m n := propext ⟨fun ⟨_, _, e, e2, h⟩ => by cases e; cases e2; exact h, fun h => ⟨_, _, rfl, rfl, h⟩⟩
def dRev (m : Bool) (a : D) (s : Sto) (Q : DK) : Prop := match rd s a with
  | .lst ds => newL m ds.reverse s Q
  | .tup ds => Q (.tup ds.reverse) s
  | _ => False
def wRevA (m : Bool) (wa : DE) : DE := fun env st Q => wa env st fun a s => dRev m a s Q
theorem v_revT {m : Bool} {ds : List D} {st : Sto} {Q : DK} : dRev m (.tup ds) st Q = Q (.tup ds.reverse) st := rfl
theorem v_revL {m : Bool} {ds : List D} {st : Sto} {Q : DK} : dRev m (.lst ds) st Q = newL m ds.reverse st Q := rfl
end DL
namespace DL
open PySem PySem.Spec PyProof.Rows L2
variable [Bs]
theorem PlainL.isList {h : Heap} {a : Addr} {its : Array Value} (p : PlainL h a its) : h.IsList a its := by
  obtain ⟨o, n, e, h1, h2, h3⟩ := p
  exact ⟨o, e, h1, n, h3⟩
def dEqE (f : Bool → Bool) : R2D := fun a b st Q => ∃ ds, rd st a = .lst ds ∧ rd st b = .lst [] ∧ Q (.bl (f ds.isEmpty)) st
theorem v_eqE {f : Bool → Bool} {ds : List D} {st : Sto} {Q : DK} : dEqE f (.lst ds) (.lst []) st Q = Q (.bl (f ds.isEmpty)) st :=
  propext ⟨fun ⟨_, e1, _, q⟩ => by cases e1; exact q, fun q => ⟨_, rfl, rfl, q⟩⟩
end DL
namespace DL
open PySem PySem.Spec PyProof.Rows L2
variable [Bs]
section
variable {X : Cx}
theorem den_intL {K : PySem.W.Frag} {io : List Addr} {F : Hp} : ∀ ns : List Int, DenL K io F (ns.map V.int) (ns.map D.int)
  | [] => .nil
  | n :: r => .cons (.int n) (den_intL r)
end
abbrev dPair (p : Int × Int) : D := .tup [.int p.1, .int p.2]
def LexLe (p q : Int × Int) : Prop := p.1 < q.1 ∨ (p.1 = q.1 ∧ p.2 ≤ q.2)
def IsP (K : PySem.W.Frag) (H : Hp) (x : V) (p : Int × Int) : Prop := ∃ t, x = .ref t ∧ SqT K H t [.int p.1, .int p.2]
def rSortPD (K : PySem.W.Frag) : List V → Hp → VK → Prop := fun vs H Q => ∃ (a : Addr) (xs : List V) (ps : List (Int × Int)), vs = [V.ref a] ∧ SqL K H a xs ∧ Paired (IsP K H) xs ps ∧
  ∀ ys qs p, qs.Perm ps → qs.Pairwise LexLe → ys.length = qs.length → (∀ z ∈ ys.zip qs, z ∈ xs.zip ps) → H p = none → Q (.ref p) (upd H p (.lst ys))
open Classical in
noncomputable def kP (K : PySem.W.Frag) (H : Hp) (x : V) : Int × Int := if h : ∃ p, IsP K H x p then Classical.choose h else (0, 0)
theorem kP_eq {X : Cx} {pins : List (Addr × Obj)} {σ : L2.St} {H : Hp} {s : Shared} (I : Inv X pins σ H s) {x : V} {p : Int × Int} (h : IsP X.K H x p) : kP X.K H x = p := by
  unfold kP
  rw [dif_pos ⟨p, h⟩]
  obtain ⟨t, e1, h1⟩ := Classical.choose_spec (⟨p, h⟩ : ∃ p, IsP X.K H x p)
  obtain ⟨t', e2, h2⟩ := h
  rw [e1] at e2
  cases e2
  have := I.tuple_inj h1 h2
  injection this with a b
  injection b with b _
  injection a with a
  injection b with b
  exact Prod.ext a b
theorem paired_map {α β : Type} {R : α → β → Prop} {k : α → β} (hk : ∀ x p, R x p → k x = p) : ∀ {xs : List α} {ps : List β}, Paired R xs ps → xs.map k = ps
  | _, _, .nil => rfl
  | _, _, .cons h t => by rw [List.map_cons, hk _ _ h, paired_map hk t]
theorem paired_mem {α β : Type} {R : α → β → Prop} : ∀ {xs : List α} {ps : List β}, Paired R xs ps → ∀ x ∈ xs, ∃ p, R x p
  | _, _, .cons h t, x, hx => by
    rcases List.mem_cons.mp hx with e | hx
    · subst e; exact ⟨_, h⟩
    · exact paired_mem t x hx
theorem zip_self {α β : Type} (k : α → β) : ∀ xs : List α, xs.zip (xs.map k) = xs.map fun x => (x, k x)
  | [] => rfl
  | x :: r => by rw [List.map_cons, List.zip_cons_cons, zip_self k r, List.map_cons]
theorem cr_sortedPD {X : Cx} : CallR X (.builtin "sorted") (rSortPD X.K) := by
  intro pins s σ H vs us Q I r h
  obtain ⟨a, xs, ps, rfl, hs, hx, q⟩ := h
  obtain ⟨its, rv, hl, hz⟩ := I.list hs
  obtain ⟨u, rfl, ru⟩ := vals1 r
  obtain rfl : u = Value.ref a := ru
  have hmap := paired_map (fun x p h => kP_eq I h) hx
  have hall : ∀ x ∈ xs, IsP X.K H x (kP X.K H x) := fun x hm => by
    obtain ⟨p, hp⟩ := paired_mem hx x hm
    rw [kP_eq I hp]; exact hp
  obtain ⟨e1, e2⟩ := refs_back rv fun x m => by
    obtain ⟨t, e, _⟩ := hall x m
    exact ⟨t, e⟩
  refine SrtO.sorted_pairsO (k := fun u => kP X.K H (backV u)) hl.isList (by rw [← rv.length]; exact hz) (fun v hv => ?_) fun h' d out h1 h2 kp hd hn => ?_
  · obtain ⟨t, rfl⟩ := e2 v hv
    have hm : V.ref t ∈ xs := by rw [e1]; exact List.mem_map.mpr ⟨_, hv, rfl⟩
    obtain ⟨t', e, ht⟩ := hall _ hm
    cases e
    obtain ⟨its2, r2, hT, _⟩ := I.tuple ht
    obtain ⟨o, ho, hc, n, hd⟩ := hT
    obtain ⟨u1, u2, rfl, ri, rj⟩ := vals2 r2
    obtain ⟨t1, rfl⟩ := ri
    obtain ⟨t2, rfl⟩ := rj
    exact ⟨t, o, t1, t2, n, rfl, ho, hc, hd⟩
  · have h3 : ∀ u ∈ out, ∃ a, u = Value.ref a := fun u hu => e2 u (h2.perm.mem_iff.mp hu)
    obtain ⟨n, hn⟩ := hn
    have hb : SrtO.Stb (ltP (kP X.K H)) (out.map backV) xs := by
      rw [e1]
      exact SrtO.Stb.map (ltP_swo (kP X.K H)) backV h2
    have hsr : SrtO.Srtd (ltP (kP X.K H)) (out.map backV) := SrtO.srtd_map h1
    refine ⟨.ref d, upd H d (.lst (out.map backV)), I.laid (t' := s.toks) kp hd ⟨?_, out, n, vals_back h3, hn⟩, rfl, q (out.map backV) ((out.map backV).map (kP X.K H)) d ?_ ?_ (List.length_map (f := kP X.K H)).symm (fun z hz => ?_) (I.hok.fresh hd)⟩
    · rw [hb.len]
      exact hz
    · rw [← hmap]; exact hb.perm.map _
    · refine List.pairwise_map.mpr (List.Pairwise.imp (fun {x y} h => ?_) hsr)
      have := SrtO.lexB_no.mp h
      unfold LexLe
      omega
    · rw [zip_self] at hz
      obtain ⟨y, hy, rfl⟩ := List.mem_map.mp hz
      rw [← hmap, zip_self]
      exact List.mem_map.mpr ⟨y, hb.perm.mem_iff.mp hy, rfl⟩
/-- sorted(xs): of ints, or of pairs of ints -/
def bSorted (m : Bool) : RLD := fun ds st Q => ∃ d, ds = [d] ∧ ((∃ ns : List Int, rd st d = .lst (ns.map .int) ∧ ∀ ns' : List Int, ns'.Perm ns → ns'.Pairwise (· ≤ ·) → newL m (ns'.map .int) st Q) ∨
  (∃ ps : List (Int × Int), rd st d = .lst (ps.map dPair) ∧ ∀ ps' : List (Int × Int), ps'.Perm ps → ps'.Pairwise LexLe → newL m (ps'.map dPair) st Q))
theorem den_pairs {K : PySem.W.Frag} {io : List Addr} {F H : Hp} (hs : ∀ a o, F a = some o → H a = some o) : ∀ {xs : List V} {ps : List (Int × Int)}, DenL K io F xs (ps.map dPair) → Paired (IsP K H) xs ps
  | [], [], _ => .nil
  | x :: xs, p :: ps, .cons a b => by
    refine .cons ?_ (den_pairs hs b)
    cases a with
    | tup s1 r1 _ =>
      cases r1 with
      | cons a1 r1 => cases r1 with
        | cons b1 r1 =>
          cases r1
          cases a1
          cases b1
          exact ⟨_, rfl, SqT_mono hs s1.t⟩
theorem den_zip {K : PySem.W.Frag} {io : List Addr} {F : Hp} : ∀ {xs : List V} {ps : List (Int × Int)}, DenL K io F xs (ps.map dPair) → ∀ z ∈ xs.zip ps, Den K io F z.1 (dPair z.2)
  | [], [], _, z, hz => by cases hz
  | x :: xs, p :: ps, .cons a b, z, hz => by
    rw [List.zip_cons_cons] at hz
    rcases List.mem_cons.mp hz with e | hz
    · subst e; exact a
    · exact den_zip b z hz
theorem den_of_zip {K : PySem.W.Frag} {io : List Addr} {F : Hp} : ∀ {xs : List V} {ps : List (Int × Int)}, xs.length = ps.length → (∀ z ∈ xs.zip ps, Den K io F z.1 (dPair z.2)) → DenL K io F xs (ps.map dPair)
  | [], [], _, _ => .nil
  | x :: xs, p :: ps, hl, h => .cons (h (x, p) (by rw [List.zip_cons_cons]; exact List.mem_cons_self)) (den_of_zip (by simpa using hl) fun z hz => h z (by rw [List.zip_cons_cons]; exact List.mem_cons_of_mem _ hz))
theorem z_sorted {K : PySem.W.Frag} {m : Bool} : RzL K (fun vs H Q => rSortedI K vs H Q ∨ rSortPD K vs H Q) (bSorted m) where
  mo := fun ds s Q Q' h ⟨d, e1, q⟩ => ⟨d, e1, q.elim (fun ⟨ns, h1, q⟩ => .inl ⟨ns, h1, fun ns' h2 h3 => newL_mo h (q ns' h2 h3)⟩) fun ⟨ps, h1, q⟩ => .inr ⟨ps, h1, fun ps' h2 h3 => newL_mo h (q ps' h2 h3)⟩⟩
  on := fun {H io F st vs ds Q} R n ⟨d, e1, q⟩ => by
    subst e1
    obtain ⟨v, rfl, n1⟩ := n.one
    rcases q with ⟨ns, h1, q⟩ | ⟨ps, h1, q⟩
    · obtain ⟨a, xs, rfl, hl, hx, hz⟩ := rd_lst R n1 h1
      rw [den_ints hx] at hl
      refine .inl ⟨a, ns, rfl, .of hl, fun ns' p h2 h3 hp => ?_⟩
      rw [List.length_map] at hz
      exact lay_new R (den_intL ns') (by rw [List.length_map, h2.length_eq]; exact hz) (q ns' h2 h3) p hp
    · obtain ⟨a, xs, rfl, hl, hx, hz⟩ := rd_lst R n1 h1
      rw [List.length_map] at hz
      refine .inr ⟨a, xs, ps, rfl, .of hl, den_pairs R.sub hx, fun ys qs p h2 h3 h4 h5 hp => ?_⟩
      exact lay_new R (den_of_zip h4 fun z hz => den_zip hx z (h5 z hz)) (by rw [List.length_map, h2.length_eq]; exact hz) (q qs h2 h3) p hp
theorem cr_sortedB {X : Cx} : CallR X (.builtin "sorted") (fun vs H Q => rSortedI X.K vs H Q ∨ rSortPD X.K vs H Q) := cr_sortedI.or cr_sortedPD
theorem bb_sorted : bootBuiltins "sorted" = some (.builtin "sorted") := by decide +kernel
end DL
namespace DL
open PySem PySem.Spec PyProof.Rows L2
variable [Bs]
def IsKey (h : Heap) (v : Value) (x : Int) : Prop := ∃ a o t y n, v = .ref a ∧ h.get? a = some o ∧ o.cls = .type "tuple" ∧ o.data = .seq #[.int x t, y] n
theorem IsKey.keeps {h h' : Heap} {v : Value} {x : Int} (p : IsKey h v x) (k : ∀ b o, h.get? b = some o → o.cls = .type "tuple" → h'.get? b = some o) : IsKey h' v x := by
  obtain ⟨a, o, t, u, n, e, ho, hc, hd⟩ := p
  exact ⟨a, o, t, u, n, e, k _ _ ho hc, hc, hd⟩
theorem firsts_key {h : Heap} : ∀ {vs : List Value}, (∀ v ∈ vs, ∃ x, IsKey h v x) → ∃ fs : List Value, PySem.W.KatTups h vs fs ∧ fs.length = vs.length ∧ ∀ f ∈ fs, ∃ x t, f = Value.int x t
  | [], _ => ⟨[], PySem.W.KatTups.nil, rfl, fun _ hm => by simp at hm⟩
  | v :: vs, hp => by
    obtain ⟨fs, h1, h2, h3⟩ := firsts_key (vs := vs) fun v' hm => hp v' (List.mem_cons_of_mem _ hm)
    obtain ⟨x, a, o, t, u, n, e, ho, hc, hd⟩ := hp v List.mem_cons_self
    subst e
    refine ⟨.int x t :: fs, PySem.W.KatTups.cons ho hc hd rfl h1, by rw [List.length_cons, List.length_cons, h2], fun f hm => ?_⟩
    rcases List.mem_cons.mp hm with rfl | hm
    · exact ⟨x, t, rfl⟩
    · exact h3 f hm
section
variable {prog : Program} {w : World} {A : Around} {E : Value → Shared → Prop} {s : Shared}
theorem swo_key (k : Value → Int) : SrtO.Swo fun v u => decide (k v < k u) := by
  refine ⟨fun x y h => ?_, fun x y z h1 h2 => ?_⟩
  · have := of_decide_eq_true h
    exact decide_eq_false (by omega)
  · have := of_decide_eq_false h1
    have := of_decide_eq_false h2
    exact decide_eq_false (by omega)
theorem key_cmp {vs : List Value} {k : Value → Int} (hp : ∀ v ∈ vs, IsKey s.heap v (k v)) (hd : ∀ v ∈ vs, ∀ u ∈ vs, k v = k u → v = u) : SrtO.Cmp prog w A s (tuples' true) (fun p => p.1 ∈ vs) (SrtO.lt2 fun v u => decide (k v < k u)) := by
  intro p q hm hm'
  have h1 := hp _ hm
  have h2 := hp _ hm'
  have h3 := hd _ hm _ hm'
  show wpAny (model prog w) A (keyLt' (tuples' true) p.1 q.1) (fun r s' => s' = s ∧ r = decide (k p.1 < k q.1)) (fun _ _ => False) s
  generalize k p.1 = x at h1 h3 ⊢
  generalize k q.1 = x' at h2 h3 ⊢
  obtain ⟨a, o, t, y, n, e, ho, hc, hdd⟩ := h1
  obtain ⟨a', o', t', y', n', e', ho', hc', hdd'⟩ := h2
  by_cases ex : x = x'
  · subst ex
    have e3 := h3 rfl
    rw [e, e'] at e3
    cases e3
    rw [ho] at ho'
    cases ho'
    rw [hdd] at hdd'
    cases hdd'
    rw [e, e']
    refine PySem.W.kat_lt ho hdd ho hdd ?_
    show PySem.W.KatLex prog w A true (decide (2 < 2)) _ [(.int x t, .int x t), (y, y)] 0 s
    refine PySem.W.kat_cons (SeqAt.EqAt.same (.int x t) prog w _ _ ?_)
    refine PySem.W.kat_go (fun e1 => ?_) (fun e1 => nomatch e1)
    refine PySem.W.kat_yes (PySem.W.kat_cons (SeqAt.EqAt.same y prog w _ _ ?_))
    refine PySem.W.kat_go (fun e2 => ?_) (fun e2 => nomatch e2)
    exact PySem.W.kat_yes (PySem.W.kat_nil ⟨rfl, (decide_eq_false (Int.lt_irrefl _)).symm⟩)
  · rw [e, e']
    refine PySem.W.kat_lt ho hdd ho' hdd' ?_
    show PySem.W.KatLex prog w A true (decide (2 < 2)) _ [(.int x t, .int x' t'), (y, y')] 0 s
    refine PySem.W.kat_cons (SeqAt.EqAt.int_int x t x' t' prog w _ _ ?_)
    refine PySem.W.kat_go (fun e1 => absurd (by simpa using e1) ex) (fun e1 => ?_)
    exact PySem.W.kat_no (oneLt_int ⟨rfl, rfl⟩)
theorem keys_sortableO {a : Addr} {vs : List Value} {k : Value → Int} (h0 : 0 < vs.length) (hp : ∀ v ∈ vs, IsKey s.heap v (k v)) (hd : ∀ v ∈ vs, ∀ u ∈ vs, k v = k u → v = u) (ha : ∀ o, s.heap.get? a = some o → o.cls ≠ .type "tuple") : SrtO.SortableO prog w A s a vs fun v u => decide (k v < k u) := by
  intro h' keep
  have hp' : ∀ v ∈ vs, IsKey h' v (k v) := fun v hm => (hp v hm).keeps fun b o e c => keep b o (fun z => by subst z; exact ha o e c) e
  obtain ⟨fs, h1, h2, h3⟩ := firsts_key fun v hm => ⟨_, hp' v hm⟩
  refine ⟨tuples' true, fun Q E hq => ?_, key_cmp hp' hd⟩
  refine PySem.W.kat_kind (T := .type "int") h1 (by omega) (fun f hm => ?_) (by rfl) ?_
  · obtain ⟨x, t, rfl⟩ := h3 f hm
    exact PySem.W.Looks.now
  · have e : (Value.type "int" != Value.type "tuple") = true := by first | decide +kernel | rfl | decide
    rw [e]
    exact hq
theorem sorted_keysO {l : Addr} {vs : List Value} {k : Value → Int} {Q : Value → Shared → Prop} (hl : s.heap.IsList l vs.toArray) (hz : vs.length ≤ sizeLine) (hp : ∀ v ∈ vs, IsKey s.heap v (k v)) (hd : ∀ v ∈ vs, ∀ u ∈ vs, k v = k u → v = u)
    (h : ∀ (h' : Heap) (d : Addr) (out : List Value), SrtO.Srtd (fun v u => decide (k v < k u)) out → SrtO.Stb (fun v u => decide (k v < k u)) out vs → (∀ b o, s.heap.get? b = some o → h'.get? b = some o) → s.heap.objs.size ≤ d → (∃ n, h'.get? d = some (seqObj "list" out.toArray n)) → Q (.ref d) { s with heap := h' }) :
    wpAny (model prog w) A (call (.builtin "sorted") [.ref l]) Q E s := by
  refine SrtO.sorted_ord (swo_key k) hl hz (fun h2 h₁ a ha kk => ?_) fun out hs hb => ?_
  · refine keys_sortableO (s := { s with heap := h₁ }) (by omega) (fun v hm => (hp v hm).keeps fun b o e _ => (kk b o e).2) hd fun o e => ?_
    have e' : some o = some (seqObj "list" vs.toArray 0) := e.symm.trans ha
    cases e'
    intro c
    exact absurd (Value.type.inj c) (by decide)
  · exact h _ _ out hs hb (fun b o e => PyProof.Rows.sortedAll_old e) (Nat.le_succ _) (PyProof.Rows.sortedAll_at s.heap vs out.toArray)
end
def IsK (K : PySem.W.Frag) (H : Hp) (x : V) (k : Int) : Prop := ∃ t y, x = .ref t ∧ SqT K H t [.int k, y]
def rSortKD (K : PySem.W.Frag) : List V → Hp → VK → Prop := fun vs H Q => ∃ (a : Addr) (xs : List V) (ks : List Int), vs = [V.ref a] ∧ SqL K H a xs ∧ Paired (IsK K H) xs ks ∧ ks.Nodup ∧
  ∀ ys js p, js.Perm ks → js.Pairwise (· < ·) → ys.length = js.length → (∀ z ∈ ys.zip js, z ∈ xs.zip ks) → H p = none → Q (.ref p) (upd H p (.lst ys))
open Classical in
noncomputable def kK (K : PySem.W.Frag) (H : Hp) (x : V) : Int := if h : ∃ p, IsK K H x p then Classical.choose h else 0
theorem kK_eq {X : Cx} {pins : List (Addr × Obj)} {σ : L2.St} {H : Hp} {s : Shared} (I : Inv X pins σ H s) {x : V} {p : Int} (h : IsK X.K H x p) : kK X.K H x = p := by
  unfold kK
  rw [dif_pos ⟨p, h⟩]
  obtain ⟨t, y, e1, h1⟩ := Classical.choose_spec (⟨p, h⟩ : ∃ p, IsK X.K H x p)
  obtain ⟨t', y', e2, h2⟩ := h
  rw [e1] at e2
  cases e2
  have := I.tuple_inj h1 h2
  injection this with a b
  injection a with a
theorem nodup_inj {α β : Type} {k : α → β} : ∀ {xs : List α}, (xs.map k).Nodup → ∀ x ∈ xs, ∀ y ∈ xs, k x = k y → x = y
  | a :: r, h, x, hx, y, hy, e => by
    rw [List.map_cons, List.nodup_cons] at h
    rcases List.mem_cons.mp hx with e1 | hx
    · rcases List.mem_cons.mp hy with e2 | hy
      · rw [e1, e2]
      · exact absurd (List.mem_map.mpr ⟨y, hy, by rw [← e, e1]⟩) h.1
    · rcases List.mem_cons.mp hy with e2 | hy
      · exact absurd (List.mem_map.mpr ⟨x, hx, by rw [e, e2]⟩) h.1
      · exact nodup_inj h.2 x hx y hy e
theorem cr_sortedKD {X : Cx} : CallR X (.builtin "sorted") (rSortKD X.K) := by
  intro pins s σ H vs us Q I r h
  obtain ⟨a, xs, ks, rfl, hs, hx, hnd, q⟩ := h
  obtain ⟨its, rv, hl, hz⟩ := I.list hs
  obtain ⟨u, rfl, ru⟩ := vals1 r
  obtain rfl : u = Value.ref a := ru
  have hmap := paired_map (fun x p h => kK_eq I h) hx
  have hall : ∀ x ∈ xs, IsK X.K H x (kK X.K H x) := fun x hm => by
    obtain ⟨p, hp⟩ := paired_mem hx x hm
    rw [kK_eq I hp]; exact hp
  obtain ⟨e1, e2⟩ := refs_back rv fun x m => by
    obtain ⟨t, _, e, _⟩ := hall x m
    exact ⟨t, e⟩
  have hin : ∀ v ∈ its, backV v ∈ xs := fun v hv => by rw [e1]; exact List.mem_map.mpr ⟨_, hv, rfl⟩
  refine sorted_keysO (k := fun u => kK X.K H (backV u)) hl.isList (by rw [← rv.length]; exact hz) (fun v hv => ?_) (fun v hv u hu e => ?_) fun h' d out h1 h2 kp hd hn => ?_
  · obtain ⟨t, rfl⟩ := e2 v hv
    obtain ⟨t', y, e, ht⟩ := hall _ (hin _ hv)
    cases e
    obtain ⟨its2, r2, hT, _⟩ := I.tuple ht
    obtain ⟨o, ho, hc, n, hd⟩ := hT
    obtain ⟨u1, u2, rfl, ri, rj⟩ := vals2 r2
    obtain ⟨t1, rfl⟩ := ri
    exact ⟨t, o, t1, u2, n, rfl, ho, hc, hd⟩
  · have := nodup_inj (k := kK X.K H) (by rw [hmap]; exact hnd) _ (hin v hv) _ (hin u hu) e
    obtain ⟨t, rfl⟩ := e2 v hv
    obtain ⟨t', rfl⟩ := e2 u hu
    have : V.ref t = V.ref t' := this
    cases this
    rfl
  · have h3 : ∀ u ∈ out, ∃ a, u = Value.ref a := fun u hu => e2 u (h2.perm.mem_iff.mp hu)
    obtain ⟨n, hn⟩ := hn
    have hperm : (out.map backV).Perm xs := by rw [e1]; exact h2.perm.map _
    have hp2 : ((out.map backV).map (kK X.K H)).Perm ks := by rw [← hmap]; exact hperm.map _
    refine ⟨.ref d, upd H d (.lst (out.map backV)), I.laid (t' := s.toks) kp hd ⟨?_, out, n, vals_back h3, hn⟩, rfl, q (out.map backV) ((out.map backV).map (kK X.K H)) d hp2 ?_ (List.length_map (f := kK X.K H)).symm (fun z hz => ?_) (I.hok.fresh hd)⟩
    · rw [hperm.length_eq]; exact hz
    · have hle : ((out.map backV).map (kK X.K H)).Pairwise (· ≤ ·) := by
        refine List.pairwise_map.mpr (List.pairwise_map.mpr (List.Pairwise.imp (fun {x y} h => ?_) h1))
        have := of_decide_eq_false h
        omega
      have hne := (hp2.nodup_iff.mpr hnd)
      rw [List.nodup_iff_pairwise_ne] at hne
      exact (hle.and hne).imp fun ⟨h1, h2⟩ => by omega
    · rw [zip_self] at hz
      obtain ⟨y, hy, rfl⟩ := List.mem_map.mp hz
      rw [← hmap, zip_self]
      exact List.mem_map.mpr ⟨y, hperm.mem_iff.mp hy, rfl⟩
/-- sorted(xs): of ints, of pairs of ints, of pairs of an int and something, no int twice -/
def dKey (p : Int × D) : D := .tup [.int p.1, p.2]
def bSortK (m : Bool) : RLD := fun ds st Q => bSorted m ds st Q ∨ ∃ d, ds = [d] ∧ ∃ ps : List (Int × D), rd st d = .lst (ps.map dKey) ∧ (ps.map (·.1)).Nodup ∧ ∀ ps' : List (Int × D), ps'.Perm ps → (ps'.map (·.1)).Pairwise (· < ·) → newL m (ps'.map dKey) st Q
theorem den_keys {K : PySem.W.Frag} {io : List Addr} {F H : Hp} (hs : ∀ a o, F a = some o → H a = some o) : ∀ {xs : List V} {ps : List (Int × D)}, DenL K io F xs (ps.map dKey) → Paired (IsK K H) xs (ps.map (·.1))
  | [], [], _ => .nil
  | x :: xs, p :: ps, .cons a b => by
    refine .cons ?_ (den_keys hs b)
    have a : Den K io F x (.tup [.int p.1, p.2]) := a
    cases a with
    | tup s1 r1 _ =>
      cases r1 with
      | cons a1 r1 => cases r1 with
        | cons b1 r1 =>
          cases r1
          cases a1
          exact ⟨_, _, rfl, SqT_mono hs s1.t⟩
theorem den_kzip {K : PySem.W.Frag} {io : List Addr} {F : Hp} : ∀ {xs : List V} {ps : List (Int × D)}, DenL K io F xs (ps.map dKey) → ∀ z ∈ xs.zip (ps.map (·.1)), ∃ p ∈ ps, p.1 = z.2 ∧ Den K io F z.1 (dKey p)
  | [], [], _, z, hz => by cases hz
  | x :: xs, p :: ps, .cons a b, z, hz => by
    rw [List.map_cons, List.zip_cons_cons] at hz
    rcases List.mem_cons.mp hz with e | hz
    · subst e; exact ⟨p, List.mem_cons_self, rfl, a⟩
    · obtain ⟨q, h1, h2⟩ := den_kzip b z hz
      exact ⟨q, List.mem_cons_of_mem _ h1, h2⟩
theorem keyed {K : PySem.W.Frag} {io : List Addr} {F : Hp} {ps : List (Int × D)} : ∀ {ys : List V} {js : List Int}, ys.length = js.length → (∀ z ∈ ys.zip js, ∃ p ∈ ps, p.1 = z.2 ∧ Den K io F z.1 (dKey p)) → ∃ qs : List (Int × D), qs.map (·.1) = js ∧ (∀ q ∈ qs, q ∈ ps) ∧ DenL K io F ys (qs.map dKey)
  | [], [], _, _ => ⟨[], rfl, fun _ h => (nomatch h), .nil⟩
  | y :: ys, j :: js, hl, h => by
    obtain ⟨p, hp, e, hd⟩ := h (y, j) (by rw [List.zip_cons_cons]; exact List.mem_cons_self)
    obtain ⟨qs, h1, h2, h3⟩ := keyed (ys := ys) (js := js) (by simpa using hl) fun z hz => h z (by rw [List.zip_cons_cons]; exact List.mem_cons_of_mem _ hz)
    refine ⟨p :: qs, by rw [List.map_cons, h1, e], fun q hq => ?_, .cons hd h3⟩
    rcases List.mem_cons.mp hq with e | hq
    · subst e; exact hp
    · exact h2 q hq
/-- of pairs without an int twice: as many of theirs, no int twice, are all of them -/
theorem perm_keys {ps qs : List (Int × D)} (hn : (ps.map (·.1)).Nodup) (hq : (qs.map (·.1)).Perm (ps.map (·.1))) (hm : ∀ q ∈ qs, q ∈ ps) : qs.Perm ps := by
  induction qs generalizing ps with
  | nil =>
    have := hq.length_eq
    rw [List.length_map, List.length_map] at this
    rw [List.eq_nil_of_length_eq_zero (l := ps) this.symm]
  | cons q r ih =>
    obtain ⟨i, hi, e⟩ := List.getElem_of_mem (hm q List.mem_cons_self)
    obtain ⟨l1, l2, hps⟩ := List.append_of_mem (hm q List.mem_cons_self)
    subst hps
    have hp : (l1 ++ q :: l2).Perm (q :: (l1 ++ l2)) := List.perm_middle
    have hn2 := (hp.map (·.1)).nodup_iff.mp hn
    rw [List.map_cons, List.nodup_cons] at hn2
    have hq2 := hq.trans (hp.map (·.1))
    rw [List.map_cons, List.map_cons] at hq2
    have hq3 := hq2.cons_inv
    have hnr := hq3.nodup_iff.mpr hn2.2
    refine ((ih hn2.2 hq3 fun x hx => ?_).cons q).trans hp.symm
    have := hp.mem_iff.mp (hm x (List.mem_cons_of_mem _ hx))
    rcases List.mem_cons.mp this with e | h
    · subst e
      exact absurd (hq3.mem_iff.mp (List.mem_map.mpr ⟨_, hx, rfl⟩)) hn2.1
    · exact h
theorem z_sortK {K : PySem.W.Frag} {m : Bool} : RzL K (fun vs H Q => (rSortedI K vs H Q ∨ rSortPD K vs H Q) ∨ rSortKD K vs H Q) (bSortK m) where
  mo := fun ds s Q Q' h q => q.elim (fun q => .inl (z_sorted (K := K).mo _ _ _ _ h q)) fun ⟨d, e1, ps, h1, hn, q⟩ => .inr ⟨d, e1, ps, h1, hn, fun ps' h2 h3 => newL_mo h (q ps' h2 h3)⟩
  on := fun {H io F st vs ds Q} R n q => by
    rcases q with q | ⟨d, e1, ps, h1, hn, q⟩
    · exact .inl (z_sorted.on R n q)
    · subst e1
      obtain ⟨v, rfl, n1⟩ := n.one
      obtain ⟨a, xs, rfl, hl, hx, hz⟩ := rd_lst R n1 h1
      rw [List.length_map] at hz
      refine .inr ⟨a, xs, ps.map (·.1), rfl, .of hl, den_keys R.sub hx, hn, fun ys js p h2 h3 h4 h5 hp => ?_⟩
      obtain ⟨qs, g1, g2, g3⟩ := keyed (ps := ps) (ys := ys) (js := js) h4 fun z hz => den_kzip hx z (h5 z hz)
      subst g1
      have hperm := perm_keys hn h2 g2
      exact lay_new R g3 (by rw [List.length_map, hperm.length_eq]; exact hz) (q qs hperm h3) p hp
theorem cr_sortedAll {X : Cx} : CallR X (.builtin "sorted") (fun vs H Q => (rSortedI X.K vs H Q ∨ rSortPD X.K vs H Q) ∨ rSortKD X.K vs H Q) := cr_sortedB.or cr_sortedKD
end DL
namespace DL
open PySem PySem.Spec PyProof.Rows L2
variable [Bs]
/-- one parameter p, no other name of its own: captured ones and globals -/
structure LamP (sc scope : Scope) (p : Str) : Prop where
  kind : scope.kind = .function
  co : scope.isCoroutine = false
  gen : scope.isGenerator = false
  par : (scope.names.lookup p = some .local ∧ scope.names.filter (fun y => y.2 == .cell) = []) ∨ (scope.names.lookup p = some .cell ∧ scope.names.filter (fun y => y.2 == .cell) = [(p, .cell)])
  own : ∀ y ∈ scope.names, y.2 = .local ∨ y.2 = .cell → y.1 = p
  free : ∀ y ∈ scope.names, y.2 = .free → y.1 ≠ p ∧ (sc.names.lookup y.1 = some .cell ∨ sc.names.lookup y.1 = some .free)
section
variable {X : Cx} {pins : List (Addr × Obj)} {σ : L2.St} {H HZ : Hp} {s s1 : Shared}
theorem LamP.has {scope : Scope} {p : Str} (L : LamP X.env.scope scope p) (ok : X.Ok) : ∀ y ∈ scope.names, y.2 = .free → ∃ c, X.env.cells.lookup y.1 = some c := fun y hy e => by
  rcases (L.free y hy e).2 with k | k
  · exact ok.has _ (.inl k)
  · exact ok.has _ (.inr k)
end
end DL
namespace PySem.AutoSeq1
end PySem.AutoSeq1
namespace L2
open PySem PySem.Spec PyProof.Rows
end L2
namespace DL
open PySem PySem.Spec PyProof.Rows L2
variable [Bs]
theorem denF_at {K : PySem.W.Frag} {io : List Addr} {F : Hp} {f : Str} {d : D} : ∀ {fv : List (Str × V)} {fs : List (Str × D)}, DenF K io F fv fs → fs.lookup f = some d → ∃ v, fv.lookup f = some v ∧ Den K io F v d
  | _, _, .nil, e => by cases e
  | (g, x) :: r, (g', y) :: r', .cons ⟨e1, n⟩ t, e => by
    cases e1
    rw [List.lookup_cons] at e ⊢
    cases h : f == g with
    | true => rw [h] at e; cases e; exact ⟨x, rfl, n⟩
    | false => rw [h] at e; exact denF_at t e
end DL
namespace DL
open PySem PySem.Spec PyProof.Rows L2
section
variable {X : Cx} {e : Expr} {es : List Expr} {ta : TA} {p pos : Pos}
theorem takes_noneN {X : Cx} : L2N.Takes X (fun _ _ _ _ => False) := fun _ _ ⟨_, _, _, _, _, _, _, _, _, _, _, _, _, _, _, _, w⟩ => w.elim
theorem pmk_oexN {CX : CXT} {x : Str} {C fI : Addr} {k : Nat} {fd : FuncData} {ps : List Str} {sp : Sp} (T : OexC X.K C) (iC : PySem.W.findIn X.K (.ref C) "__init__" = some (some (.ref fI))) (tI : PySem.W.typeIn X.K (.ref fI) = some (.type "function"))
    (F1 : FnOk X.prog X.w X.K X.mg X.base CX k fI fd ps sp) (hr : Room (k + 1) X.A) (hb : Binds X.K fd ps []) (hx : Passes CX X (fun _ _ _ => False)) (hg : Gl X x) (hm : X.mg x = some (.ref C)) (ha : PA X (e :: es) ta)
    (hdb : (x == ("__debug__" : Str)) = false := by decide) (he : starEach (e :: es) X.env = (false, eval e X.env) :: starEach es X.env := by rfl) (hpl : (backTo pos (starEach es X.env)).any (·.1) = false := by rfl) :
    L2N.PMk X (.Call (.Name x p) (e :: es) [] pos) (tMkO C sp [] ta) := by
  intro pins s σ H Q I h
  obtain ⟨nm, q, N, bs, bm, sn, sub, ab, col, dd, k0, k1, k2, k3, k5, hC, hbm⟩ := T.cls
  refine wpAny_Call_Name_kw (ld_glob I hg hm ?_ hdb)
  refine PySem.W.callWith_K (h₀ := X.base) I.ok.mod.kin T.kC (thn (ha.run pos pins s σ H _ I h) fun us s1 hr1 => ?_) he hpl
  obtain ⟨vs, H1, I1, r1, hz, q1⟩ := hr1
  refine ⟨I1.kIn, ?_⟩
  show wpAny _ _ (call (.ref C) us) _ _ _
  obtain ⟨hp, g, dr, tk, os⟩ := s1
  have up1 := Nat.le_succ hp.objs.size
  have hq := q1 (hp.objs.size + 1) (I1.hok.fresh up1)
  have keep : ∀ b o, hp.get? b = some o → ((hp.push (PySem.W.kdv_tup us)).push (PySem.HandSPX.excO C hp.objs.size)).get? b = some o := fun b o z => Heap.get?_push_of_some _ (Heap.get?_push_of_some _ z)
  have made : ((hp.push (PySem.W.kdv_tup us)).push (PySem.HandSPX.excO C hp.objs.size)).get? (hp.objs.size + 1) = some (PySem.HandSPX.excO C hp.objs.size) := by heap_get
  have I2 : Inv X pins σ (upd H1 (hp.objs.size + 1) (exo (hp.objs.size + 1) C none)) ⟨(hp.push (PySem.W.kdv_tup us)).push (PySem.HandSPX.excO C hp.objs.size), g, dr, tk, os⟩ :=
    I1.laid (t' := tk) (a := hp.objs.size + 1) (o := exo (hp.objs.size + 1) C none) (h' := (hp.push (PySem.W.kdv_tup us)).push (PySem.HandSPX.excO C hp.objs.size)) keep up1 (exo_ok made)
  have r2 : Vals (V.ref (hp.objs.size + 1) :: (vs ++ [])) (Value.ref (hp.objs.size + 1) :: (us ++ [])) := .cons rfl (r1.append .nil)
  have hl : (Value.ref (hp.objs.size + 1) :: us ++ []).length = ps.length := r2.length.symm.trans (F1.len _ _ _ _ hq)
  have hus : us.length ≤ sizeLine := by rw [← Paired.length r1, sizeLine_eq]; omega
  have hbb := hb _ (Value.ref (hp.objs.size + 1) :: us) I2.kIn hl
  have run := F1.run _ X.stack _ _ ⟨Value.ref (hp.objs.size + 1) :: us, []⟩ (Value.ref (hp.objs.size + 1) :: us ++ []) _ _ (fun _ _ _ => False) (hr.make C us []) (I2.env0.make C us []) hbb r2 hq
  refine wpAny_call (PySem.HandSPX.call_own F.excBase_ValueError (fun Y => PySem.HandSPX.refsVE_contains Y bm hbm) (I1.kIn _ _ hC) (PySem.W.looks_findIn I1.kIn iC) (fun self => PySem.W.bind_fn I1.kIn self tI) hus (codeAny_mono run fun r s' hq' => ?_))
  match r, hq' with
  | .error er, hq' => exact hx pins σ _ _ er s' I2 hq'
  | .ok (.ret u), hq' =>
    obtain ⟨v, H2, os2, bare2, un2, hok2, rv, ev, d, fs, ea, ed, hd1, q2⟩ := hq'
    subst ev
    obtain ⟨h2, g2, d2, t2, os'⟩ := s'
    obtain ⟨t0, G, J, kG, ge, hoe, na⟩ := mk_end0 (d2 := d2) (t2 := t2) I1 up1 keep un2 hok2 os2 bare2 ea ed hd1
    exact ⟨rv, hp.objs.size + 1, _, _, ⟨G, g2, d2, t2, os'⟩, _, .ref C, some d, rfl, J, kG, ge, hoe, ⟨rfl, rfl, fun vs hv => by cases hv; rfl⟩, rfl, rfl, na, rfl, bare2, raises_own T.exC T.tyC, q2⟩
  | .ok .next, hq' => exact hq'.elim
  | .ok .brk, hq' => exact hq'.elim
  | .ok .cont, hq' => exact hq'.elim
end
/-- an exception: its class's name, its fields -/
structure Exc where
  cls : Str
  fs : List (Str × D)
abbrev DX := Exc → En → Sto → Prop
def ExcR (K : PySem.W.Frag) (H : Hp) (io : List Addr) (F : Hp) (cls : Value) (d : Option Addr) (e : Exc) : Prop :=
  ∃ C, cls = .ref C ∧ PySem.W.nsIn K mainGlobals e.cls = some (some (.ref C)) ∧ ((d = none ∧ e.fs = []) ∨ ∃ dd fv, d = some dd ∧ H dd = some (.xd fv) ∧ F dd = none ∧ dd ∉ io ∧ DenF K io F fv e.fs)
section
variable {K : PySem.W.Frag} {io io' : List Addr} {F F' H H' : Hp} {st st' : Sto} {cls : Value} {d : Option Addr} {e : Exc}
theorem ExcR.next (s : Stp H io F H' io' F') (h : ExcR K H io F cls d e) : ExcR K H' io' F' cls d e := by
  obtain ⟨C, e1, e2, ⟨e3, e4⟩ | ⟨dd, fv, e3, e4, e5, e6, e7⟩⟩ := h
  · exact ⟨C, e1, e2, .inl ⟨e3, e4⟩⟩
  · obtain ⟨h1, h2, h3⟩ := s.beside e4 (fun _ z => nomatch z) e5 e6
    exact ⟨C, e1, e2, .inr ⟨dd, fv, e3, h1, h2, h3, Paired.mapP e7 fun p q z => ⟨z.1, s.den z.2⟩⟩⟩
end
/-- .. whose dict is new since H0 -/
def ExcX (H0 : Hp) (K : PySem.W.Frag) (H : Hp) (io : List Addr) (F : Hp) (cls : Value) (d : Option Addr) (e : Exc) : Prop := ExcR K H io F cls d e ∧ ∀ dd, d = some dd → H0 dd = none
/-- the wish for an exception, told in states of ours -/
def kX [B : Bs] (K : PySem.W.Frag) (W : WX) : DX := fun e env st => ∀ σ cls d io F H, Rel K σ H env io F st → ExcX B.H K H io F cls d e → W cls d σ H
/-- the wish R is one that the context takes -/
def TkD [Bs] (X : Cx) (R : DX) : Prop := ∃ W, L2N.Takes X W ∧ ∀ e env st, R e env st → kX X.K W e env st
/-- a def that may raise -/
structure SpecX extends Spec where
  rz : G → Sto → Exc → Sto → Prop
def spX (K : PySem.W.Frag) (S : SpecX) : Sp := fun vs H Q E => ∃ g io F st, (S.args g).length = S.n ∧ RelH K H io F st ∧ DenL K io F vs (S.args g) ∧ S.pre g st ∧ (∀ d st', S.post g st d st' → kE K H io F Q d st') ∧
  ∀ e st', S.rz g st e st' → ∀ cls d io' F' H', Stp H io F H' io' F' → RelH K H' io' F' st' → ExcX H K H' io' F' cls d e → E cls d H'
def wCallX (S : SpecX) (R : DX) (wa : DA) : DE := fun env st Q => wa env st fun ds s1 => ∃ g, ds = S.args g ∧ (S.args g).length = S.n ∧ S.pre g s1 ∧ (∀ d s2, S.post g s1 d s2 → Q d s2) ∧ ∀ e s2, S.rz g s1 e s2 → R e env s2
section
variable {X : Cx} {CX : CXT} {k : Nat} {f : Addr} {fd : FuncData} {ps : List Str} {sp : Sp} {x : Str} {p pos : Pos} {e : Expr} {es : List Expr} {t : TA}
theorem runGS {pins : List (Addr × Obj)} {σ : L2.St} {H : Hp} {s : Shared} {Q : VK} {E : XK} {us : List Value} {vs : List V} (F : FnG X.prog X.w X.K X.mg X.base CX k f fd ps sp) (hr : Room k X.A) (hgd : X.A.guards = some []) (hb : Binds X.K fd ps [])
    (hx : PassesAt CX X σ E) (I : Inv X pins σ H s) (r : Vals vs us) (h : sp vs H Q E) : wpAny (model X.prog X.w) X.A (call (.ref f) us) (EP X pins σ Q) X.xe s := by
  have hlen : (us ++ []).length = ps.length := by rw [List.append_nil, ← r.length]; exact F.len _ _ _ _ h
  have hbind := hb s us I.kIn hlen
  rw [List.append_nil] at hbind
  have run := F.run X.A X.stack s H ⟨us, []⟩ us vs Q E hr hgd I.env0 hbind r h
  refine wpAny_call (codeAny_mono run fun res s' hq => ?_)
  match res, hq with
  | .error e, hq => exact hx pins H s e s' I hq
  | .ok (.ret u), hq => exact I.after hq
  | .ok .next, hq => exact hq.elim
  | .ok .brk, hq => exact hq.elim
  | .ok .cont, hq => exact hq.elim
theorem pe_callGS {E : L2.St → XK} (F : FnG X.prog X.w X.K X.mg X.base CX k f fd ps sp) (hr : Room k X.A) (hgd : X.A.guards = some []) (hg : Gl X x) (hm : X.mg x = some (.ref f)) (hk : PySem.W.keepIn X.K (.ref f) = true) (hb : Binds X.K fd ps []) (hx : ∀ σ, PassesAt CX X σ (E σ))
    (ha : PA X (e :: es) t) (hdb : (x == ("__debug__" : Str)) = false := by decide) (he : starEach (e :: es) X.env = (false, eval e X.env) :: starEach es X.env := by rfl) (hpl : (backTo pos (starEach es X.env)).any (·.1) = false := by rfl) :
    PE X (.Call (.Name x p) (e :: es) [] pos) (fun σ H Q => t σ H fun vs H1 => sp vs H1 Q (E σ)) := by
  refine ⟨fun pins s σ H Q I h => wpAny_Call_Name_kw (ld_glob I hg hm ?_ hdb)⟩
  refine PySem.W.callWith_K (h₀ := X.base) I.ok.mod.kin hk (thn (ha.run pos pins s σ H _ I h) fun us s1 h1 => ?_) he hpl
  obtain ⟨vs, H1, I1, r, q⟩ := h1
  exact ⟨I1.kIn, runGS F hr hgd hb (hx σ) I1 r q⟩
variable [Bs] {wa : DA}
/-- a call of a def that may raise -/
theorem we_callR {S : SpecX} {R : DX} (tk : TkD X R) (F : FnG X.prog X.w X.K X.mg X.base (L2N.CX X.prog X.w) k f fd ps (spX X.K S)) (hr : Room k X.A) (hgd : X.A.guards = some []) (hg : Gl X x) (hm : X.mg x = some (.ref f)) (hk : PySem.W.keepIn X.K (.ref f) = true) (hb : Binds X.K fd ps [])
    (ha : WA X (e :: es) wa) (hdb : (x == ("__debug__" : Str)) = false := by decide) (he : starEach (e :: es) X.env = (false, eval e X.env) :: starEach es X.env := by rfl) (hpl : (backTo pos (starEach es X.env)).any (·.1) = false := by rfl) :
    WE X (.Call (.Name x p) (e :: es) [] pos) (wCallX S R wa) := by
  obtain ⟨W, tk, hW⟩ := tk
  refine ⟨fun _ _ _ _ i q => ha.mo _ _ _ _ (fun _ _ ⟨g, e, z, p, q, r⟩ => ⟨g, e, z, p, fun d s h => i _ _ (q d s h), r⟩) q, PE_imp (pe_callGS F hr hgd hg hm hk hb (fun σ => L2N.passAt tk σ) ha.pe hdb he hpl) fun σ H Q ⟨env, io, F, st, R1, q⟩ => ?_⟩
  refine tA_use ha.mo R1 q fun ds s1 vs io1 F1 H1 ⟨g, eg, z, p1, q1, r1⟩ t1 R1 n1 => ?_
  subst eg
  exact ⟨g, io1, F1, s1, z, R1.toRelH, n1, p1, fun d s2 h => kE_later t1 (q1 d s2 h), fun e st' h cls d io' F' H' t2 R2 x2 => hW _ _ _ (r1 e st' h) σ cls d io' F' H' (R1.next t2 R2) ⟨x2.1, fun dd z => R1.bs.none_of (x2.2 dd z)⟩⟩
end
section
variable {P : Program} {w : World} {K : PySem.W.Frag} {mg : Str → Option Value} {base : Heap}
theorem takes_cx {x qual : Str} {N : List Str} {sc : Scope} {f : Addr} {cdv : Value} {A : Around} {outer : List Env} {s : Shared} {H : Hp} {E : XK} : L2N.Takes (cxOf (L2N.CX P w) P w K mg base N qual sc f cdv A outer s H E) (fun cls d _ H' => E cls d H') :=
  fun u s' x => L2N.XE.leave (W := fun cls d _ H => E cls d H) (E := E) rfl rfl rfl (fun _ _ _ _ h => h) x
theorem passes_cx {qual : Str} {N : List Str} {sc : Scope} {f : Addr} {cdv : Value} {A : Around} {outer : List Env} {s : Shared} {H : Hp} {E : XK} :
    PassesOwn (model P w) (cxOf (L2N.CX P w) P w K mg base N qual sc f cdv A outer s H E).A (cxOf (L2N.CX P w) P w K mg base N qual sc f cdv A outer s H E).env (cxOf (L2N.CX P w) P w K mg base N qual sc f cdv A outer s H E).xe := PassesOwn.leaving
/-- .. that forgets its own cells -/
def popX (n : Nat) (st0 : Sto) (rz : Exc → Sto → Prop) : Exc → Sto → Prop := fun e st' => ∃ st1 ex, st' = st1 ++ ex ∧ st1.length = n ∧ D.blwL n (e.fs.map (·.2)) = true ∧ (∀ (i : Nat) c, st1[i]? = some c → st0[i]? = some c ∨ c.blw n = true) ∧ rz e st1
theorem fn_okXP {x qual : Str} {st : Stmt} {f : Addr} {fd : FuncData} {N ps : List Str} {k : Nat} {S : SpecX} {wb : DX → DS} (F : Fun K x qual st f fd) (sc : FnScope N ps (defScope st)) (hn : S.n = ps.length)
    (body : ∀ [Bs] (cdv : Value) (A : Around) (outer : List Env) (s : Shared) (H : Hp) (E : XK) (R : DX), Room k (A.deeper (envOfC qual (defScope st) s.heap.objs.size f cdv)) → A.guards = some [] → TkD (cxOf (L2N.CX P w) P w K mg base N qual (defScope st) f cdv A outer s H E) R →
      WB (cxOf (L2N.CX P w) P w K mg base N qual (defScope st) f cdv A outer s H E) (defBody st) (wb R))
    (vc : ∀ g sto, (S.args g).length = S.n → S.pre g sto → wb (fun e _ s => popX sto.length sto (S.rz g sto) e s) (bodyEnds (popEnds sto.length sto (S.post g sto))) (startE N (S.args g)) sto) : FnG P w K mg base (L2N.CX P w) (k + 1) f fd ps (spX K S) := by
  refine fnG_of F sc (fun vs H Q E h => ?_) (fun cdv A outer s H vs Q E _ hr hgd h => ?_)
  · obtain ⟨g, io, Fz, sto, z, R, n, p, q⟩ := h
    rw [n.length, z, hn]
  · obtain ⟨g, io, Fz, sto, z, R, n, p, q, r⟩ := h
    letI : Bs := ⟨H, io, Fz⟩
    have ixs : ∀ {io' : List Addr} {F' H' : Hp}, Stp H io Fz H' io' F' → ∀ (n : Nat) a, n < io.length → io'[n]? = some a → io[n]? = some a := fun {io' F' H'} t n a h e => by
      obtain ⟨more, em, hm⟩ := t.ext
      rw [em, List.getElem?_append_left h] at e
      exact e
    have B := body cdv A outer s H E (fun e _ s => popX sto.length sto (S.rz g sto) e s) hr hgd ⟨fun cls d _ H' => E cls d H', takes_cx (x := x), fun e env s hz σ cls d io' F' H' R' xr => by
      obtain ⟨st1, ex, rfl, hl, hd, hb, h⟩ := hz
      obtain ⟨R2, t2⟩ := pop_rel R R'.bs R'.toRelH hl hb
      refine r e st1 h cls d io F' H' t2 R2 ⟨?_, xr.2⟩
      obtain ⟨C, e1, e2, ⟨e3, e4⟩ | ⟨dd, fv, e3, e4, e5, e6, e7⟩⟩ := xr.1
      · exact ⟨C, e1, e2, .inl ⟨e3, e4⟩⟩
      · refine ⟨C, e1, e2, .inr ⟨dd, fv, e3, e4, e5, fun hm => e6 ?_, DenF.cut (ixs R'.bs) e7 (by rw [R.len]; exact hd)⟩⟩
        obtain ⟨more, em, _⟩ := R'.bs.ext
        rw [em]
        exact List.mem_append_left _ hm⟩
    refine ⟨_, B.pe, startE N (S.args g), io, Fz, sto, start_rel R n, B.mo (bodyEnds (popEnds sto.length sto (S.post g sto))) _ _ _ ?_ (vc g sto z p)⟩
    have fin : ∀ {d : D} {s : Sto} {v : V} {io' : List Addr} {F' H' : Hp}, popEnds sto.length sto (S.post g sto) d s → Stp H io Fz H' io' F' → RelH K H' io' F' s → Den K io' F' v d → Q v H' := fun {d s v io' F' H'} h t R' nd => by
      obtain ⟨st1, ex, rfl, hl, hd, hb, h⟩ := h
      obtain ⟨R2, t2⟩ := pop_rel R t R' hl hb
      exact q d st1 h v io F' H' t2 R2 (nd.cut (ixs t) (by rw [R.len]; exact hd))
    refine ⟨fun e s h => ?_, fun d s h => ?_, fun e s h => h.elim, fun e s h => h.elim⟩
    · exact fun σ' io' F' H' t R' => fin h t R'.toRelH .non
    · exact fun v io' F' H' t R' nd => fin h t R' nd
end
section
variable {X : Cx} {x : Str} {C : Addr} {p pos pos' : Pos} {e : Expr} {es : List Expr} {wa : DA}
variable [Bs]
def wRaiseF (cn f : Str) (wa : DA) (R : DX) : DS := fun _ env st => wa env st fun ds s => ∃ d, ds = [d] ∧ R ⟨cn, [(f, d)]⟩ env s
def spI (K : PySem.W.Frag) (f : Str) : Sp := fun vs H Q _ => ∃ a y C, vs = [.ref a, y] ∧ OexC K C ∧ PySem.W.findIn K (.ref C) f = some none ∧ H a = some (exo a C none) ∧ ∀ dx, H dx = none → dx ≠ a → Q .non (upd (upd H dx (exd dx [(f, y)])) a (exo a C (some dx)))
omit [Bs] in
theorem init_ok {P : Program} {w : World} {K : PySem.W.Frag} {mg : Str → Option Value} {base : Heap} {qual f pn : Str} {st : Stmt} {fI : Addr} {fd : FuncData} (F : Fun K "__init__" qual st fI fd) (sc : FnScope ["self", pn] ["self", pn] (defScope st))
    (hb : ∃ p1 p2 p3 p4, defBody st = [.Assign [.Attribute (.Name "self" p1) f p2] (.Name pn p3) p4]) (v0 : (defScope st).names.lookup ("self" : Str) = some .local) (v1 : (defScope st).names.lookup (pn : Str) = some .local) (hd : (pn == ("__debug__" : Str)) = false) (hcd : (pn == ("__classdict__" : Str)) = false)
    (hs : ∀ p1 p2 p3 p4 X, swapsWith (.Name pn p3) (some (.Attribute (.Name "self" p1) f p2)) p4 X = pure false) :
    FnOk P w K mg base CX0 1 fI fd ["self", pn] (spI K f) := by
  obtain ⟨oc, od, kV, doc, pm, an, cdv, ct, osl, rfl, lk, hcd2⟩ := F.ex
  obtain ⟨p1, p2, p3, p4, e⟩ := hb
  refine fn_of lk hcd2 sc (fun vs H Q E ⟨_, _, _, h, _⟩ => by rw [h]; rfl) fun A outer s H vs Q E hr ⟨a, y, C, hv, T, no, ha, q⟩ => ?_
  subst hv
  rw [e]
  exact ⟨_, pss_one (ps_ost (pe_var (i := 0) rfl (.inl v0)) (pe_var (i := 1) rfl (.inl v1) hd hcd) (hs _ _ _ _ _)), y, rfl, .ref a, rfl, a, C, rfl, T, no, .inl ⟨ha, fun dx h1 h2 => q dx h1 h2⟩⟩
structure ErrF (K : PySem.W.Frag) (cn f : Str) (C fI : Addr) : Prop where
  aC : PySem.W.nsIn K mainGlobals cn = some (some (.ref C))
  o : OexC K C
  iC : PySem.W.findIn K (.ref C) "__init__" = some (some (.ref fI))
  tI : PySem.W.typeIn K (.ref fI) = some (.type "function")
  no : PySem.W.findIn K (.ref C) f = some none
theorem ws_raiseF {R : DX} {f pn : Str} {fI : Addr} {fd : FuncData} (hc : X.calm = true) (tk : TkD X R) (T : ErrF X.K x f C fI) (F1 : FnOk X.prog X.w X.K X.mg X.base CX0 1 fI fd ["self", pn] (spI X.K f)) (hr : Room 2 X.A) (hb : Binds X.K fd ["self", pn] [])
    (gC : X.mg x = some (.ref C)) (hg : Gl X x) (ha : WA X [e] wa) (hdb : (x == ("__debug__" : Str)) = false := by decide)
    (he : starEach [e] X.env = (false, eval e X.env) :: starEach [] X.env := by rfl) : WS X (.Raise (some (.Call (.Name x p) [e] [] pos)) none pos') (wRaiseF x f wa R) := by
  obtain ⟨W, tk, hW⟩ := tk
  refine ⟨fun _ _ _ _ _ q => q, PS_imp (L2N.ps_raise hc tk (pmk_oexN T.o T.iC T.tI F1 hr hb pass0 hg gC ha.pe hdb he (by rfl))) fun D σ H ⟨env, io, F, st, Rl, q⟩ => ?_⟩
  refine tA_use ha.mo Rl q fun ds s1 vs io1 F1 H1 ⟨d, ed, q1⟩ t1 R1 n1 => ?_
  subst ed
  obtain ⟨y, rfl, ny⟩ := n1.one
  refine ⟨by simp, fun a hA => ?_⟩
  refine ⟨a, y, C, rfl, T.o, T.no, upd_same, fun dx hdx hne => ?_⟩
  have hdx1 : H1 dx = none := by rw [upd_ne hne] at hdx; exact hdx
  refine ⟨rfl, dx, [(f, y)], upd_same, by rw [upd_ne hne]; exact upd_same, hdx1, ?_⟩
  have eH : upd (del (upd (upd (upd H1 a (exo a C none)) dx (exd dx [(f, y)])) a (exo a C (some dx))) a) dx (.xd [(f, y)]) = upd H1 dx (.xd [(f, y)]) := by
    funext b
    by_cases hb : b = dx
    · rw [hb, upd_same, upd_same]
    · rw [upd_ne hb, upd_ne hb]
      by_cases ha : b = a
      · rw [ha, del_same, hA]
      · rw [del_ne ha, upd_ne ha, upd_ne hb, upd_ne ha]
  rw [eH]
  have t2 : Stp H1 io1 F1 (upd H1 dx (.xd [(f, y)])) io1 F1 := Stp.aside hdx1
  exact hW _ _ _ q1 σ _ _ io1 F1 _ (R1.next t2 (R1.toRelH.aside hdx1)) ⟨⟨C, rfl, T.aC, .inr ⟨dx, _, rfl, upd_same, R1.toRelH.notF hdx1, R1.toRelH.notIo hdx1, .cons ⟨rfl, t2.den ny⟩ .nil⟩⟩, fun dd z => by cases z; exact R1.bs.none_of hdx1⟩
end
/-- a catcher of one's own: classes by names; true: the exception is one of that class -/
def errNames : List Str := ["TooMany", "NoPlan", "NoRoom", "NotEven", "NoDeed", "NoText"]
def mtab (x c : Str) : Option Bool := if x ∈ errNames then some (c == x || c == "WishError" || c == "ValueError") else none
theorem mtab_all {K : PySem.W.Frag} {c : Str} {cv : Value}
    (h1 : ∀ C, PySem.W.nsIn K mainGlobals "TooMany" = some (some (.ref C)) → PySem.W.exmOne K (.ref C) cv = some (c == "TooMany" || c == "WishError" || c == "ValueError"))
    (h2 : ∀ C, PySem.W.nsIn K mainGlobals "NoPlan" = some (some (.ref C)) → PySem.W.exmOne K (.ref C) cv = some (c == "NoPlan" || c == "WishError" || c == "ValueError"))
    (h3 : ∀ C, PySem.W.nsIn K mainGlobals "NoRoom" = some (some (.ref C)) → PySem.W.exmOne K (.ref C) cv = some (c == "NoRoom" || c == "WishError" || c == "ValueError"))
    (h4 : ∀ C, PySem.W.nsIn K mainGlobals "NotEven" = some (some (.ref C)) → PySem.W.exmOne K (.ref C) cv = some (c == "NotEven" || c == "WishError" || c == "ValueError"))
    (h5 : ∀ C, PySem.W.nsIn K mainGlobals "NoDeed" = some (some (.ref C)) → PySem.W.exmOne K (.ref C) cv = some (c == "NoDeed" || c == "WishError" || c == "ValueError"))
    (h6 : ∀ C, PySem.W.nsIn K mainGlobals "NoText" = some (some (.ref C)) → PySem.W.exmOne K (.ref C) cv = some (c == "NoText" || c == "WishError" || c == "ValueError")) :
    ∀ y C b, mtab y c = some b → PySem.W.nsIn K mainGlobals y = some (some (.ref C)) → PySem.W.exmOne K (.ref C) cv = some b := fun y C b h hn => by
  unfold mtab at h
  split at h
  · rename_i hm
    cases h
    simp only [errNames, List.mem_cons, List.not_mem_nil, or_false] at hm
    rcases hm with rfl | rfl | rfl | rfl | rfl | rfl
    · exact h1 C hn
    · exact h2 C hn
    · exact h3 C hn
    · exact h4 C hn
    · exact h5 C hn
    · exact h6 C hn
  · cases h
structure Cl where
  c : Str
  nm : Option Nat
  ws : Addr → Exc → DS
def goneD (i : Nat) (D : DEnds) : DEnds := { nx := fun e s => D.nx (e.set i none) s, rt := D.rt, bk := fun e s => D.bk (e.set i none) s, ct := fun e s => D.ct (e.set i none) s }
def rawD (a : Addr) : D := .fn a [] (fun _ => none)
def Cl.go (cl : Cl) (a : Addr) (e : Exc) : DS := fun D env st => match cl.nm with
  | none => cl.ws a e D env st
  | some i => cl.ws a e (goneD i D) (env.set i (some (rawD a))) st
def wCls (R : DX) (D : DEnds) : List Cl → DX
  | [], e, env, st => R e env st
  | cl :: r, e, env, st => ∃ b, mtab e.cls cl.c = some b ∧ (b = true → ∀ a, cl.go a e D env st) ∧ (b = false → wCls R D r e env st)
def wTry (wb : DX → DS) (cls : List Cl) (R : DX) : DS := fun D env st => ∃ D0 R', D0.le D ∧ (∀ e env st, R' e env st → wCls R D0 cls e env st) ∧ wb R' D0 env st
/-- clauses, with names or without -/
inductive HdsA (X : Cx) : List ExceptHandler → List (Value × Option Nat × (Addr → Value → Option Addr → TS)) → Prop
  | nil : HdsA X [] []
  | cons {x : Str} {c : Value} {ts : Addr → Value → Option Addr → TS} {b₀ : Stmt} {suite : List Stmt} {np pos' : Pos} {hds : List ExceptHandler} {l : List (Value × Option Nat × (Addr → Value → Option Addr → TS))} (hc : Names X x c)
      (hsu : ∀ (a : Addr) (oe : Obj) (cls : Value) (d : Option Addr) (pn : List (Addr × Obj)), L2N.Zn cls d oe → (∃ vs, oe.data = .fields vs) → PSs (X.suite a ((a, oe) :: pn)) (b₀ :: suite) (ts a cls d)) (r : HdsA X hds l) :
      HdsA X (.ExceptHandler (some (.Name x np)) none (b₀ :: suite) pos' :: hds) ((c, none, ts) :: l)
  | consA {x n : Str} {i : Nat} {c : Value} {ts : Addr → Value → Option Addr → TS} {b₀ : Stmt} {suite : List Stmt} {np pos' : Pos} {hds : List ExceptHandler} {l : List (Value × Option Nat × (Addr → Value → Option Addr → TS))} (hc : Names X x c) (hN : X.N.Nodup) (hi : X.N[i]? = some n) (hln : X.env.kindOf n = some .local)
      (hsu : ∀ (a : Addr) (oe : Obj) (cls : Value) (d : Option Addr) (pn : List (Addr × Obj)), L2N.Zn cls d oe → (∃ vs, oe.data = .fields vs) → PSs (X.suite a ((a, oe) :: pn)) (b₀ :: suite) (ts a cls d)) (r : HdsA X hds l) :
      HdsA X (.ExceptHandler (some (.Name x np)) (some n) (b₀ :: suite) pos' :: hds) ((c, some i, ts) :: l)
def wManyA (K : PySem.W.Frag) (Wout : WX) (D : Ends) : List (Value × Option Nat × (Addr → Value → Option Addr → TS)) → WX
  | [] => Wout
  | (c, none, ts) :: r => fun cls d σ H => ∃ b, PySem.W.exmOne K cls c = some b ∧ (b = true → ∀ a, H a = none → ts a cls d D σ H) ∧ (b = false → wManyA K Wout D r cls d σ H)
  | (c, some i, ts) :: r => fun cls d σ H => ∃ b, PySem.W.exmOne K cls c = some b ∧ (b = true → ∀ a, H a = none → ts a cls d { nx := fun σ' H' => D.nx (σ'.set i none) H', rt := D.rt, bk := fun σ' H' => D.bk (σ'.set i none) H', ct := fun σ' H' => D.ct (σ'.set i none) H' } (σ.set i (some (.ref a))) H) ∧
    (b = false → wManyA K Wout D r cls d σ H)
/-- the state s is one of ours with an exception's objects beside: sI is the state without them, B the ground that stays -/
structure Beside (X : Cx) (pins : List (Addr × Obj)) (σ : L2.St) (H : Hp) (B : Heap) (s : Shared) : Prop where
  ex : ∃ sI : Shared, Inv X pins σ H sI ∧ (∀ b o, sI.heap.get? b = some o → b ∉ frs X.stack → B.get? b = some o) ∧ sI.heap.UpToSlots s.heap ∧ s.os = sI.os
  stay : B.StaysIn s.heap
  bare : AllBare s.gens
/-- .. the exception at a is in hand -/
structure InHand (X : Cx) (pins : List (Addr × Obj)) (σ : L2.St) (H : Hp) (B : Heap) (cls : Value) (d : Option Addr) (a : Addr) (s : Shared) : Prop extends Beside X pins σ H B s where
  fly : HandSPX.FlyingZ B X.stack a (L2N.Zn cls d) s.heap
  out : H a = none
section
variable {X : Cx} {pins : List (Addr × Obj)} {σ : L2.St} {H : Hp} {B : Heap} {cls : Value} {d : Option Addr} {a : Addr} {s : Shared}
theorem Beside.inv (b : Beside X pins σ H B s) : Inv X pins σ H s := by
  obtain ⟨⟨sI, I, nb, up, os⟩, st, ag⟩ := b
  exact I.landed nb st up os ag
theorem Beside.go (b : Beside X pins σ H B s) {h : Heap} (st : B.StaysIn h) (up : s.heap.UpToSlots h) : Beside X pins σ H B { s with heap := h } := by
  obtain ⟨⟨sI, I, nb, up0, os⟩, _, ag⟩ := b
  exact ⟨⟨sI, I, nb, up0.trans up, os⟩, st, ag⟩
theorem InHand.obj (x : InHand X pins σ H B cls d a s) : ∃ oe vs, s.heap.get? a = some oe ∧ L2N.Zn cls d oe ∧ oe.data = .fields vs ∧ a ∉ frs X.stack := by
  obtain ⟨oe, vs, e, z, dd⟩ := x.fly.there
  refine ⟨oe, vs, e, z, dd, fun hm => ?_⟩
  obtain ⟨_, o, e2, n⟩ := x.fly.2.2.1.mem hm
  cases e.symm.trans e2
  exact n vs dd
/-- the suite's state -/
theorem InHand.suite (hs : X.stack = X.env :: X.outer) (hf : X.env.frame = some X.env.locals) (x : InHand X pins σ H B cls d a s) : ∃ oe vs, L2N.Zn cls d oe ∧ oe.data = .fields vs ∧ Inv (X.suite a ((a, oe) :: (X.pn ++ pins))) [] σ H s := by
  obtain ⟨oe, vs, e, z, dd, nf⟩ := x.obj
  rw [hs] at nf
  have hL : X.env.locals ∈ frs (X.env :: X.outer) := List.mem_filterMap.mpr ⟨X.env, List.mem_cons_self, hf⟩
  refine ⟨oe, vs, z, dd, x.inv.suite e dd x.out (fun q => nf (q ▸ hL)) fun hm => nf ?_⟩
  obtain ⟨e', he', q⟩ := List.mem_filterMap.mp hm
  exact List.mem_filterMap.mpr ⟨e', List.mem_cons_of_mem _ he', q⟩
/-- a clause's class is looked up, and asked -/
theorem InHand.asks (hs : X.stack = X.env :: X.outer) (hf : X.env.frame = some X.env.locals) (x : InHand X pins σ H B cls d a s) {n : Str} {c : Value} {np : Pos} {b : Bool} {Q : Bool → Shared → Prop} {E E' : Value → Shared → Prop} (hc : Names X n c) (hb : PySem.W.exmOne X.K cls c = some b)
    (q : Q b s) : wpAny (model X.prog X.w) (X.A.mark (some (.ref a))) (eval (.Name n np) X.env) (fun v s1 => wpAny (model X.prog X.w) (X.A.mark (some (.ref a))) (excMatches (.ref a) v) Q E s1) E' s := by
  obtain ⟨oe, _, e, z, _, _⟩ := x.obj
  obtain ⟨oe2, _, _, _, S⟩ := x.suite hs hf
  have ask := PySem.W.exm_one (M := model X.prog X.w) x.inv.kIn (fun A Q E s k q => wpAny_typeOf_ref (k _ _ e) (by rw [z.1]; exact q)) hb
  obtain ⟨hg, hd, hm | ⟨hm, hv, hn⟩⟩ := hc
  · exact ld_glob S hg hm (ask.here q) hd
  · exact ld_blt S hg hm hv (ask.here q) hn hd
/-- into the suite -/
theorem InHand.enter (x : InHand X pins σ H B cls d a s) {A : Around} {Q : Unit → Shared → Prop} {E : Value → Shared → Prop} (q : ∀ s1, InHand X pins σ H B cls d a s1 → Q () s1) : wpAny (model X.prog X.w) A (setFlight (.ref a) none) Q E s :=
  HandSPX.lands_againZ x.fly fun h f up => q _ { x.toBeside.go f.1 up with fly := f, out := x.out }
/-- no clause takes it: on it goes -/
theorem InHand.on (hs : X.stack = X.env :: X.outer) (hf : X.env.frame = some X.env.locals) (x : InHand X pins σ H B cls d a s) {W : WX} (tk : L2N.Takes X W) (w : W cls d σ H) {Q : Flow → Shared → Prop} : wpAny (model X.prog X.w) X.A (handleBy (.ref a) X.env []) Q X.xe s := by
  obtain ⟨⟨sI, I, nb, up, os⟩, _, ag⟩ := x.toBeside
  obtain ⟨_, _, _, oe, fv, T, _, _, e, _, dd, h1, _⟩ := id x.fly
  have flown : wpAny (model X.prog X.w) X.A (setFlight (.ref a) X.env.frame) (fun _ s1 => wpAny (model X.prog X.w) X.A (throw (.ref a) : Sem Flow) Q X.xe s1) X.xe s := by
    rw [hf]
    exact HandSPX.setFlight_upZ x.fly fun h k up2 => wpAny_throw (tk _ _ ⟨a, B, sI, pins, σ, H, cls, d, rfl, I, nb, up.trans up2, .inr (.inr k), x.out, os, ag, w⟩)
  refine wpAny_handleBy_nil ?_
  unfold PySem.passOn
  refine wpAny_bind (wpAny_field e dd h1 ?_)
  have ne : ¬((Value.ref T == Value.none) = true) := by simp
  rw [if_neg ne]
  first
    | exact wpAny_bind (wpAny_pure (wpAny_bind flown))
    | exact wpAny_bind flown
/-- the end of a named suite: the name goes -/
theorem suite_gone {i : Nat} {n : Str} {pos : Pos} {oe : Obj} {σ' : L2.St} {H' : Hp} {s' : Shared} {E : Value → Shared → Prop} {Q : Shared → Prop} (ok : X.Ok) (hN : X.N.Nodup) (hi : X.N[i]? = some n) (hl : X.env.kindOf n = some .local) (S : Inv (X.suite a ((a, oe) :: (X.pn ++ pins))) [] σ' H' s')
    (q : ∀ s2, Inv X pins (σ'.set i none) H' s2 → Q s2) : wpAny (model X.prog X.w) X.A (do bindName X.env n .none; unbindBehindTheSuite X.env n pos) (fun _ s2 => Q s2) E s' := gone_ok (S.unsuite ok) hN hi hl q
/-- the clauses, one after the other -/
theorem InHand.clauses (hs : X.stack = X.env :: X.outer) (hf : X.env.frame = some X.env.locals) {D : Ends} {Wout : WX} (tk : L2N.Takes X Wout) {hds : List ExceptHandler} {l : List (Value × Option Nat × (Addr → Value → Option Addr → TS))} (hh : HdsA X hds l) :
    InHand X pins σ H B cls d a s → wManyA X.K Wout D l cls d σ H → wpAny (model X.prog X.w) X.A (handleBy (.ref a) X.env hds) (SP X pins D) X.xe s := by
  induction hh with
  | nil => exact fun x w => x.on hs hf tk w
  | cons hc hsu _ ih =>
    rintro x ⟨b, hb, yes, no⟩
    refine wpAny_handleBy_cons (codeAny_handlers_test (x.asks hs hf hc hb ?_)) (by intro q; cases q)
    cases b with
    | false => exact ih x (no rfl)
    | true =>
      refine codeAny_handlers_suite (x.enter fun s1 x1 => ?_)
      obtain ⟨oe, fv, z, dd, S⟩ := x1.suite hs hf
      have ok := x1.inv.ok
      refine wpAny_mono ((hsu a oe cls d (X.pn ++ pins) z ⟨fv, dd⟩).run [] _ _ H _ S (yes rfl a x1.out)) (fun f s2 hq => ?_) (fun _ _ h => h.elim)
      match f, hq with
      | .next, ⟨_, _, S2, q⟩ => exact ⟨_, _, S2.unsuite ok, q⟩
      | .brk, ⟨_, _, S2, q⟩ => exact ⟨_, _, S2.unsuite ok, q⟩
      | .cont, ⟨_, _, S2, q⟩ => exact ⟨_, _, S2.unsuite ok, q⟩
      | .ret u, ⟨_, _, _, S2, r, q⟩ => exact ⟨_, _, _, S2.unsuite ok, r, q⟩
  | consA hc hN hi hln hsu _ ih =>
    rintro x ⟨b, hb, yes, no⟩
    refine wpAny_handleBy_cons (codeAny_handlers_test (x.asks hs hf hc hb ?_)) (by intro q; cases q)
    cases b with
    | false => exact ih x (no rfl)
    | true =>
      refine codeAny_handlers_suite_as (x.enter fun s1 x1 => ?_)
      obtain ⟨oe, fv, z, dd, S⟩ := x1.suite hs hf
      have ok := x1.inv.ok
      refine store_ok (X := X.suite a ((a, oe) :: (X.pn ++ pins))) (v := .ref a) S hN hi (.inl hln) rfl (fun s2 S1 => ?_) (.inr hln)
      refine wpAny_mono ((hsu a oe cls d (X.pn ++ pins) z ⟨fv, dd⟩).run [] s2 _ H _ S1 (yes rfl a x1.out)) (fun f s3 hq => ?_) (fun _ _ h => h.elim)
      match f, hq with
      | .next, ⟨_, _, S2, q⟩ => exact suite_gone ok hN hi hln S2 fun s4 J => ⟨_, _, J, q⟩
      | .brk, ⟨_, _, S2, q⟩ => exact suite_gone ok hN hi hln S2 fun s4 J => ⟨_, _, J, q⟩
      | .cont, ⟨_, _, S2, q⟩ => exact suite_gone ok hN hi hln S2 fun s4 J => ⟨_, _, J, q⟩
      | .ret u, ⟨_, _, _, S2, r, q⟩ => exact suite_gone ok hN hi hln S2 fun s4 J => ⟨_, _, _, J, r, q⟩
end
section
variable {X : Cx} {body : List Stmt} {h₀ : ExceptHandler} {hds : List ExceptHandler} {l : List (Value × Option Nat × (Addr → Value → Option Addr → TS))} {pos : Pos} {tb : WX → TS} {Wout : WX}
theorem ps_try_manyA (hs : X.stack = X.env :: X.outer) (hf : X.env.frame = some X.env.locals) (tk : L2N.Takes X Wout)
    (hb : ∀ (W : WX) (pn : List (Addr × Obj)) (xe : Value → Shared → Prop), L2N.Takes (X.tr pn xe) W → PassesOwn (model X.prog X.w) X.A X.env xe → PSs (X.tr pn xe) body (tb W))
    (hh : HdsA X (h₀ :: hds) l) : PS X (.Try body (h₀ :: hds) [] [] pos) (fun D σ H => tb (wManyA X.K Wout D l) D σ H) := by
  refine ⟨fun pins s σ H D I h => wpAny_Try_except ?_⟩
  have ok := I.ok
  have caught : L2N.Takes (X.tr (X.pn ++ pins) fun u s1 => wpAny (model X.prog X.w) X.A (noteFrame u X.env) (fun _ s2 => wpAny (model X.prog X.w) X.A (setFlight u none) (fun _ s3 => wpAny (model X.prog X.w) X.A (handleBy u X.env (h₀ :: hds)) (SP X pins D) X.xe s3) X.xe s2) X.xe s1) (wManyA X.K Wout D l) := by
    rintro u s1 ⟨a, B, sI, pins', σ1, H1, cls, d, rfl, J, nb, up, sky, na, os, ag, w⟩
    have J := J.ofTry ok
    refine L2N.Sky.land (B := B) (outer := X.outer) (a := a) (Z := L2N.Zn cls d) (L := X.env.locals) L2N.Zn.steady (by rw [ok.frames, hs]) hf (by rw [← hs]; exact sky) fun h2 f up2 => ?_
    rw [← hs] at f
    exact InHand.clauses hs hf tk hh ⟨⟨⟨sI, J, nb, up.trans up2, os⟩, f.1, ag⟩, f, na⟩ w
  refine wpAny_mono ((hb _ _ _ caught PassesOwn.looking).run [] s σ H D (I.toTry _) h) (fun f s1 hq => ?_) (fun _ _ z => z)
  match f, hq with
  | .next, ⟨_, _, J, q⟩ => exact wpAny_execs_nil ⟨_, _, J.ofTry ok, q⟩
  | .brk, ⟨_, _, J, q⟩ => exact ⟨_, _, J.ofTry ok, q⟩
  | .cont, ⟨_, _, J, q⟩ => exact ⟨_, _, J.ofTry ok, q⟩
  | .ret u, ⟨_, _, _, J, r, q⟩ => exact ⟨_, _, _, J.ofTry ok, r, q⟩
end
theorem Rel.unset [Bs] {K : PySem.W.Frag} {σ : L2.St} {H : Hp} {env : En} {io : List Addr} {F : Hp} {st : Sto} {i : Nat} (R : Rel K σ H env io F st) : Rel K (σ.set i none) H (env.set i none) io F st :=
  { R.toRelH with
    bs := R.bs
    sl := by rw [List.length_set, List.length_set]; exact R.sl
    slot := fun j d e => by
      by_cases hj : i = j
      · subst hj
        by_cases hl : i < env.length
        · rw [List.getElem?_set_self hl] at e; cases e
        · rw [List.getElem?_eq_none (by rw [List.length_set]; omega)] at e; cases e
      · rw [List.getElem?_set_ne hj] at e ⊢
        exact R.slot j d e }
/-- another base -/
theorem Rel.rebase {B B' : Bs} {K : PySem.W.Frag} {σ : L2.St} {H : Hp} {env : En} {io : List Addr} {F : Hp} {st : Sto} (R : @Rel B K σ H env io F st) (s : Stp B'.H B'.io B'.F H io F) : @Rel B' K σ H env io F st :=
  @Rel.mk B' _ _ _ _ _ _ _ (@Rel.toRelH B _ _ _ _ _ _ _ R) (@Rel.sl B _ _ _ _ _ _ _ R) (@Rel.slot B _ _ _ _ _ _ _ R) s
theorem rawD_den {K : PySem.W.Frag} {io : List Addr} {F : Hp} {a : Addr} : Den K io F (.ref a) (rawD a) := .fn (fun _ _ h => nomatch h) (fun _ _ h => nomatch h)
/-- a clause, read -/
def tCl (K : PySem.W.Frag) (cl : Cl) (a : Addr) (cls : Value) (d : Option Addr) : TS := fun D σ H => ∃ e env io F st, @Rel ⟨H, io, F⟩ K σ H env io F st ∧ ExcR K H io F cls d e ∧ cl.ws a e (@kD ⟨H, io, F⟩ K H io F D) env st
/-- clauses that are read -/
inductive ClsOk (X : Cx) : List ExceptHandler → List Cl → Prop
  | nil : ClsOk X [] []
  | cons {x : Str} {c : Value} {cl : Cl} {b₀ : Stmt} {suite : List Stmt} {np pos' : Pos} {hds : List ExceptHandler} {l : List Cl} (hx : cl.c = x) (hn : cl.nm = none) (hc : Names X x c)
      (hm : ∀ y C b, mtab y x = some b → PySem.W.nsIn X.K mainGlobals y = some (some (.ref C)) → PySem.W.exmOne X.K (.ref C) c = some b)
      (hsu : ∀ [B : Bs] (a : Addr) (oe : Obj) (cls : Value) (d : Option Addr) (e : Exc) (pn : List (Addr × Obj)), L2N.Zn cls d oe → (∃ vs, oe.data = .fields vs) → ExcR X.K B.H B.io B.F cls d e → WB (X.suite a ((a, oe) :: pn)) (b₀ :: suite) (cl.ws a e)) (r : ClsOk X hds l) :
      ClsOk X (.ExceptHandler (some (.Name x np)) none (b₀ :: suite) pos' :: hds) (cl :: l)
  | consA {x n : Str} {i : Nat} {c : Value} {cl : Cl} {b₀ : Stmt} {suite : List Stmt} {np pos' : Pos} {hds : List ExceptHandler} {l : List Cl} (hx : cl.c = x) (hn : cl.nm = some i) (hN : X.N.Nodup) (hi : X.N[i]? = some n) (hln : X.env.kindOf n = some .local) (hc : Names X x c)
      (hm : ∀ y C b, mtab y x = some b → PySem.W.nsIn X.K mainGlobals y = some (some (.ref C)) → PySem.W.exmOne X.K (.ref C) c = some b)
      (hsu : ∀ [B : Bs] (a : Addr) (oe : Obj) (cls : Value) (d : Option Addr) (e : Exc) (pn : List (Addr × Obj)), L2N.Zn cls d oe → (∃ vs, oe.data = .fields vs) → ExcR X.K B.H B.io B.F cls d e → WB (X.suite a ((a, oe) :: pn)) (b₀ :: suite) (cl.ws a e)) (r : ClsOk X hds l) :
      ClsOk X (.ExceptHandler (some (.Name x np)) (some n) (b₀ :: suite) pos' :: hds) (cl :: l)
section
variable {X : Cx} {body : List Stmt} {h₀ : ExceptHandler} {hds : List ExceptHandler} {pos : Pos}
theorem goneD_le {i : Nat} {D D' : DEnds} (h : D.le D') : (goneD i D).le (goneD i D') := ⟨fun e s q => h.nx _ _ q, h.rt, fun e s q => h.bk _ _ q, fun e s q => h.ct _ _ q⟩
/-- the ends, seen from a later state and another base -/
theorem kD_from {B B' : Bs} {K : PySem.W.Frag} {H H' : Hp} {io io' : List Addr} {F F' : Hp} {D : Ends} (hB : Stp B.H B.io B.F H io F) (s : Stp H io F H' io' F') : (@kD B K H io F D).le (@kD B' K H' io' F' D) :=
  ⟨fun e st h σ io2 F2 H2 t R => h σ io2 F2 H2 (s.trans t) (R.rebase (hB.trans (s.trans t))), fun d st h => kE_later s h, fun e st h σ io2 F2 H2 t R => h σ io2 F2 H2 (s.trans t) (R.rebase (hB.trans (s.trans t))),
    fun e st h σ io2 F2 H2 t R => h σ io2 F2 H2 (s.trans t) (R.rebase (hB.trans (s.trans t)))⟩
theorem kD_gone {B : Bs} {K : PySem.W.Frag} {H : Hp} {io : List Addr} {F : Hp} {D : Ends} {i : Nat} :
    (goneD i (@kD B K H io F D)).le (@kD B K H io F { nx := fun σ' H' => D.nx (σ'.set i none) H', rt := D.rt, bk := fun σ' H' => D.bk (σ'.set i none) H', ct := fun σ' H' => D.ct (σ'.set i none) H' }) :=
  ⟨fun e st h σ io2 F2 H2 t R => h _ io2 F2 H2 t R.unset, fun d st h => h, fun e st h σ io2 F2 H2 t R => h _ io2 F2 H2 t R.unset, fun e st h σ io2 F2 H2 t R => h _ io2 F2 H2 t R.unset⟩
theorem exists_clauses : ∀ {hds : List ExceptHandler} {cls : List Cl}, ClsOk X hds cls → ∃ l, HdsA X hds l ∧ ∀ {B : Bs} {R : DX} {Wout : WX} {D : Ends} {D0 : DEnds} {H : Hp} {io : List Addr} {F : Hp},
    (∀ e env st, R e env st → @kX B X.K Wout e env st) → Stp B.H B.io B.F H io F → D0.le (@kD B X.K H io F D) → ∀ e env st, wCls R D0 cls e env st → @kX ⟨H, io, F⟩ X.K (wManyA X.K Wout D l) e env st
  | _, _, .nil => ⟨[], .nil, fun {B R Wout D D0 H io F} hR hB le e env st q σ cls d io' F' H' R' x => hR e env st q σ cls d io' F' H' (R'.rebase (hB.trans (@Rel.bs ⟨H, io, F⟩ _ _ _ _ _ _ _ R'))) ⟨x.1, fun dd z => hB.none_of (x.2 dd z)⟩⟩
  | _, _, @ClsOk.cons _ y c cl b₀ suite np pos' hds l hx hn hc hm hsu r => by
    obtain ⟨l', hl, hk⟩ := exists_clauses r
    refine ⟨(c, none, tCl X.K cl) :: l', .cons hc (fun a oe cls d pn hz hf => ⟨fun pins s σ H D I ⟨e, env, io, F, st, Rl, xr, q⟩ => ?_⟩) hl, fun {B R Wout D D0 H io F} hR hB le e env st q σ cls d io' F' H' R' x => ?_⟩
    · letI : Bs := ⟨H, io, F⟩
      exact (hsu a oe cls d e pn hz hf xr).pe.run pins s σ H D I ⟨env, io, F, st, Rl, q⟩
    · obtain ⟨b, hb, hy, hno⟩ := q
      obtain ⟨C, e1, e2, e3⟩ := id x.1
      subst e1
      rw [hx] at hb
      refine ⟨b, hm _ _ _ hb e2, fun h a ha => ?_, fun h => hk hR hB le e env st (hno h) σ _ d io' F' H' R' x⟩
      have q := hy h a
      unfold Cl.go at q
      rw [hn] at q
      letI : Bs := ⟨H', io', F'⟩
      have mo := (hsu a { cls := .ref C, dict := d, data := .fields #[.none, .none, .none] } (.ref C) d e [] ⟨rfl, rfl, fun vs h => by cases h; rfl⟩ ⟨_, rfl⟩ x.1).mo
      have s1 : Stp H io F H' io' F' := @Rel.bs ⟨H, io, F⟩ _ _ _ _ _ _ _ R'
      refine ⟨e, env, io', F', st, R'.rebase Stp.refl, x.1, mo _ _ _ _ ⟨fun a b z => (kD_from hB s1).nx _ _ (le.nx _ _ z), fun a b z => (kD_from (B' := ⟨H', io', F'⟩) hB s1).rt _ _ (le.rt _ _ z), fun a b z => (kD_from hB s1).bk _ _ (le.bk _ _ z), fun a b z => (kD_from hB s1).ct _ _ (le.ct _ _ z)⟩ q⟩
  | _, _, @ClsOk.consA _ y n i c cl b₀ suite np pos' hds l hx hn hN hi hln hc hm hsu r => by
    obtain ⟨l', hl, hk⟩ := exists_clauses r
    refine ⟨(c, some i, tCl X.K cl) :: l', .consA hc hN hi hln (fun a oe cls d pn hz hf => ⟨fun pins s σ H D I ⟨e, env, io, F, st, Rl, xr, q⟩ => ?_⟩) hl, fun {B R Wout D D0 H io F} hR hB le e env st q σ cls d io' F' H' R' x => ?_⟩
    · letI : Bs := ⟨H, io, F⟩
      exact (hsu a oe cls d e pn hz hf xr).pe.run pins s σ H D I ⟨env, io, F, st, Rl, q⟩
    · obtain ⟨b, hb, hy, hno⟩ := q
      obtain ⟨C, e1, e2, e3⟩ := id x.1
      subst e1
      rw [hx] at hb
      refine ⟨b, hm _ _ _ hb e2, fun h a ha => ?_, fun h => hk hR hB le e env st (hno h) σ _ d io' F' H' R' x⟩
      have q := hy h a
      unfold Cl.go at q
      rw [hn] at q
      letI : Bs := ⟨H', io', F'⟩
      have mo := (hsu a { cls := .ref C, dict := d, data := .fields #[.none, .none, .none] } (.ref C) d e [] ⟨rfl, rfl, fun vs h => by cases h; rfl⟩ ⟨_, rfl⟩ x.1).mo
      have s1 : Stp H io F H' io' F' := @Rel.bs ⟨H, io, F⟩ _ _ _ _ _ _ _ R'
      have le2 : DEnds.le D0 (@kD ⟨H', io', F'⟩ X.K H' io' F' D) := ⟨fun a b z => (kD_from hB s1).nx _ _ (le.nx _ _ z), fun a b z => (kD_from (B' := ⟨H', io', F'⟩) hB s1).rt _ _ (le.rt _ _ z), fun a b z => (kD_from hB s1).bk _ _ (le.bk _ _ z), fun a b z => (kD_from hB s1).ct _ _ (le.ct _ _ z)⟩
      have le3 := goneD_le (i := i) le2
      have le4 := kD_gone (B := ⟨H', io', F'⟩) (K := X.K) (H := H') (io := io') (F := F') (D := D) (i := i)
      refine ⟨e, env.set i (some (rawD a)), io', F', st, Rel.set (R'.rebase Stp.refl) rawD_den, x.1, mo _ _ _ _ ⟨fun a b z => le4.nx _ _ (le3.nx _ _ z), fun a b z => le4.rt _ _ (le3.rt _ _ z), fun a b z => le4.bk _ _ (le3.bk _ _ z), fun a b z => le4.ct _ _ (le3.ct _ _ z)⟩ q⟩
theorem ws_try [Bs] {R : DX} {cls : List Cl} {wb : DX → DS} (hs : X.stack = X.env :: X.outer) (hf : X.env.frame = some X.env.locals) (tk : TkD X R)
    (hb : ∀ [Bs] (R' : DX) (pn : List (Addr × Obj)) (xe : Value → Shared → Prop), TkD (X.tr pn xe) R' → PassesOwn (model X.prog X.w) X.A X.env xe → WB (X.tr pn xe) body (wb R'))
    (hh : ClsOk X (h₀ :: hds) cls) : WS X (.Try body (h₀ :: hds) [] [] pos) (wTry wb cls R) := by
  obtain ⟨Wout, tk, hW⟩ := tk
  obtain ⟨l, hl, hk⟩ := exists_clauses hh
  rename_i B
  refine ⟨fun A A' e s le ⟨D0, R', l0, i, q⟩ => ⟨D0, R', ⟨fun a b z => le.nx _ _ (l0.nx _ _ z), fun a b z => le.rt _ _ (l0.rt _ _ z), fun a b z => le.bk _ _ (l0.bk _ _ z), fun a b z => le.ct _ _ (l0.ct _ _ z)⟩, i, q⟩, ?_⟩
  let tb : WX → TS := fun W D σ H => ∃ env io F st D0 R', Rel X.K σ H env io F st ∧ D0.le (kD X.K H io F D) ∧ (∀ e env st, R' e env st → @kX ⟨H, io, F⟩ X.K W e env st) ∧ wb R' D0 env st
  refine PS_imp (ps_try_manyA (tb := tb) hs hf tk (fun W pn xe tkW hp => ⟨fun p s σ H D I ⟨env, io, F, st, D0, R', Rl, le, hR, q⟩ => ?_⟩) hl) fun D σ H ⟨env, io, F, st, Rl, D0, R', le, i, q⟩ => ?_
  · have sB := Rl.bs
    letI : Bs := ⟨H, io, F⟩
    have W := hb R' pn xe ⟨W, tkW, hR⟩ hp
    have le2 := kD_from (B := B) (B' := ⟨H, io, F⟩) (K := X.K) (D := D) sB (Stp.refl (H := H) (io := io) (F := F))
    exact W.pe.run p s σ H D I ⟨env, io, F, st, @Rel.rebase B ⟨H, io, F⟩ _ _ _ _ _ _ _ Rl Stp.refl, W.mo _ _ _ _ ⟨fun a b z => le2.nx _ _ (le.nx _ _ z), fun a b z => le2.rt _ _ (le.rt _ _ z), fun a b z => le2.bk _ _ (le.bk _ _ z), fun a b z => le2.ct _ _ (le.ct _ _ z)⟩ q⟩
  · exact ⟨env, io, F, st, D0, R', Rl, le, fun e env st z => hk hW Rl.bs le e env st (i e env st z), q⟩
/-- nothing leaves -/
def noX : DX := fun _ _ _ => False
theorem tk_no [Bs] {X : Cx} : TkD X noX := ⟨fun _ _ _ _ => False, takes_noneN, fun _ _ _ h => h.elim⟩
/-- err.f in a suite -/
def wExf (e : Exc) (cn f : Str) (a : Addr) (we : DE) : DE := fun env st Q => we env st fun d s => d = rawD a ∧ e.cls = cn ∧ ∃ x, e.fs.lookup f = some x ∧ Q x s
theorem we_exf [B : Bs] {a C : Addr} {oe : Obj} {cls : Value} {d : Option Addr} {pn : List (Addr × Obj)} {ex : Expr} {e : Exc} {cn f : Str} {we : DE} (aC : PySem.W.nsIn X.K mainGlobals cn = some (some (.ref C))) (T : XfC X.K C) (hno : PySem.W.findIn X.K (.ref C) f = some none)
    (hz : L2N.Zn cls d oe) (hf : ∃ vs, oe.data = .fields vs) (xr : ExcR X.K B.H B.io B.F cls d e) (he : WE (X.suite a ((a, oe) :: pn)) ex we) (hb : attributeBase ex f X.env (eval ex X.env) = eval ex X.env := by rfl) :
    WE (X.suite a ((a, oe) :: pn)) (.Attribute ex f pos) (wExf e cn f a we) := by
  refine ⟨fun _ _ _ _ i q => he.mo _ _ _ _ (fun _ _ ⟨e1, e2, x, e3, q⟩ => ⟨e1, e2, x, e3, i _ _ q⟩) q, PE_imp (pe_xf T hno hz.zc hf he.pe hb) fun σ H Q ⟨env, io, F, st, R, q⟩ => ?_⟩
  refine tE_use he.mo R q fun dv s1 v io1 F1 H1 ⟨e1, e2, x, e3, q1⟩ t1 R1 n1 => ?_
  subst e1
  obtain ⟨C', c1, c2, ⟨c3, c4⟩ | ⟨dd, fv, c3, c4, c5, c6, c7⟩⟩ := xr.next R1.bs
  · rw [c4] at e3
    cases e3
  · rw [e2, aC] at c2
    cases c2
    obtain ⟨w, hw, nw⟩ := denF_at c7 e3
    have ev : v = .ref a := by cases n1; rfl
    exact ⟨ev, c1, dd, fv, w, c3, c4, hw, kE_at q1 t1 R1.toRelH nw⟩
end
end DL
namespace HotX
open PySem PySem.Spec PyProof.Rows
section
variable {prog : Program} {w : World} {A : Around} {E : Value → Shared → Prop} {s : Shared}
theorem HotAt.in1 {x1 : Addr} {h : Heap} (hot : HotAt A x1 h) : HotAt A.in1 x1 h := hot
end
end HotX
namespace DL
open PySem PySem.Spec PyProof.Rows L2 HotX
abbrev Hot (X : Cx) : Prop := L2H.HotC X
end DL
namespace DL
open PySem PySem.Spec PyProof.Rows L2 HotX
abbrev _root_.L2.Cx.blkH (X : Cx) (s : Shared) (H : Hp) (scope : Scope) (cenv : Env) (fp : List Addr) (pn : List (Addr × Obj)) : Cx := { X.blk s H scope cenv fp with pn := pn }
section
variable {X : Cx}
theorem blk_hot {s s' : Shared} {H H' : Hp} {scope : Scope} {cenv : Env} {fp : List Addr} {σ : L2.St} {p : Addr × Obj} (I : Inv (X.blk s H scope cenv fp) [] σ H' s')
    (h : ∀ q ∈ [p], s'.heap.get? q.1 = some q.2 ∧ H' q.1 = none ∧ q.1 ≠ cenv.locals ∧ q.1 ∉ frs X.stack ∧ ∀ v, q.2.data ≠ .cell v) : Inv (X.blkH s H scope cenv fp [p]) [] σ H' s' :=
  ⟨⟨I.ok.mod, I.ok.kind, I.ok.glob, I.ok.blt, I.ok.above, I.ok.inj, I.ok.has, I.ok.cab, I.ok.hd, I.ok.frames, I.ok.stk, I.ok.exf, I.ok.bs, I.ok.bsz, I.ok.noex, I.ok.exfs, I.ok.funs, I.ok.frf⟩,
    I.os, I.bare, I.base, I.loc, I.cell, I.free, I.freeC, fun q hq => h q (by rw [List.append_nil] at hq; exact hq), I.hok, I.len⟩
theorem lc_coreH {pins : List (Addr × Obj)} {s : Shared} {σ : L2.St} {H : Hp} {Q : VK} {elt tg iter : Expr} {ifs : List Expr} {scope : Scope} {own : List (Str × Nat)} {pos pos' : Pos} {wi : TI} {g : TG} {tt : TT} {te : TE} {use : Option (Value → Sem Unit)} {Qf : Value → Shared → Prop}
    (hc : Hot X) (hN : X.N.Nodup) (I : Inv X pins σ H s) (hi : L2H.PIH X tg iter wi) (ok : BlkOk X.N X.env.scope scope own)
    (hg : ∀ (s : Shared) (H : Hp) (C : Addr) (cl : List (Str × Addr)) (fp : List Addr) (pn : List (Addr × Obj)), Hot (X.blkH s H scope (compEnvC scope cl C X.env) fp pn) → PG (X.blkH s H scope (compEnvC scope cl C X.env) fp pn) tg g)
    (ht : ∀ (s : Shared) (H : Hp) (C : Addr) (cl : List (Str × Addr)) (fp : List Addr) (pn : List (Addr × Obj)), Hot (X.blkH s H scope (compEnvC scope cl C X.env) fp pn) → PTs (X.blkH s H scope (compEnvC scope cl C X.env) fp pn) ifs tt)
    (he : ∀ (s : Shared) (H : Hp) (C : Addr) (cl : List (Str × Addr)) (fp : List Addr) (pn : List (Addr × Obj)), Hot (X.blkH s H scope (compEnvC scope cl C X.env) fp pn) → PE (X.blkH s H scope (compEnvC scope cl C X.env) fp pn) elt te)
    (hs : ∀ x, foldedSetIterable iter X.env x = pure x) (h : tLc wi g tt te (own.map (·.2)) σ H Q)
    (hRR : ∀ D C s' m H', Inv X pins σ H' s' → Q (.ref D) H' → s'.heap.Ns C m → FpOk X pins H' C → compPost (model X.prog X.w) X.A X.xe use Qf (.ref D) C (.ok .next) s') :
    wpAny (model X.prog X.w) X.A (comprehension (.ListComp elt [⟨tg, iter, ifs, 0⟩] scope pos) scope X.env pos' (newList []) false (eval iter X.env) use) Qf X.xe s := by
  obtain ⟨p, hot1, hp⟩ := hc
  refine wpAny_comprehension_free (use := use) rfl hs (closure_ok fun y hy e => (ok.free y hy e).elim (fun k => I.ok.has _ (.inl k)) fun k => I.ok.has _ (.inr k)) ok.kind (fun y hy e => by rw [ok.uniq y hy, e])
    (thn (hi.run pins s σ H _ I h) fun xv s1 hx => thn hx fun itv s2 h2 => ?_)
  obtain ⟨it, fp, tn, J, H2, e, I2, T, st2, f2, q⟩ := h2
  subst e
  refine wpAny_newObj_type (newEnv_comp ?_) (by show 0 ≤ sizeLine; decide)
  generalize hD : s2.heap.objs.size = D
  have hDn : H2 D = none := I2.hok.fresh (Nat.le_of_eq hD)
  obtain ⟨W, ⟨m0, w0⟩, turn⟩ := q D hDn
  -- the list that grows
  generalize hs3 : ({ s2 with heap := s2.heap.push { cls := .type "list", data := .seq ([] : List Value).toArray } } : Shared) = s3
  have h3 : s3.heap = s2.heap.push { cls := .type "list", data := .seq ([] : List Value).toArray } := by rw [← hs3]
  have I3 : Inv X pins σ (upd H2 D (.lst [])) s3 := by
    rw [← hs3]
    refine I2.laid (t' := s2.toks) (fun b o e => Heap.get?_push_of_some _ e) (Nat.le_of_eq hD) ⟨Nat.zero_le _, [], 0, .nil, ?_⟩
    rw [← hD]
    exact Heap.get?_push_size _ rfl
  have sz : ∀ b ∈ fp, b < s2.heap.objs.size := fun b hb => let ⟨o, e, _⟩ := T.obj _ _ st2 b hb; Heap.lt_size e
  have f3 : ∀ b ∈ fp, FpOk X pins (upd H2 D (.lst [])) b ∧ b < s3.heap.objs.size := fun b hb => by
    have hlt := sz b hb
    refine ⟨⟨?_, (f2 b hb).2⟩, by rw [h3, Heap.size_push]; exact Nat.lt_succ_of_lt hlt⟩
    rw [upd_ne (by rw [← hD]; exact Nat.ne_of_lt hlt)]
    exact (f2 b hb).1
  have st3 : tn 0 s3.heap := T.keep _ _ _ st2 fun b _ o e => by rw [h3]; exact Heap.get?_push_of_some _ e
  have P3 := I3.pin p (List.mem_append_left _ hp)
  have nst : p.1 ∉ frs X.stack := fun hm => (List.mem_cons.mp (I3.stkSub p.1 hm)).elim P3.2.2.1 P3.2.2.2.1
  have I4 := blk_hot (block_start I3 ok hN f3) (p := p) (fun q hq => by
    obtain rfl := List.mem_singleton.mp hq
    exact ⟨pushCells_keeps _ _ _ _ (Heap.get?_push_of_some _ P3.1), P3.2.1, Nat.ne_of_lt (Heap.lt_size P3.1), nst, P3.2.2.2.2⟩)
  have hotB : ∀ ce, Hot (X.blkH s3 (upd H2 D (.lst [])) scope ce fp [p]) := fun ce => ⟨p, hot1, List.mem_singleton.mpr rfl⟩
  have pg := hg s3 (upd H2 D (.lst [])) s3.heap.objs.size (cellsFrom (s3.heap.objs.size + 1) scope.names (cloFrom X.env.cells scope.names [])) fp [p] (hotB _)
  have pt := ht s3 (upd H2 D (.lst [])) s3.heap.objs.size (cellsFrom (s3.heap.objs.size + 1) scope.names (cloFrom X.env.cells scope.names [])) fp [p] (hotB _)
  have pe := he s3 (upd H2 D (.lst [])) s3.heap.objs.size (cellsFrom (s3.heap.objs.size + 1) scope.names (cloFrom X.env.cells scope.names [])) fp [p] (hotB _)
  show codeAny _ _ (.compStart (.ListComp elt [⟨tg, iter, ifs, 0⟩] scope pos) 0 (.ref it) (.ref D) (compEnvC scope (cellsFrom (s3.heap.objs.size + 1) scope.names (cloFrom X.env.cells scope.names [])) s3.heap.objs.size X.env)) (compPost (model X.prog X.w) X.A X.xe use Qf (.ref D) s3.heap.objs.size) { s3 with heap := pushCells (s3.heap.push { cls := .type "dict", data := .dict #[] }) scope.names }
  have nfp : ∀ b ∈ fp, (upd H2 D (.lst [])) b = none := fun b hb => (f3 b hb).1.1
  generalize hce : compEnvC scope (cellsFrom (s3.heap.objs.size + 1) scope.names (cloFrom X.env.cells scope.names [])) s3.heap.objs.size X.env = ce at I4 pg pt pe ⊢
  have cL : ce.locals = s3.heap.objs.size := by subst hce; rfl
  generalize hH3 : upd H2 D (.lst []) = H3 at I3 I4 pg pt pe w0 nfp f3 hotB
  generalize hs4 : ({ s3 with heap := pushCells (s3.heap.push { cls := .type "dict", data := .dict #[] }) scope.names } : Shared) = s4 at I4 ⊢
  have st4 : tn 0 s4.heap := T.keep _ _ _ st3 fun b _ o e => by rw [← hs4]; exact pushCells_keeps _ _ _ _ (Heap.get?_push_of_some _ e)
  have stat : ∀ {σ' : L2.St} {H' : Hp} {s' : Shared}, Inv (X.blkH s3 H3 scope ce fp [p]) [] σ' H' s' → (∀ b ∈ fp, H' b = none) → ∀ b ∈ fp, FpOk (X.blkH s3 H3 scope ce fp [p]) [] H' b := fun {σ' H' s'} I' hn b hb =>
    ⟨hn b hb, (I'.ok.exf b hb).1, I'.ok.exfs b hb, .inl hb, fun x c e => (I'.ok.exf b hb).2 x c e, fun q hq => by
      have e : q = p := by simpa using (show q ∈ [p] ++ ([] : List (Addr × Obj)) from hq)
      rw [e]
      exact (f3 b hb).1.2.2.2.2.2 p (List.mem_append_left _ hp)⟩
  have loop : codeAny (model X.prog X.w) X.A (.compLoop (.ListComp elt [⟨tg, iter, ifs, 0⟩] scope pos) 0 (.ref it) (.ref D) ce) (compPost (model X.prog X.w) X.A X.xe use Qf (.ref D) s3.heap.objs.size) s4 := by
    refine compLoop_any (fun n s' => ∃ i H', Inv (X.blkH s3 H3 scope ce fp [p]) [] (wipe σ (own.map (·.2))) H' s' ∧ tn i s'.heap ∧ (∀ b ∈ fp, H' b = none) ∧ W i n H') ?_ m0 ⟨0, H3, I4, st4, nfp, w0⟩
    rintro n s5 ⟨i, H5, I5, st5, n5, w5⟩
    rcases turn i n H5 w5 with ⟨stop, qq⟩ | ⟨go, Nx, hNx, step⟩
    · refine thnF (T.done (X.blkH s3 H3 scope ce fp [p]) rfl rfl rfl (hotB ce) i [] s5 _ H5 (fun _ _ => False) I5 (stat I5 n5) st5 stop) fun r s6 ⟨hr, I6⟩ => ?_
      subst hr
      have I7 : Inv X pins σ H5 s6 := I3.call' (ch := fp) I6.os I6.base I6.hok I6.bare fun b hb => ⟨(f3 b hb).1.2.2.2.1, (f3 b hb).1.2.1, (f3 b hb).1.2.2.2.2.1, (f3 b hb).1.2.2.2.2.2⟩
      have nC : H5 s3.heap.objs.size = none := by
        have z : H5 ce.locals = none := I6.free
        rw [cL] at z
        exact z
      obtain ⟨m, hn, _⟩ := I6.loc
      have hn : s6.heap.Ns ce.locals m := hn
      rw [cL] at hn
      exact hRR D s3.heap.objs.size s6 m H5 I7 qq hn (I3.fpOk (Nat.le_refl _) nC)
    · refine thnF (T.item (X.blkH s3 H3 scope ce fp [p]) rfl rfl rfl (hotB ce) i [] s5 _ H5 (fun _ _ => False) I5 (stat I5 n5) st5 go) fun r s6 ⟨u, hr, h6⟩ => ?_
      subst hr
      refine thnF h6 fun _ s7 ⟨x, H7, I7, r7, y7, st7, n7⟩ => ?_
      refine thnF (pg.run _ s7 _ H7 x u _ (I7.pinned (stat I7 n7) (T.obj _ _ st7)) r7 (step x H7 y7)) fun _ s8 ⟨σ8, H8, I8, hw8, q8⟩ => ?_
      refine thnF (pt.run _ s8 σ8 H8 _ I8 q8) fun b s9 ⟨H9, I9, q9⟩ => ?_
      -- what stands behind a turn
      have fin : ∀ {s' : Shared} {H' : Hp}, Inv (X.blkH s3 H3 scope ce fp [p]) ([] ++ pinsAt fp s7.heap) σ8 H' s' → Nx H' → ∃ m, m < n ∧ ∃ i H', Inv (X.blkH s3 H3 scope ce fp [p]) [] (wipe σ (own.map (·.2))) H' s' ∧ tn i s'.heap ∧ (∀ b ∈ fp, H' b = none) ∧ W i m H' := fun {s' H'} I' nx => by
        obtain ⟨m', hm, w'⟩ := hNx H' nx
        have pin' : ∀ b ∈ fp, ∀ o, s7.heap.get? b = some o → s'.heap.get? b = some o ∧ H' b = none := fun b hb o e =>
          let z := I'.pin (b, o) (List.mem_append_right _ (List.mem_append_right _ (mem_pinsAt hb e)))
          ⟨z.1, z.2.1⟩
        have hl : (wipe σ (own.map (·.2))).length = σ8.length := by rw [← hw8, wipe_length]
        refine ⟨m', hm, i + 1, H', (I'.unpinned (pins := [])).weak hl (fun j v e => ?_), T.keep _ _ _ st7 fun b hb o e => (pin' b hb o e).1, fun b hb => ?_, w'⟩
        · rw [← hw8] at e
          exact (wipe_some e).1
        · obtain ⟨o, e, _⟩ := T.obj _ _ st7 b hb
          exact (pin' b hb o e).2
      match b, q9 with
      | false, q9 =>
        simp only [Bool.false_eq_true, if_false] at q9 ⊢
        exact fin I9 q9
      | true, q9 =>
        simp only [if_true] at q9 ⊢
        refine thnF (pe.run _ s9 σ8 H9 _ I9 q9) fun z s10 ⟨yv, H10, I10, r10, acc, hD10, hz10, nx⟩ => ?_
        exact app_ok (X := X.blkH s3 H3 scope ce fp [p]) I10 hD10 hz10 r10 fun s11 I11 => fin I11 nx
  exact codeAny_compStart_list loop (T.self X.A 0 _ _ _ st4 loop)
theorem pe_lcH {elt tg iter : Expr} {ifs : List Expr} {scope : Scope} {own : List (Str × Nat)} {pos : Pos} {wi : TI} {g : TG} {tt : TT} {te : TE} (hc : Hot X) (hN : X.N.Nodup) (hi : L2H.PIH X tg iter wi) (ok : BlkOk X.N X.env.scope scope own)
    (hg : ∀ (s : Shared) (H : Hp) (C : Addr) (cl : List (Str × Addr)) (fp : List Addr) (pn : List (Addr × Obj)), Hot (X.blkH s H scope (compEnvC scope cl C X.env) fp pn) → PG (X.blkH s H scope (compEnvC scope cl C X.env) fp pn) tg g) (ht : ∀ (s : Shared) (H : Hp) (C : Addr) (cl : List (Str × Addr)) (fp : List Addr) (pn : List (Addr × Obj)), Hot (X.blkH s H scope (compEnvC scope cl C X.env) fp pn) → PTs (X.blkH s H scope (compEnvC scope cl C X.env) fp pn) ifs tt) (he : ∀ (s : Shared) (H : Hp) (C : Addr) (cl : List (Str × Addr)) (fp : List Addr) (pn : List (Addr × Obj)), Hot (X.blkH s H scope (compEnvC scope cl C X.env) fp pn) → PE (X.blkH s H scope (compEnvC scope cl C X.env) fp pn) elt te) (hs : ∀ x, foldedSetIterable iter X.env x = pure x := by intro _; rfl) :
    PE X (.ListComp elt [⟨tg, iter, ifs, 0⟩] scope pos) (tLc wi g tt te (own.map (·.2))) := by
  refine ⟨fun pins s σ H Q I h => ?_⟩
  rw [eval_ListComp]
  refine lc_coreH hc hN I hi ok hg ht he hs h fun D C s' m H' I' q hn f => ⟨m, hn, fun h'' sb => ?_⟩
  obtain ⟨f0, f1, f2, f3, f4, f5⟩ := f
  exact ⟨.ref D, H', I'.turned (t' := s'.toks) (fun b o hb e => (sb.2 b hb).trans e) f0 f1 f3 f4 f5, rfl, q⟩
end
section
variable [Bs] {X : Cx} {pos spos p tpos : Pos} {elt tg iter e e2 : Expr} {ifs : List Expr} {scope : Scope} {own : List (Str × Nat)} {wi : DI} {t : Tg} {c : DT} {w we : DE} {wa : DA} {m : Bool} {body : List Stmt} {g : DG} {b : DS}
structure WIH (X : Cx) (tg iter : Expr) (w : DI) : Prop where
  mo : MoI w
  pe : L2H.PIH X tg iter (tI X.K w)
omit [Bs] in
theorem PIH_imp {t t' : TI} (h : L2H.PIH X tg iter t) (i : ∀ σ H R, t' σ H R → t σ H R) : L2H.PIH X tg iter t' := ⟨fun p s σ H R I q => h.run p s σ H R I (i σ H R q)⟩
theorem we_lcH (hc : Hot X) (hN : X.N.Nodup) (hi : WIH X tg iter wi) (ok : BlkOk X.N X.env.scope scope own) (hv : ∀ i ∈ t.ix, i ∈ own.map (·.2))
    (hg : ∀ (s : Shared) (H : Hp) (C : Addr) (cl : List (Str × Addr)) (fp : List Addr) (pn : List (Addr × Obj)), Hot (X.blkH s H scope (compEnvC scope cl C X.env) fp pn) → PG (X.blkH s H scope (compEnvC scope cl C X.env) fp pn) tg (t.tg X.K)) (ht : ∀ (s : Shared) (H : Hp) (C : Addr) (cl : List (Str × Addr)) (fp : List Addr) (pn : List (Addr × Obj)), Hot (X.blkH s H scope (compEnvC scope cl C X.env) fp pn) → WTs (X.blkH s H scope (compEnvC scope cl C X.env) fp pn) ifs c) (he : ∀ (s : Shared) (H : Hp) (C : Addr) (cl : List (Str × Addr)) (fp : List Addr) (pn : List (Addr × Obj)), Hot (X.blkH s H scope (compEnvC scope cl C X.env) fp pn) → WE (X.blkH s H scope (compEnvC scope cl C X.env) fp pn) elt w) (hs : ∀ x, foldedSetIterable iter X.env x = pure x := by intro _; rfl) :
    WE X (.ListComp elt [⟨tg, iter, ifs, 0⟩] scope pos) (wComp m wi t c w (own.map (·.2))) := by
  obtain ⟨p, h1, h2⟩ := id hc
  have hB : Hot (X.blkH X.s_0 X.H_0 scope (compEnvC scope [] 0 X.env) [] [p]) := ⟨p, h1, List.mem_singleton.mpr rfl⟩
  have mt := (ht X.s_0 X.H_0 0 [] [] [p] hB).mo
  have me := (he X.s_0 X.H_0 0 [] [] [p] hB).mo
  exact ⟨moComp hi.mo mt me, PE_imp (pe_lcH hc hN hi.pe ok hg (fun s H C cl fp pn z => (ht s H C cl fp pn z).pe) (fun s H C cl fp pn z => (he s H C cl fp pn z).pe) hs) fun σ H Q h => tLc_of hi.mo mt me hv h⟩
theorem wi_range1H {wa : DA} (hg : Gl X "range") (hm : X.mg "range" = none) (ha : WA X [e] wa) (hs : starEach [e] X.env = [(false, eval e X.env)] := by rfl) : WIH X tg (.Call (.Name "range" p) [e] [] pos) (iRange1 wa) := by
  refine ⟨fun _ _ _ _ h q => ha.mo _ _ _ _ (fun _ _ ⟨j, e, h1, h2, q⟩ => ⟨j, e, h1, h2, h _ _ _ q⟩) q, PIH_imp (L2H.pi_range1H hg hm ha.pe hs) fun σ H R ⟨env, io, F, st, Rl, q⟩ => ?_⟩
  refine tA_use ha.mo Rl q fun ds s1 vs io1 F1 H1 ⟨j, ed, h1, h2, q1⟩ t1 R1 n1 => ?_
  subst ed
  cases n1 with
  | cons n1 n2 =>
    cases n1
    cases n2
    exact ⟨j, rfl, h1, h2, q1 _ _ _ _ t1 R1.toRelH walkD_range⟩
end
theorem _root_.L2H.RoomH.units {k : Nat} {A : Around} (r : L2H.RoomH k A) : A.units + 64 < cLine := by have := r.un; omega
theorem _root_.L2H.RoomH.units0 {k : Nat} {A : Around} (r : L2H.RoomH k A) : A.units < cLine := by have := r.un; omega
structure FnQ (P : Program) (w : World) (K : PySem.W.Frag) (mg : Str → Option Value) (base : Heap) (CX : CXT) (k : Nat) (f : Addr) (fd : FuncData) (ps : List Str) (sp : Sp) : Prop where
  len : ∀ vs H Q E, sp vs H Q E → vs.length = ps.length
  run : ∀ (A : Around) (outer : List Env) (s : Shared) (H : Hp) (args : Args) (us : List Value) (vs : List V) (Q : VK) (E : XK) (p : Addr × Obj), L2H.RoomH k A → A.guards = some [] → L2H.Hot1 A p → L2H.PinOk outer H s p → Env0 P w K mg base A outer s H → BindsTo s fd args (ps.zip us) →
    Vals vs us → sp vs H Q E → codeAny (model P w) A (.call (.ref f) args) (CR CX outer P w H s Q E) s
theorem FnQ.mono {P : Program} {w : World} {K : PySem.W.Frag} {mg : Str → Option Value} {base : Heap} {CX : CXT} {j k : Nat} {f : Addr} {fd : FuncData} {ps : List Str} {sp : Sp} (F : FnQ P w K mg base CX j f fd ps sp) (h : j ≤ k) :
    FnQ P w K mg base CX k f fd ps sp := ⟨F.len, fun A outer s H args us vs Q E p hr => F.run A outer s H args us vs Q E p (hr.mono h)⟩
section
variable {P : Program} {w : World} {K : PySem.W.Frag} {mg : Str → Option Value} {base : Heap}
theorem hot_cx {N : List Str} {qual : Str} {sc : Scope} {f : Addr} {cdv : Value} {A : Around} {outer : List Env} {s : Shared} {H : Hp} {E : XK} {p : Addr × Obj} (h : L2H.Hot1 A p) : Hot (L2H.cxH CX0 P w K mg base N qual sc f cdv A outer s H E p).nox := ⟨p, h, List.mem_singleton.mpr rfl⟩
end
theorem roomS {k : Nat} {A : Around} {h : Option Value} (hr : Room k A) : L2H.RoomH k (A.mark h) := ⟨hr.dp, hr.un⟩
end DL
namespace DL
open PySem PySem.Spec PySem.Calls PyProof.Rows
theorem exc_class {prog : Program} {w : World} {A : Around} {E : Value → Shared → Prop} {s : Shared} {K : PySem.W.Frag} {x D : Addr} {ox : Obj} {od : Option Obj} {Q : Option Value → Shared → Prop} (T : L2.ExcC K D)
    (X : K.In s.heap) (I : PySem.W.InstAt s.heap x ox D od) (h : Q (some (.ref D)) { s with toks := s.toks + 1 }) : wpAny (model prog w) A (getAttr? (.ref x) "__class__") Q E s := by
  have hf : PySem.W.findObj K D od "__class__" = some (.bind (.builtin "getset_descriptor.__get__") (.builtin "object.__class__")) := by
    obtain ⟨cd, hc, _⟩ := PySem.W.any_some T.hd
    unfold PySem.W.findObj; rw [hc, Option.bind_some, T.ha, Option.bind_some]; simp [T.hn, T.ht]
  obtain ⟨hp, g, d, t, os⟩ := s
  have L0 := I.type (M := model prog w); have L1 := PySem.W.looks_findIn (M := model prog w) X T.hg
  have L2 := PySem.W.looks_findIn (M := model prog w) X T.hk; have L3 := PySem.W.looks_find (M := model prog w) X I hf
  have sub : PySem.W.Looks (model prog w) hp (isInstance (.ref x) (.type "BaseException")) true := L0.andThen (PySem.W.looks_subIn X T.hs)
  have a0 : (false && onTheHeap (Value.builtin "BaseException.__getattribute__")) = false := rfl
  have a1 : (onTheHeap (Value.ref D) && Value.builtin "BaseException.__getattribute__" == Value.builtin "object.__getattribute__") = false := by
    rw [show (Value.builtin "BaseException.__getattribute__" == Value.builtin "object.__getattribute__") = false by decide +kernel] <;> rfl
  unfold getAttr? getAttrBy? getAttrBy; refine wpAny_bind (wpAny_mkText (wpAny_bind (wpAny_attempt (wpAny_holding (wpAny_bind (L0.at (wpAny_bind (L1.at ?_))))))))
  change wpAny _ _ (if (onTheHeap (Value.ref D) && Value.builtin "BaseException.__getattribute__" == Value.builtin "object.__getattribute__") = true then _ else _) _ _ _; rw [a1, if_neg Bool.false_ne_true]; unfold getAttrByItsOwn hookBefore
  refine wpAny_bind ?_; rw [if_pos (show onTheHeap (Value.ref D) = true from rfl)]
  refine L2.at (wpAny_bind (wpAny_attempt (wpAny_holding ?_))); unfold callGetattribute
  rw [a0, if_neg Bool.false_ne_true]; unfold boundAndCalled; rw [PySem.F.excAttr_ValueError.ga.bind (.ref x)]
  refine wpAny_bind (wpAny_pure ?_); change wpAny _ _ (call (.builtin "BaseException.__getattribute__") [.ref x, .str "__class__" t]) _ _ _
  refine wpAny_call (codeAny_call_builtin PySem.F.excAttr_ValueError.ga.plain PySem.F.entry_bexc_ga (@PySem.W.check_slot (model prog w) _ _ ⟨hp, g, d, t + 1, os⟩ "BaseException.__getattribute__" "BaseException" "__getattribute__" (.ref x) [.str "__class__" t] [] _ (by decide +kernel) (by decide +kernel) sub (PySem.F.args_bexc_ga (.ref x) (.str "__class__" t)) ?_))
  unfold Builtin.«object.__getattribute__»
  refine wpAny_bind (wpAny_of_eq (a := ((Value.ref x : Value), [Value.str "__class__" t])) (by first | rfl | (simp only [slotArgs]; rfl)) (wpAny_bind (wpAny_pure (wpAny_bind (L0.at (wpAny_bind (L3.at ?_)))))))
  change wpAny _ _ (holding [Value.builtin "object.__class__"] (call (.builtin "getset_descriptor.__get__") [.builtin "object.__class__", .ref x, .ref D]) >>= ret) _ _ _
  refine wpAny_bind (wpAny_holding (wpAny_call (PySem.W.class_get (s := ⟨hp, g, d, t + 1, os⟩) (ox := ox) (od := od) X I T.hm (wpAny_pure ?_)))); change wpAny _ _ (handedOut (.ref D)) _ _ _; rw [PySem.W.handedOut_of (v := .ref D) rfl]
  first | exact wpAny_pure (wpAny_pure h) | exact wpAny_pure h | exact wpAny_pure (wpAny_bind (wpAny_pure (wpAny_pure h)))
theorem exc_kit {K : PySem.W.Frag} {x D : Addr} {ox : Obj} {od : Option Obj} (T : L2.ExcC K D) : PySem.W.KitX K (.ref x) (.ref D) (fun h => PySem.W.InstAt h x ox D od) where
  ty := fun _ _ _ I => I.type
  it := fun M h X _ => by
    obtain ⟨cd, hc, _⟩ := PySem.W.any_some T.hd
    unfold PySem.W.clsIn at hc
    split at hc
    · rename_i ho; intro A Q E s k q; unfold isType loadHead; exact wpAny_bind (wpAny_loadPart (k _ _ (X _ _ ho)) (wpAny_pure q))
    · cases hc
  ne := fun h tp dd its n sl X htp => by
    obtain ⟨cd, hc, _⟩ := PySem.W.any_some T.hd
    refine Bool.eq_false_iff.mpr fun q => ?_
    cases Value.ref.inj (beq_iff_eq.mp q)
    unfold PySem.W.clsIn at hc
    split at hc
    · rename_i ho; cases (X _ _ ho).symm.trans htp
    · cases hc
  ca := fun X I k => exc_class T X I k
end DL
namespace DL
open PySem PySem.Spec PyProof.Rows L2
/-- an exception as a value -/
def Exc.d (e : Exc) : D := .exc e.cls (e.fs.map (·.1)) (e.fs.map (·.2))
/-- what the classes say -/
structure XcK (K : PySem.W.Frag) : Prop where
  c : ∀ c C, c ∈ errNames → PySem.W.nsIn K mainGlobals c = some (some (.ref C)) → ExcC K C
def IsKX (K : PySem.W.Frag) (u : Value) (f : Str → Bool) : Prop := ∀ c C, c ∈ errNames → PySem.W.nsIn K mainGlobals c = some (some (.ref C)) → PySem.W.kitOne K (.ref C) u = some (f c)
theorem xk_all {K : PySem.W.Frag}
    (h1 : ∀ C, PySem.W.nsIn K mainGlobals "TooMany" = some (some (.ref C)) → ExcC K C) (h2 : ∀ C, PySem.W.nsIn K mainGlobals "NoPlan" = some (some (.ref C)) → ExcC K C)
    (h3 : ∀ C, PySem.W.nsIn K mainGlobals "NoRoom" = some (some (.ref C)) → ExcC K C) (h4 : ∀ C, PySem.W.nsIn K mainGlobals "NotEven" = some (some (.ref C)) → ExcC K C)
    (h5 : ∀ C, PySem.W.nsIn K mainGlobals "NoDeed" = some (some (.ref C)) → ExcC K C) (h6 : ∀ C, PySem.W.nsIn K mainGlobals "NoText" = some (some (.ref C)) → ExcC K C) : XcK K := ⟨fun c C hm hn => by
  simp only [errNames, List.mem_cons, List.not_mem_nil, or_false] at hm
  rcases hm with rfl | rfl | rfl | rfl | rfl | rfl
  · exact h1 C hn
  · exact h2 C hn
  · exact h3 C hn
  · exact h4 C hn
  · exact h5 C hn
  · exact h6 C hn⟩
theorem isk_all {K : PySem.W.Frag} {u : Value} {f : Str → Bool}
    (h1 : ∀ C, PySem.W.nsIn K mainGlobals "TooMany" = some (some (.ref C)) → PySem.W.kitOne K (.ref C) u = some (f "TooMany")) (h2 : ∀ C, PySem.W.nsIn K mainGlobals "NoPlan" = some (some (.ref C)) → PySem.W.kitOne K (.ref C) u = some (f "NoPlan"))
    (h3 : ∀ C, PySem.W.nsIn K mainGlobals "NoRoom" = some (some (.ref C)) → PySem.W.kitOne K (.ref C) u = some (f "NoRoom")) (h4 : ∀ C, PySem.W.nsIn K mainGlobals "NotEven" = some (some (.ref C)) → PySem.W.kitOne K (.ref C) u = some (f "NotEven"))
    (h5 : ∀ C, PySem.W.nsIn K mainGlobals "NoDeed" = some (some (.ref C)) → PySem.W.kitOne K (.ref C) u = some (f "NoDeed")) (h6 : ∀ C, PySem.W.nsIn K mainGlobals "NoText" = some (some (.ref C)) → PySem.W.kitOne K (.ref C) u = some (f "NoText")) : IsKX K u f := fun c C hm hn => by
  simp only [errNames, List.mem_cons, List.not_mem_nil, or_false] at hm
  rcases hm with rfl | rfl | rfl | rfl | rfl | rfl
  · exact h1 C hn
  · exact h2 C hn
  · exact h3 C hn
  · exact h4 C hn
  · exact h5 C hn
  · exact h6 C hn
theorem bb_ValueError : bootBuiltins "ValueError" = some (.type "ValueError") := by decide +kernel
end DL
namespace DL
open PySem PySem.Spec PyProof.Rows L2 HotX
structure FnX (P : Program) (w : World) (K : PySem.W.Frag) (mg : Str → Option Value) (base : Heap) (CX : CXT) (k : Nat) (f : Addr) (fd : FuncData) (ps : List Str) (sp : Addr × Obj → Sp) : Prop where
  len : ∀ p vs H Q E, sp p vs H Q E → vs.length = ps.length
  run : ∀ (A : Around) (outer : List Env) (s : Shared) (H : Hp) (args : Args) (us : List Value) (vs : List V) (Q : VK) (E : XK) (p : Addr × Obj), L2H.RoomH k A → A.guards = some [] → L2H.Hot1 A p → L2H.PinOk outer H s p → Env0 P w K mg base A outer s H → BindsTo s fd args (ps.zip us) →
    Vals vs us → sp p vs H Q E → codeAny (model P w) A (.call (.ref f) args) (CR CX outer P w H s Q E) s
def spXP (K : PySem.W.Frag) (S : Addr → Exc → Spec) (p : Addr × Obj) : Sp := fun vs H Q _ => ∃ e cls d g io F st, L2N.Zn cls d p.2 ∧ ExcR K H io F cls d e ∧ ((S p.1 e).args g).length = (S p.1 e).n ∧ RelH K H io F st ∧ DenL K io F vs ((S p.1 e).args g) ∧ (S p.1 e).pre g st ∧ ∀ d st', (S p.1 e).post g st d st' → kE K H io F Q d st'
section
variable {X : Cx} {CX : CXT} {k : Nat} {f : Addr} {fd : FuncData} {ps : List Str} {sp : Addr × Obj → Sp} {E : XK} {x : Str} {p pos : Pos} {e : Expr} {es : List Expr} {t : TA}
theorem runX {pins : List (Addr × Obj)} {σ : L2.St} {H : Hp} {s : Shared} {Q : VK} {us : List Value} {vs : List V} {q : Addr × Obj} (F : FnX X.prog X.w X.K X.mg X.base CX k f fd ps sp) (hr : L2H.RoomH k X.A) (hgd : X.A.guards = some []) (hot : L2H.Hot1 X.A q) (hq : q ∈ X.pn) (hb : Binds X.K fd ps [])
    (hx : Passes CX X E) (I : Inv X pins σ H s) (r : Vals vs us) (h : sp q vs H Q E) : wpAny (model X.prog X.w) X.A (call (.ref f) us) (EP X pins σ Q) X.xe s := by
  have hlen : (us ++ []).length = ps.length := by rw [List.append_nil, ← r.length]; exact F.len _ _ _ _ _ h
  have hbind := hb s us I.kIn hlen
  rw [List.append_nil] at hbind
  have P1 := I.pin q (List.mem_append_left _ hq)
  have hpin : L2H.PinOk X.stack H s q := ⟨P1.1, P1.2.1, fun hm => (List.mem_cons.mp (I.stkSub q.1 hm)).elim P1.2.2.1 P1.2.2.2.1, P1.2.2.2.2⟩
  have run := F.run X.A X.stack s H ⟨us, []⟩ us vs Q E q hr hgd hot hpin I.env0 hbind r h
  refine wpAny_call (codeAny_mono run fun res s' hq => ?_)
  match res, hq with
  | .error e, hq => exact hx pins σ H s e s' I hq
  | .ok (.ret u), hq => exact I.after hq
  | .ok .next, hq => exact hq.elim
  | .ok .brk, hq => exact hq.elim
  | .ok .cont, hq => exact hq.elim
theorem pe_callX {q : Addr × Obj} (F : FnX X.prog X.w X.K X.mg X.base CX k f fd ps sp) (hr : L2H.RoomH k X.A) (hgd : X.A.guards = some []) (hot : L2H.Hot1 X.A q) (hq : q ∈ X.pn) (hg : Gl X x) (hm : X.mg x = some (.ref f)) (hk : PySem.W.keepIn X.K (.ref f) = true) (hb : Binds X.K fd ps []) (hx : Passes CX X E)
    (ha : PA X (e :: es) t) (hdb : (x == ("__debug__" : Str)) = false := by decide) (he : starEach (e :: es) X.env = (false, eval e X.env) :: starEach es X.env := by rfl) (hpl : (backTo pos (starEach es X.env)).any (·.1) = false := by rfl) :
    PE X (.Call (.Name x p) (e :: es) [] pos) (fun σ H Q => t σ H fun vs H1 => sp q vs H1 Q E) := by
  refine ⟨fun pins s σ H Q I h => wpAny_Call_Name_kw (ld_glob I hg hm ?_ hdb)⟩
  refine PySem.W.callWith_K (h₀ := X.base) I.ok.mod.kin hk (thn (ha.run pos pins s σ H _ I h) fun us s1 h1 => ?_) he hpl
  obtain ⟨vs, H1, I1, r, q1⟩ := h1
  exact ⟨I1.kIn, runX F hr hgd hot hq hb hx I1 r q1⟩
/-- a call in a suite, with the exception in hand -/
theorem we_callE [B : Bs] {wa : DA} {S : Addr → Exc → Spec} {a : Addr} {oe : Obj} {cls : Value} {d : Option Addr} {pn : List (Addr × Obj)} {ex : Exc} (F : FnX X.prog X.w X.K X.mg X.base CX0 k f fd ps (spXP X.K S)) (hr : L2H.RoomH k (X.suite a ((a, oe) :: pn)).A) (hgd : X.A.guards = some [])
    (hz : L2N.Zn cls d oe) (hf : ∃ vs, oe.data = .fields vs) (xr : ExcR X.K B.H B.io B.F cls d ex) (hg : Gl (X.suite a ((a, oe) :: pn)) x) (hm : X.mg x = some (.ref f)) (hk : PySem.W.keepIn X.K (.ref f) = true) (hb : Binds X.K fd ps [])
    (ha : WA (X.suite a ((a, oe) :: pn)) (e :: es) wa) (hdb : (x == ("__debug__" : Str)) = false := by decide) (he : starEach (e :: es) X.env = (false, eval e X.env) :: starEach es X.env := by rfl) (hpl : (backTo pos (starEach es X.env)).any (·.1) = false := by rfl) :
    WE (X.suite a ((a, oe) :: pn)) (.Call (.Name x p) (e :: es) [] pos) (wCall (S a ex) wa) := by
  have hot : L2H.Hot1 (X.suite a ((a, oe) :: pn)).A (a, oe) := by
    obtain ⟨vs, hv⟩ := hf
    exact ⟨rfl, vs, hv, hz.2.2 vs hv⟩
  refine ⟨moCall ha.mo, PE_imp (pe_callX (X := X.suite a ((a, oe) :: pn)) F hr hgd hot List.mem_cons_self hg hm hk hb pass0 ha.pe hdb he hpl) fun σ H Q ⟨env, io, Fz, st, R, q⟩ => ?_⟩
  refine tA_use ha.mo R q fun ds s1 vs io1 F1 H1 ⟨g, eg, z, p1, q1⟩ t1 R1 n1 => ?_
  subst eg
  exact ⟨ex, cls, d, g, io1, F1, s1, hz, xr.next R1.bs, z, R1.toRelH, n1, p1, fun d s2 h => kE_later t1 (q1 d s2 h)⟩
end
theorem fnX_of {CX : CXT} {P : Program} {w : World} {K : PySem.W.Frag} {mg : Str → Option Value} {base : Heap} {x qual : Str} {st : Stmt} {f : Addr} {fd : FuncData} {N ps : List Str} {k : Nat} {sp : Addr × Obj → Sp} (F : Fun K x qual st f fd) (S : FnScope N ps (defScope st))
    (len : ∀ p vs H Q E, sp p vs H Q E → vs.length = ps.length)
    (hbody : ∀ (cdv : Value) (A : Around) (outer : List Env) (s : Shared) (H : Hp) (vs : List V) (Q : VK) (E : XK) (p : Addr × Obj), L2H.RoomH k (A.deeper (envOfC qual (defScope st) s.heap.objs.size f cdv)) → A.guards = some [] → L2H.Hot1 A p → sp p vs H Q E →
      ∃ t, PSs (L2H.cxH CX P w K mg base N qual (defScope st) f cdv A outer s H E p) (defBody st) t ∧ t { nx := fun _ H' => Q .non H', rt := Q } (L2.start N vs) H) : FnX P w K mg base CX (k + 1) f fd ps sp := by
  obtain ⟨oc, od, kV, doc, pm, an, cdv, ct, osl, rfl, lk, hcd⟩ := F.ex
  refine ⟨len, fun A outer s H args us vs Q E p hr hgd hot hpin e0 hb r hsp => ?_⟩
  have hl := len _ _ _ _ _ hsp
  have inK : K.In s.heap := e0.mod.kin.keeps fun b o e => (e0.bs b o e).1
  have lim : s.heap.NoLimit := e0.mod.nolimit.keeps fun b o e => (e0.bs b o e).1
  have slots : ∀ y ∈ ps.zip us, (defScope st).names.lookup y.1 = some .local ∨ ((defScope st).names.lookup y.1 = some .cell ∧ ((cellsFrom (s.heap.objs.size + 1) (defScope st).names []).lookup y.1).isSome = true) := by
    rintro ⟨n, v⟩ hy
    have q := S.par n (List.of_mem_zip hy).1
    exact q.elim .inl fun q => .inr ⟨q, PySem.W.cellsFrom_some _ _ _ (.inl q)⟩
  refine codeAny_call_function hr.depth (inK _ _ lk) rfl S.co S.gen rfl (PySem.W.codeRec_of inK hcd) (hb _ _ _ _ ?_)
  refine wpAny_newFunctionEnv_cells S.kind slots fun env he s1 entry => ?_
  subst he
  obtain ⟨t, ht, hq⟩ := hbody cdv A outer s H vs Q E p (hr.deeper _) hgd hot hsp
  have I : Inv (L2H.cxH CX P w K mg base N qual (defScope st) f cdv A outer s H E p) [] (L2.start N vs) H s1 := L2H.inv_startH S hpin e0 hl r entry
  refine ⟨lim.keeps entry.toInCall.keep, codeAny_func (wpAny_mono (ht.run [] s1 _ H _ I hq) (fun fl s' hs => ?_) fun e s' hs => hs)⟩
  match fl, hs with
  | .ret u, ⟨v, _, H', J, rv, q⟩ => exact ⟨v, H', J.os, J.bare, J.base, J.hok, rv, q⟩
  | .next, ⟨_, H', J, q⟩ => exact ⟨.non, H', J.os, J.bare, J.base, J.hok, rfl, q⟩
  | .brk, ⟨_, _, _, q⟩ => exact q.elim
  | .cont, ⟨_, _, _, q⟩ => exact q.elim
/-- what such a def knows of it -/
structure InPin (X : Cx) (B : Bs) (p : Addr × Obj) (e : Exc) : Prop where
  mem : p ∈ X.pn
  dat : ∃ vs, p.2.data = .fields vs
  ex : ∃ cls d, L2N.Zn cls d p.2 ∧ ExcR X.K B.H B.io B.F cls d e
section
variable {P : Program} {w : World} {K : PySem.W.Frag} {mg : Str → Option Value} {base : Heap}
theorem fn_okE {x qual : Str} {st : Stmt} {f : Addr} {fd : FuncData} {N ps : List Str} {k : Nat} {S : Addr → Exc → Spec} {wb : Addr → Exc → DS} (F : Fun K x qual st f fd) (sc : FnScope N ps (defScope st)) (hn : ∀ a e, (S a e).n = ps.length)
    (body : ∀ [B : Bs] (cdv : Value) (A : Around) (outer : List Env) (s : Shared) (H : Hp) (E : XK) (p : Addr × Obj) (e : Exc), L2H.RoomH k (A.deeper (envOfC qual (defScope st) s.heap.objs.size f cdv)) → A.guards = some [] → Hot (L2H.cxH CX0 P w K mg base N qual (defScope st) f cdv A outer s H E p).nox →
      InPin (L2H.cxH CX0 P w K mg base N qual (defScope st) f cdv A outer s H E p).nox B p e → WB (L2H.cxH CX0 P w K mg base N qual (defScope st) f cdv A outer s H E p).nox (defBody st) (wb p.1 e))
    (vc : ∀ a e g sto, ((S a e).args g).length = (S a e).n → (S a e).pre g sto → wb a e (bodyEnds ((S a e).post g sto)) (startE N ((S a e).args g)) sto) : FnX P w K mg base CX0 (k + 1) f fd ps (spXP K S) := by
  refine fnX_of F sc (fun p vs H Q E h => ?_) (fun cdv A outer s H vs Q E p hr hgd hot h => ?_)
  · obtain ⟨e, cls, d, g, io, Fz, sto, _, _, z, R, n, _⟩ := h
    rw [n.length, z, hn]
  · obtain ⟨e, cls, d, g, io, Fz, sto, hz, xr, z, R, n, pp, q⟩ := h
    letI : Bs := ⟨H, io, Fz⟩
    obtain ⟨_, v1, hv, _⟩ := id hot
    have B := body cdv A outer s H E p e hr hgd (hot_cx hot) ⟨List.mem_singleton.mpr rfl, ⟨v1, hv⟩, cls, d, hz, xr⟩
    refine ⟨_, B.pe.nox, startE N ((S p.1 e).args g), io, Fz, sto, start_rel R n, B.mo (bodyEnds ((S p.1 e).post g sto)) _ _ _ ?_ (vc p.1 e g sto z pp)⟩
    refine ⟨fun e s h => ?_, fun d s h => ?_, fun e s h => h.elim, fun e s h => h.elim⟩
    · exact fun σ' io' F' H' t R' => q .non s h .non io' F' H' t R'.toRelH .non
    · exact q d s h
end
def rIsP (K : PySem.W.Frag) (p : Addr × Obj) : List V → Hp → VK → Prop := fun xs H Q => ∃ c u b C, xs = [.ref p.1, c] ∧ (∀ w, RelV c w → w = u) ∧ p.2.cls = .ref C ∧ ExcC K C ∧ PySem.W.kitOne K (.ref C) u = some b ∧ (∀ dd, p.2.dict = some dd → ∃ fv, H dd = some (.xd fv)) ∧ Q (.bl b) H
theorem call_isP {X : Cx} {p : Addr × Obj} (hp : p ∈ X.pn) (hf : ∃ vs, p.2.data = .fields vs) : CallR X (.builtin "isinstance") (rIsP X.K p) := by
  intro pins s σ H xs us Q I r h
  obtain ⟨c, u, b, C, rfl, hu, hcl, T, e, hd, q⟩ := h
  obtain ⟨u1, u2, rfl, r1, r2⟩ := vals2 r
  cases hu _ r2
  cases (show u1 = Value.ref p.1 from r1)
  obtain ⟨vs, hv⟩ := hf
  have eo := (I.pin p (List.mem_append_left _ hp)).1
  have J : ∃ od, PySem.W.InstAt s.heap p.1 p.2 C od := by
    cases hz : p.2.dict with
    | none => exact ⟨none, eo, hcl, by unfold PySem.W.notCls; rw [hv] <;> rfl, by rw [hz]; trivial⟩
    | some dx =>
      obtain ⟨fv, hx⟩ := hd dx hz
      obtain ⟨mA, hns, _⟩ := (show ObjOk X.prog X.w H s.heap dx (.xd fv) from I.hok dx _ hx)
      obtain ⟨od, ho, _⟩ := lookIn_ns hns
      exact ⟨some od, eo, hcl, by unfold PySem.W.notCls; rw [hv] <;> rfl, by rw [hz]; exact ho⟩
  obtain ⟨od, J⟩ := J
  exact PySem.W.kia_one (exc_kit T) I.kIn J e (fun z => nomatch z) fun tk => ⟨.bl b, H, I.tok tk, rfl, q⟩
/-- f: what the class's name says -/
def wIsP (a : Addr) (e : Exc) (f : Str → Bool) (we : DE) : DE := fun env st Q => we env st fun d s => d = rawD a ∧ e.cls ∈ errNames ∧ Q (.bl (f e.cls)) s
section
variable [B : Bs] {X : Cx} {pos p p2 : Pos} {e : Expr} {we : DE} {x : Str} {q : Addr × Obj} {ex : Exc}
theorem we_isPC {C : Addr} (hp : InPin X B q ex) (xk : XcK X.K) (hE : IsKX X.K (.ref C) (fun c => c == x || x == "WishError")) (hg : Gl X "isinstance") (hm : X.mg "isinstance" = none) (hg2 : Gl X x) (hm2 : X.mg x = some (.ref C)) (he : WE X e we) (hv : bootBuiltins "isinstance" = some (.builtin "isinstance") := by decide +kernel)
    (hd2 : (x == ("__debug__" : Str)) = false := by decide)
    (s1 : starEach [e, .Name x p2] X.env = (false, eval e X.env) :: starEach [.Name x p2] X.env := by rfl) (s2 : starEach [.Name x p2] X.env = (false, eval (.Name x p2) X.env) :: starEach [] X.env := by rfl)
    (hpl : (backTo pos (starEach [.Name x p2] X.env)).any (·.1) = false := by rfl) : WE X (.Call (.Name "isinstance" p) [e, .Name x p2] [] pos) (wIsP q.1 ex (fun c => c == x || x == "WishError") we) := by
  refine ⟨fun _ _ _ _ h q => he.mo _ _ _ _ (fun _ _ ⟨b, z, q⟩ => ⟨b, z, h _ _ q⟩) q, PE_imp (pe_callB (x := "isinstance") (call_isP hp.mem hp.dat) hg hm hv (pa_cons he.pe (pa_cons (pe_glob (v := .ref C) hg2 hm2 rfl hd2) pa_nil s2) s1) (by decide) (by decide) s1 hpl) fun σ H Q ⟨env, io, F, st, R, q1⟩ => ?_⟩
  refine tE_use he.mo R q1 fun d s1 v io1 F1 H1 ⟨hd, hcl, q1⟩ t1 R1 n1 => ?_
  subst hd
  have fin := kE_at q1 t1 R1.toRelH (.bl _)
  have ev : v = .ref q.1 := by cases n1; rfl
  subst ev
  obtain ⟨cls, dd, hz, xr⟩ := hp.ex
  obtain ⟨C2, c1, c2, c3⟩ := xr.next R1.bs
  subst c1
  refine ⟨.ref C, .ref C, _, C2, rfl, (fun w hw => hw), hz.1, xk.c _ _ hcl c2, hE _ _ hcl c2, fun d0 z => ?_, fin⟩
  rw [hz.2.1] at z
  rcases c3 with ⟨e3, _⟩ | ⟨d1, fv, e3, e4, _⟩
  · rw [e3] at z; cases z
  · rw [e3] at z; cases z; exact ⟨fv, e4⟩
theorem we_isPT {T : String} (hp : InPin X B q ex) (xk : XcK X.K) (hE : IsKX X.K (.type T) (fun _ => T == "ValueError")) (hg : Gl X "isinstance") (hm : X.mg "isinstance" = none) (hg2 : Gl X x) (hm2 : X.mg x = none) (hv2 : bootBuiltins x = some (.type T)) (he : WE X e we) (hv : bootBuiltins "isinstance" = some (.builtin "isinstance") := by decide +kernel)
    (hn2 : x ≠ "__name__" := by decide) (hd2 : (x == ("__debug__" : Str)) = false := by decide)
    (s1 : starEach [e, .Name x p2] X.env = (false, eval e X.env) :: starEach [.Name x p2] X.env := by rfl) (s2 : starEach [.Name x p2] X.env = (false, eval (.Name x p2) X.env) :: starEach [] X.env := by rfl)
    (hpl : (backTo pos (starEach [.Name x p2] X.env)).any (·.1) = false := by rfl) : WE X (.Call (.Name "isinstance" p) [e, .Name x p2] [] pos) (wIsP q.1 ex (fun _ => T == "ValueError") we) := by
  refine ⟨fun _ _ _ _ h q => he.mo _ _ _ _ (fun _ _ ⟨b, z, q⟩ => ⟨b, z, h _ _ q⟩) q, PE_imp (pe_callB (x := "isinstance") (call_isP hp.mem hp.dat) hg hm hv (pa_cons he.pe (pa_cons (pe_bltn (v := .ty T) hg2 hm2 hv2 rfl hn2 hd2) pa_nil s2) s1) (by decide) (by decide) s1 hpl) fun σ H Q ⟨env, io, F, st, R, q1⟩ => ?_⟩
  refine tE_use he.mo R q1 fun d s1 v io1 F1 H1 ⟨hd, hcl, q1⟩ t1 R1 n1 => ?_
  subst hd
  have fin := kE_at q1 t1 R1.toRelH (.bl _)
  have ev : v = .ref q.1 := by cases n1; rfl
  subst ev
  obtain ⟨cls, dd, hz, xr⟩ := hp.ex
  obtain ⟨C2, c1, c2, c3⟩ := xr.next R1.bs
  subst c1
  refine ⟨.ty T, .type T, _, C2, rfl, (fun w hw => hw), hz.1, xk.c _ _ hcl c2, hE _ _ hcl c2, fun d0 z => ?_, fin⟩
  rw [hz.2.1] at z
  rcases c3 with ⟨e3, _⟩ | ⟨d1, fv, e3, e4, _⟩
  · rw [e3] at z; cases z
  · rw [e3] at z; cases z; exact ⟨fv, e4⟩
end
end DL
namespace DL
open PySem PySem.Spec PyProof.Rows L2
/-- no wish looks on from here -/
instance (priority := low) : Bs := ⟨fun _ => none, [], fun _ => none⟩
def dInts (ns : List Int) : D := .tup (ns.map .int)
structure Wk where
  len : Int
  ahead : List Int
  able : List Int
def Wk.d (w : Wk) : D := .tup [.int w.len, dInts w.ahead, dInts w.able]
structure Ws where
  work : Int
  kind : Int
  day : Int
  weight : Int
  rank : Int
def Ws.d (w : Ws) : D := .tup [.int w.work, .int w.kind, .int w.day, .int w.weight, .int w.rank]
structure Sy where
  days : Int
  hands : List (List Int)
  works : List Wk
  wishes : List Ws
def Sy.d (s : Sy) : D := .tup [.int s.days, .tup (s.hands.map dInts), .tup (s.works.map Wk.d), .tup (s.wishes.map Ws.d)]
section
variable {st : Sto} {Q : DK} {env : En} {s : Sy} {w : Wk} {u : Ws} {ns : List Int}
theorem sy_ix0 : dIx s.d (.int 0) st Q = Q (.int s.days) st := by unfold Sy.d; rw [v_ixT]; simp only [at0, v_some]
theorem sy_ix1 : dIx s.d (.int 1) st Q = Q (.tup (s.hands.map dInts)) st := by unfold Sy.d; rw [v_ixT]; simp only [at1, v_some]
theorem sy_ix2 : dIx s.d (.int 2) st Q = Q (.tup (s.works.map Wk.d)) st := by unfold Sy.d; rw [v_ixT]; simp only [at2, v_some]
theorem sy_ix3 : dIx s.d (.int 3) st Q = Q (.tup (s.wishes.map Ws.d)) st := by unfold Sy.d; rw [v_ixT]; simp only [at3, v_some]
theorem sy_sl3 : dSl false s.d none (some 3) st Q = Q (.tup [.int s.days, .tup (s.hands.map dInts), .tup (s.works.map Wk.d)]) st := rfl
theorem sy_tp {gs : DGs} {Q : En → Sto → Prop} : gTp 4 gs s.d env st Q = gs [.int s.days, .tup (s.hands.map dInts), .tup (s.works.map Wk.d), .tup (s.wishes.map Ws.d)] env st Q := by unfold Sy.d; rw [v_gTp]; simp
theorem wk_ix0 : dIx w.d (.int 0) st Q = Q (.int w.len) st := by unfold Wk.d; rw [v_ixT]; simp only [at0, v_some]
theorem wk_ix1 : dIx w.d (.int 1) st Q = Q (dInts w.ahead) st := by unfold Wk.d; rw [v_ixT]; simp only [at1, v_some]
theorem wk_ix2 : dIx w.d (.int 2) st Q = Q (dInts w.able) st := by unfold Wk.d; rw [v_ixT]; simp only [at2, v_some]
theorem wk_tp {gs : DGs} {Q : En → Sto → Prop} : gTp 3 gs w.d env st Q = gs [.int w.len, dInts w.ahead, dInts w.able] env st Q := by unfold Wk.d; rw [v_gTp]; simp
theorem ws_tp {gs : DGs} {Q : En → Sto → Prop} : gTp 5 gs u.d env st Q = gs [.int u.work, .int u.kind, .int u.day, .int u.weight, .int u.rank] env st Q := by unfold Ws.d; rw [v_gTp]; simp
theorem ns_seq {R : GK} : seqI (dInts ns) st R = R (ns.map .int) (fun _ => True) st := rfl
theorem ns_len : bLen [dInts ns] st Q = Q (.int ns.length) st := by unfold dInts; rw [v_lenT, List.length_map]
theorem ns_ix {i : Int} : dIx (dInts ns) (.int i) st Q = ∃ d, atI (ns.map D.int) i = some d ∧ Q d st := v_ixT
theorem ns_rd : rd st (dInts ns) = dInts ns := rfl
theorem sy_rd : rd st s.d = s.d := rfl
theorem wk_rd : rd st w.d = w.d := rfl
theorem ws_rd : rd st u.d = u.d := rfl
end
section
variable {st : Sto} {Q : DK} {env : En} {ds : List D} {f : Bool → Bool} {c0 c1 : Cel} {i : Int}
theorem seqI_tup {R : GK} : seqI (.tup ds) st R = R ds (fun _ => True) st := rfl
theorem seqI_lst {R : GK} : seqI (.lst ds) st R = R ds (fun _ => True) st := rfl
theorem seqI_scr {R : GK} : seqI (.scr ds) st R = R ds (fun _ => True) st := rfl
theorem seqJ_tup {R : GK} : seqJ (.tup ds) st R = R ds (fun _ => True) st := rfl
theorem seqJ_lst {R : GK} : seqJ (.lst ds) st R = R ds (fun _ => True) st := rfl
theorem okL_ints : ∀ ns : List Int, D.okL (ns.map .int) = true
  | [] => rfl
  | _ :: r => by rw [List.map_cons]; simp only [D.okL, D.ok, okL_ints r, Bool.and_self]
theorem isE_eqvL : ∀ ds : List D, D.eqvL ds [] = ds.isEmpty
  | [] => by simp only [D.eqvL]; rfl
  | _ :: _ => by simp only [D.eqvL]; rfl
theorem v_eqN {a : D} (h : rd st a = .lst ds) : dEqB f a (.lst []) st Q = (D.okL ds = true ∧ Q (.bl (f ds.isEmpty)) st) := by
  rw [v_eqO (fun x e => by subst e; cases h)]
  unfold dEqO
  simp only [h, rd_lst', D.ok, D.okL, D.dep, D.depL, D.eqv, isE_eqvL, true_and]
  apply propext
  constructor
  · exact fun ⟨h1, _, q⟩ => ⟨h1, q⟩
  · exact fun ⟨h1, q⟩ => ⟨h1, by omega, q⟩
theorem v_eqNl : dEqB f (.lst ds) (.lst []) st Q = (D.okL ds = true ∧ Q (.bl (f ds.isEmpty)) st) := v_eqN rfl
theorem v_eqNt : dEqB f (.tup ds) (.tup []) st Q = (D.okL ds = true ∧ Q (.bl (f ds.isEmpty)) st) := by
  rw [v_eqO (a := .tup ds) (fun _ h => nomatch h)]
  unfold dEqO
  simp only [rd_tup', D.ok, D.okL, D.dep, D.depL, D.eqv, isE_eqvL, true_and]
  apply propext
  constructor
  · exact fun ⟨h1, _, q⟩ => ⟨h1, q⟩
  · exact fun ⟨h1, q⟩ => ⟨h1, by omega, q⟩
theorem rd_r0 : rd (.lst ds :: st) (.ref 0) = .lst ds := rfl
theorem rd_r1 : rd (c0 :: .lst ds :: st) (.ref 1) = .lst ds := rfl
theorem rd_r2 : rd (c0 :: c1 :: .lst ds :: st) (.ref 2) = .lst ds := rfl
theorem v_ixR {a : D} (h : rd st a = .lst ds) : dIx a (.int i) st Q = ∃ d, atI ds i = some d ∧ Q d st := propext ⟨fun ⟨_, e, q⟩ => by cases e; rw [h] at q; exact q, fun q => ⟨_, rfl, by rw [h]; exact q⟩⟩
theorem v_lenR {a : D} (h : rd st a = .lst ds) : bLen [a] st Q = Q (.int ds.length) st := v_len (by rw [h]; rfl)
theorem v_ix0 : dIx (.ref 0) (.int i) (.lst ds :: st) Q = ∃ d, atI ds i = some d ∧ Q d (.lst ds :: st) := v_ixR rfl
theorem v_ix1 : dIx (.ref 1) (.int i) (c0 :: .lst ds :: st) Q = ∃ d, atI ds i = some d ∧ Q d (c0 :: .lst ds :: st) := v_ixR rfl
theorem v_ix2 : dIx (.ref 2) (.int i) (c0 :: c1 :: .lst ds :: st) Q = ∃ d, atI ds i = some d ∧ Q d (c0 :: c1 :: .lst ds :: st) := v_ixR rfl
theorem v_eq0 : dEqB f (.ref 0) (.lst []) (.lst ds :: st) Q = (D.okL ds = true ∧ Q (.bl (f ds.isEmpty)) (.lst ds :: st)) := v_eqN rfl
theorem v_len0 : bLen [.ref 0] (.lst ds :: st) Q = Q (.int ds.length) (.lst ds :: st) := v_lenR rfl
theorem v_len1 : bLen [.ref 1] (c0 :: .lst ds :: st) Q = Q (.int ds.length) (c0 :: .lst ds :: st) := v_lenR rfl
theorem v_app0 {d : D} : mAppend (.ref 0) [d] (.lst ds :: st) Q = (ds.length < sizeLine ∧ Q .non (.lst (ds ++ [d]) :: st)) := v_app rfl
theorem v_app1 {d : D} : mAppend (.ref 1) [d] (c0 :: .lst ds :: st) Q = (ds.length < sizeLine ∧ Q .non (c0 :: .lst (ds ++ [d]) :: st)) := v_app rfl
theorem v_ex0 : (∃ x, D.lst ds = .lst x) = True := by simp
end
/-- increasing numbers below n -/
def Row (n : Int) (r : List Int) : Prop := r.Pairwise (· < ·) ∧ ∀ x ∈ r, 0 ≤ x ∧ x < n
structure Wk.Ok (w : Wk) (i hands length : Int) : Prop where
  len : 1 ≤ w.len ∧ w.len ≤ length
  ahead : Row i w.ahead
  able : Row hands w.able
  any : w.able ≠ []
structure Ws.Ok (w : Ws) (works days : Int) : Prop where
  work : 0 ≤ w.work ∧ w.work < works
  kind : 0 ≤ w.kind ∧ w.kind ≤ 1
  day : 0 ≤ w.day ∧ w.day ≤ days
  weight : 1 ≤ w.weight ∧ w.weight ≤ 100
  rank : 0 ≤ w.rank ∧ w.rank ≤ 3
structure Sy.Ok (s : Sy) (days hands works length wishes : Int) : Prop where
  days : 1 ≤ s.days ∧ s.days ≤ days
  hands : 1 ≤ s.hands.length ∧ s.hands.length ≤ hands
  rows : ∀ r ∈ s.hands, Row s.days r
  works : s.works.length ≤ works
  work : ∀ (i : Nat) (w : Wk), s.works[i]? = some w → w.Ok i s.hands.length length
  wishes : s.wishes.length ≤ wishes
  wish : ∀ w ∈ s.wishes, w.Ok s.works.length s.days
theorem Row.len {n : Int} : ∀ {r : List Int}, Row n r → (r.length : Int) ≤ max n 0 := by
  have key : ∀ (r : List Int) (lo : Int), r.Pairwise (· < ·) → (∀ x ∈ r, lo ≤ x ∧ x < n) → (r.length : Int) ≤ max (n - lo) 0 := fun r => by
    induction r with
    | nil => intro lo _ _; simp only [List.length_nil]; omega
    | cons a t ih =>
      intro lo hp hb
      rw [List.pairwise_cons] at hp
      have ha := hb a List.mem_cons_self
      have := ih (a + 1) hp.2 fun x hx => ⟨by have := hp.1 x hx; omega, (hb x (List.mem_cons_of_mem _ hx)).2⟩
      rw [List.length_cons]
      omega
  intro r h
  have := key r 0 h.1 h.2
  omega
structure FitN (k n : Nat) (d : D) : Prop where
  ok : d.ok = true
  sml : d.sml = true
  blk : d.blk ≤ n
  dep : d.dep ≤ k
theorem FitN.fit {k n : Nat} {d : D} (h : FitN k n d) (hk : k ≤ 60) (hn : n ≤ 1000000) : d.Fit := fit_mk h.ok h.sml (Nat.le_trans h.blk hn) (Nat.le_trans h.dep hk)
theorem FitN.mono {k n k' n' : Nat} {d : D} (h : FitN k n d) (hk : k ≤ k') (hn : n ≤ n') : FitN k' n' d := ⟨h.ok, h.sml, Nat.le_trans h.blk hn, Nat.le_trans h.dep hk⟩
theorem fit_int {k n : Nat} {i : Int} (h : -1000000000 ≤ i ∧ i ≤ 100000000000) : FitN k n (.int i) := ⟨rfl, by simp only [D.sml, decide_eq_true_eq]; omega, Nat.zero_le _, Nat.zero_le _⟩
theorem fit_non {k n : Nat} : FitN k n .non := ⟨rfl, rfl, Nat.zero_le _, Nat.zero_le _⟩
def Dk (B : Int) (rest st : Sto) : Prop := ∃ (ds cs : List Int) (t : Int), st = .lst (ds.map .int) :: .lst (cs.map .int) :: .lst [.ref 0, .ref 1, .int t] :: rest ∧
  (∀ x ∈ ds, 0 ≤ x ∧ x < 2147483629) ∧ (∀ x ∈ cs, 0 ≤ x ∧ x < 2147483629) ∧ cs ≠ [] ∧ ds.length ≤ 2000 ∧ cs.length ≤ 2000 ∧ 0 ≤ t ∧ t ≤ B
theorem Dk.mono {B B' : Int} {rest st : Sto} (h : Dk B rest st) (hb : B ≤ B') : Dk B' rest st := by
  obtain ⟨ds, cs, t, e, h1, h2, h3, h4, h5, h6, h7⟩ := h
  exact ⟨ds, cs, t, e, h1, h2, h3, h4, h5, h6, by omega⟩
end DL
namespace DL.M
open PySem PySem.Spec PyProof.Rows L2
local macro_rules
  | `(tactic| simp? only [$as,*] $[$loc]?) => `(tactic| simp only [$as,*, v_eqE, wComp, wipeE, wFor, wIsi, iEnum, iZip, zipI_tup, zipI_lst, zipI_lt, zipI_tl, seqJ_tup, seqJ_lst, v_app0, v_app1, v_eqNl, v_eqNt, rd_r0, rd_r1, rd_r2, v_ix0, v_ix1, v_ix2, v_eq0, v_len0, v_len1, v_ex0, v_mulS, wRevA, v_revT, v_revL, wRgL1, wRgL2, wRgT1, wRgT2, v_rgx1, v_rgx2, sy_ix0, sy_ix1, sy_ix2, sy_ix3, sy_sl3, sy_tp, wk_ix0, wk_ix1, wk_ix2, wk_tp, ws_tp, ns_seq, ns_len, ns_ix, ns_rd, sy_rd, wk_rd, ws_rd, wSeq, wAsg, wRet, wIf, wDrop, wOp, wCons, wNil, wTup, wLst, wCB, wCall, wTest, wAnd, wOr, wNot, wNotV, wAndV, wOrV, wChain, wNeg, wC, wM, wSl, oNo, oPart, iSeq, seqI_tup, seqI_lst, seqI_scr, v_rg1, v_rg2, gNm, v_gTp, v_gCn, v_gNl, v_var0, v_varS, v_sub, v_mod, v_fdiv, v_pow, v_iadd, v_add, v_addT, v_addL, v_mul, v_lt, v_le, v_gt, v_ge, v_eqi, v_ixT, v_ixL, v_ixS, v_lenT, v_lenL, v_lenS, v_abs, v_min2, v_max2, v_intI, v_intB, v_tupl, v_tupT, v_bl, v_in, v_some, v_newT, v_newF, startE, rd_int', rd_bl', rd_str', rd_tup', rd_lst', rd_scr', rd_non', at0, at1, at2, at3, at4, List.map_cons, List.map_nil, List.length_cons, List.length_nil, List.length_map, List.replicate_succ, List.replicate_zero, Nat.reduceSub, Nat.reduceAdd, List.cons_append, List.nil_append, List.set_cons_zero, List.set_cons_succ, List.getElem?_cons_zero, List.getElem?_cons_succ, Bool.not_true, Bool.not_false, if_true, if_false, Bool.false_eq_true, reduceCtorEq, true_and, and_true, bodyEnds, Nat.zero_add, decide_eq_true_eq] $[$loc]?)
  | `(tactic| simp?! only [$as,*] $[$loc]?) => `(tactic| simp only [$as,*, v_eqE, wComp, wipeE, wFor, wIsi, iEnum, iZip, zipI_tup, zipI_lst, zipI_lt, zipI_tl, seqJ_tup, seqJ_lst, v_app0, v_app1, v_eqNl, v_eqNt, rd_r0, rd_r1, rd_r2, v_ix0, v_ix1, v_ix2, v_eq0, v_len0, v_len1, v_ex0, v_mulS, wRevA, v_revT, v_revL, wRgL1, wRgL2, wRgT1, wRgT2, v_rgx1, v_rgx2, sy_ix0, sy_ix1, sy_ix2, sy_ix3, sy_sl3, sy_tp, wk_ix0, wk_ix1, wk_ix2, wk_tp, ws_tp, ns_seq, ns_len, ns_ix, ns_rd, sy_rd, wk_rd, ws_rd, wAsg, wRet, wIf, wDrop, wOp, wCons, wNil, wTup, wLst, wCB, wCall, wTest, wAnd, wOr, wNot, wNotV, wAndV, wOrV, wChain, wNeg, wC, wM, wSl, oNo, oPart, iSeq, seqI_tup, seqI_lst, seqI_scr, v_rg1, v_rg2, gNm, v_gTp, v_gCn, v_gNl, v_var0, v_varS, v_sub, v_mod, v_fdiv, v_pow, v_iadd, v_add, v_addT, v_addL, v_mul, v_lt, v_le, v_gt, v_ge, v_eqi, v_ixT, v_ixL, v_ixS, v_lenT, v_lenL, v_lenS, v_abs, v_min2, v_max2, v_intI, v_intB, v_tupl, v_tupT, v_bl, v_in, v_some, v_newT, v_newF, startE, rd_int', rd_bl', rd_str', rd_tup', rd_lst', rd_scr', rd_non', at0, at1, at2, at3, at4, List.map_cons, List.map_nil, List.length_cons, List.length_nil, List.length_map, List.replicate_succ, List.replicate_zero, Nat.reduceSub, Nat.reduceAdd, List.cons_append, List.nil_append, List.set_cons_zero, List.set_cons_succ, List.getElem?_cons_zero, List.getElem?_cons_succ, Bool.not_true, Bool.not_false, if_true, if_false, Bool.false_eq_true, reduceCtorEq, true_and, and_true, bodyEnds, Nat.zero_add, decide_eq_true_eq] $[$loc]?)
def w_f_law_deck_1 : DT := wAnd (wTest (wOp dGe (wVar 3) (wOp dPow (wC (.int 10)) (wC (.int 18))))) (wTest (wOp dLt (wCB bLen (wCons (wVar 1) (wNil))) (wC (.int 900))))
def w_f_law_deck_2 : DS := wSeq (wDrop (wM mAppend (wVar 1) (wCons (wOp dMod (wVar 3) (wC (.int 2147483629))) (wNil)))) (wAsg (wOp dFdiv (wVar 3) (wC (.int 2147483629))) (gNm 3))
def w_f_law_deck_3 : DS := wSeq (wAsg (wCB bAbs (wCons (wVar 3) (wNil))) (gNm 3)) (wSeq (wDrop (wM mAppend (wVar 2) (wCons (wOp dMod (wVar 3) (wC (.int 2147483629))) (wNil)))) (wWhile w_f_law_deck_1 w_f_law_deck_2))
def w_f_law_deck : DS := wSeq (wAsg (wLst true (wNil)) (gNm 1)) (wSeq (wAsg (wLst true (wCons (wCB bLen (wCons (wVar 0) (wNil))) (wNil))) (gNm 2)) (wSeq (wFor (iSeq (wSl false (wVar 0) oNo (oPart (wC (.int 60))))) (gNm 3) w_f_law_deck_3) (wRet (wLst true (wCons (wVar 1) (wCons (wVar 2) (wCons (wC (.int 0)) (wNil))))))))
def S_f_law_deck : DL.Spec := ⟨1, List Int, fun ns => [.scr (ns.map .int)], fun ns st => ns.length ≤ 63 ∧ st = [], fun _ _ d st' => d = .ref 2 ∧ Dk 0 [] st'⟩
def goodM (ns : List Int) : Prop := ∀ x ∈ ns, 0 ≤ x ∧ x < 2147483629
theorem goodM.snoc {ns : List Int} {x : Int} (h : goodM ns) (h0 : 0 ≤ x) (h1 : x < 2147483629) : goodM (ns ++ [x]) := fun y hy => by
  rcases List.mem_append.mp hy with z | z
  · exact h y z
  · simp at z; subst z; exact ⟨h0, h1⟩
theorem cut60 (ns : List Int) : cutL (ns.map D.int) none (some 60) = (ns.take 60).map D.int := by
  have e1 : HT.sIx (ns.map D.int).length 0 none = 0 := rfl
  have e2 : HT.sIx (ns.map D.int).length (ns.map D.int).length (some 60) = min 60 ns.length := by rw [List.length_map]; exact HT.sIx_nat ns.length ns.length 60
  unfold cutL
  rw [e1, e2, List.drop_zero, Nat.sub_zero, List.map_take]
  rcases Nat.le_total 60 ns.length with h | h
  · rw [Nat.min_eq_left h]
  · rw [Nat.min_eq_right h, List.take_of_length_le (by rw [List.length_map]; omega), List.take_of_length_le (by rw [List.length_map]; omega)]
theorem vc_f_law_deck : ∀ g sto, (S_f_law_deck.args g).length = S_f_law_deck.n → S_f_law_deck.pre g sto → w_f_law_deck (bodyEnds (S_f_law_deck.post g sto)) (startE ["_law_script", "_law_digits", "_law_cells", "_law_cell"] (S_f_law_deck.args g)) sto := by
  rintro (ns : List Int) sto _ ⟨hl, rfl⟩
  have z3 : 3 ≤ sizeLine := by decide
  simp? only [w_f_law_deck, S_f_law_deck, wFor, dSl]
  refine ⟨Nat.zero_le _, by omega, ?_⟩
  have ec : cutL (ns.map D.int) none (some 60) = (ns.take 60).map D.int := cut60 ns
  rw [ec]
  refine forL_inv (fun i e s => ∃ x3 ds cs, e = [some (.scr (ns.map .int)), some (.ref 0), some (.ref 1), x3] ∧ s = [.lst (ds.map .int), .lst (cs.map .int)] ∧ goodM ds ∧ goodM cs ∧ ds.length ≤ 900 ∧ cs.length = i + 1) ?_ ?_ _ _ ?_
  · rintro i env st d ⟨x3, ds, cs, rfl, rfl, gd, gc, ld, lc⟩ hd R hR
    refine ⟨trivial, ?_⟩
    obtain ⟨hi, hd⟩ := List.getElem?_eq_some_iff.mp hd
    rw [List.getElem_map] at hd
    subst hd
    generalize (ns.take 60)[i]'_ = c0
    simp only [w_f_law_deck_3, v_eqE, wComp, wipeE, wFor, wIsi, iEnum, iZip, zipI_tup, zipI_lst, zipI_lt, zipI_tl, seqJ_tup, seqJ_lst, v_app0, v_app1, v_eqNl, v_eqNt, rd_r0, rd_r1, rd_r2, v_ix0, v_ix1, v_ix2, v_eq0, v_len0, v_len1, v_ex0, v_mulS, wRevA, v_revT, v_revL, wRgL1, wRgL2, wRgT1, wRgT2, v_rgx1, v_rgx2, sy_ix0, sy_ix1, sy_ix2, sy_ix3, sy_sl3, sy_tp, wk_ix0, wk_ix1, wk_ix2, wk_tp, ws_tp, ns_seq, ns_len, ns_ix, ns_rd, sy_rd, wk_rd, ws_rd, wSeq, wAsg, wRet, wIf, wDrop, wOp, wCons, wNil, wTup, wLst, wCB, wCall, wTest, wAnd, wOr, wNot, wNotV, wAndV, wOrV, wChain, wNeg, wC, wM, wSl, oNo, oPart, iSeq, seqI_tup, seqI_lst, seqI_scr, v_rg1, v_rg2, gNm, v_gTp, v_gCn, v_gNl, v_var0, v_varS, v_sub, v_mod, v_fdiv, v_pow, v_iadd, v_add, v_addT, v_addL, v_mul, v_lt, v_le, v_gt, v_ge, v_eqi, v_ixT, v_ixL, v_ixS, v_lenT, v_lenL, v_lenS, v_abs, v_min2, v_max2, v_intI, v_intB, v_tupl, v_tupT, v_bl, v_in, v_some, v_newT, v_newF, startE, rd_int', rd_bl', rd_str', rd_tup', rd_lst', rd_scr', rd_non', at0, at1, at2, at3, at4, List.map_cons, List.map_nil, List.length_cons, List.length_nil, List.length_map, List.replicate_succ, List.replicate_zero, Nat.reduceSub, Nat.reduceAdd, List.cons_append, List.nil_append, List.set_cons_zero, List.set_cons_succ, List.getElem?_cons_zero, List.getElem?_cons_succ, Bool.not_true, Bool.not_false, if_true, if_false, Bool.false_eq_true, reduceCtorEq, true_and, and_true, bodyEnds, Nat.zero_add, decide_eq_true_eq, wM, rd_r1, v_ex0, v_abs, v_app1, List.length_map]
    have hi' := hi
    rw [List.length_map, List.length_take] at hi'
    refine ⟨by decide, by rw [lc, sizeLine_eq]; omega, ?_⟩
    have hc : 0 ≤ (if c0 < 0 then -c0 else c0) := by split <;> omega
    generalize (if c0 < 0 then -c0 else c0) = c at hc
    obtain ⟨k, hk⟩ : ∃ k, k = c % 2147483629 := ⟨_, rfl⟩
    rw [← hk]
    have hm : 0 ≤ k ∧ k < 2147483629 := by omega
    refine ⟨fun m e s => ∃ c ds, m = Int.toNat c ∧ 0 ≤ c ∧ e = [some (.scr (ns.map .int)), some (.ref 0), some (.ref 1), some (.int c)] ∧ s = [.lst (ds.map .int), .lst ((cs ++ [k]).map .int)] ∧ goodM ds ∧ ds.length ≤ 900, ?_, ?_⟩
    · exact ⟨_, c, ds, rfl, hc, rfl, by simp, gd, ld⟩
    · rintro m e s ⟨c, ds, rfl, hc, rfl, rfl, gd, ld⟩
      simp? only [w_f_law_deck_1]
      refine ⟨by decide, ?_⟩
      by_cases hg : (10 : Int) ^ (18 : Int).toNat ≤ c
      · by_cases hl : (ds.length : Int) < 900
        · simp only [hg, hl, decide_true, v_eqE, wComp, wipeE, wFor, wIsi, iEnum, iZip, zipI_tup, zipI_lst, zipI_lt, zipI_tl, seqJ_tup, seqJ_lst, v_app0, v_app1, v_eqNl, v_eqNt, rd_r0, rd_r1, rd_r2, v_ix0, v_ix1, v_ix2, v_eq0, v_len0, v_len1, v_ex0, v_mulS, wRevA, v_revT, v_revL, wRgL1, wRgL2, wRgT1, wRgT2, v_rgx1, v_rgx2, sy_ix0, sy_ix1, sy_ix2, sy_ix3, sy_sl3, sy_tp, wk_ix0, wk_ix1, wk_ix2, wk_tp, ws_tp, ns_seq, ns_len, ns_ix, ns_rd, sy_rd, wk_rd, ws_rd, wSeq, wAsg, wRet, wIf, wDrop, wOp, wCons, wNil, wTup, wLst, wCB, wCall, wTest, wAnd, wOr, wNot, wNotV, wAndV, wOrV, wChain, wNeg, wC, wM, wSl, oNo, oPart, iSeq, seqI_tup, seqI_lst, seqI_scr, v_rg1, v_rg2, gNm, v_gTp, v_gCn, v_gNl, v_var0, v_varS, v_sub, v_mod, v_fdiv, v_pow, v_iadd, v_add, v_addT, v_addL, v_mul, v_lt, v_le, v_gt, v_ge, v_eqi, v_ixT, v_ixL, v_ixS, v_lenT, v_lenL, v_lenS, v_abs, v_min2, v_max2, v_intI, v_intB, v_tupl, v_tupT, v_bl, v_in, v_some, v_newT, v_newF, startE, rd_int', rd_bl', rd_str', rd_tup', rd_lst', rd_scr', rd_non', at0, at1, at2, at3, at4, List.map_cons, List.map_nil, List.length_cons, List.length_nil, List.length_map, List.replicate_succ, List.replicate_zero, Nat.reduceSub, Nat.reduceAdd, List.cons_append, List.nil_append, List.set_cons_zero, List.set_cons_succ, List.getElem?_cons_zero, List.getElem?_cons_succ, Bool.not_true, Bool.not_false, if_true, if_false, Bool.false_eq_true, reduceCtorEq, true_and, and_true, bodyEnds, Nat.zero_add, decide_eq_true_eq, w_f_law_deck_2, wM]
          refine ⟨by decide, by rw [sizeLine_eq]; omega, ⟨by decide, by decide⟩, _, ?_, c / 2147483629, ds ++ [c % 2147483629], rfl, by omega, rfl, by simp, gd.snoc (by omega) (by omega), by simp; omega⟩
          have : (10 : Int) ^ (18 : Int).toNat = 1000000000000000000 := by decide
          omega
        · simp? only [hg, hl, decide_true, decide_false]
          exact hR _ _ ⟨_, ds, cs ++ [k], rfl, rfl, gd, gc.snoc hm.1 hm.2, ld, by simp; omega⟩
      · simp? only [hg, decide_false]
        exact hR _ _ ⟨_, ds, cs ++ [k], rfl, rfl, gd, gc.snoc hm.1 hm.2, ld, by simp; omega⟩
  · rintro env st ⟨x3, ds, cs, rfl, rfl, gd, gc, ld, lc⟩
    refine ⟨trivial, ?_⟩
    simp? only [true_and]
    refine ⟨z3, ds, cs, 0, rfl, gd, gc, ?_, by omega, ?_, by decide, by decide⟩
    · intro e; rw [e] at lc; simp at lc
    · rw [List.length_map, List.length_take] at lc; omega
  · refine ⟨none, [], [((ns.length : Nat) : Int)], rfl, rfl, fun _ h => (nomatch h), ?_, by simp, rfl⟩
    intro x hx
    rw [List.mem_singleton] at hx
    rw [hx]
    omega
theorem v_pop0 {rest : Sto} {Q : DK} {x : D} {ds : List D} : mPopAt (.ref 0) [.int 0] (.lst (x :: ds) :: rest) Q = Q x (.lst ds :: rest) := by
  have e0 : ixN (x :: ds).length 0 = some 0 := by simp [ixN]
  apply propext
  constructor
  · rintro ⟨n, es, i, k, y, e1, e2, e3, _, _, e4, e5, q⟩
    cases e1
    cases e2
    cases e3
    rw [e0] at e4
    cases e4
    cases e5
    exact q
  · exact fun q => ⟨0, x :: ds, 0, 0, x, rfl, rfl, rfl, by decide, by decide, e0, rfl, q⟩
theorem v_gset2 {rest : Sto} {c0 c1 : Cel} {x y z d : D} {env : En} {Q : En → Sto → Prop} : gSet (wVar 0) (wC (.int 2)) d (some (.ref 2) :: env) (c0 :: c1 :: .lst [x, y, z] :: rest) Q = Q (some (.ref 2) :: env) (c0 :: c1 :: .lst [x, y, d] :: rest) := by
  apply propext
  constructor
  · rintro ⟨o, e0, n, es, i, k, e1, e2, e3, e4, q⟩
    cases e0
    cases e1
    cases e2
    cases e3
    cases e4
    exact q
  · exact fun q => ⟨_, rfl, 2, _, 2, 2, rfl, rfl, rfl, rfl, q⟩
def w_f_law_next : DS := wSeq (wIf (wTest (wOp dNe (wOp dIx (wVar 0) (wC (.int 0))) (wLst false (wNil)))) (wRet (wM mPopAt (wOp dIx (wVar 0) (wC (.int 0))) (wCons (wC (.int 0)) (wNil)))) ((fun D env st => D.nx env st))) (wSeq (wAsg (wOp dIx (wVar 0) (wC (.int 2))) (gNm 1)) (wSeq (wAsg (wOp dAdd (wVar 1) (wC (.int 1))) (gSet (wVar 0) (wC (.int 2)))) (wSeq (wAsg (wTup (wCons (wC (.int 48271)) (wCons (wC (.int 69621)) (wCons (wC (.int 16807)) (wCons (wC (.int 39373)) (wCons (wC (.int 30323)) (wCons (wC (.int 51749)) (wCons (wC (.int 44417)) (wCons (wC (.int 27449)) (wCons (wC (.int 63073)) (wCons (wC (.int 55001)) (wCons (wC (.int 33791)) (wCons (wC (.int 40009)) (wNil)))))))))))))) (gNm 2)) (wSeq (wAsg (wOp dAdd (wOp dIx (wOp dIx (wVar 0) (wC (.int 1))) (wOp dMod (wOp dAdd (wVar 1) (wC (.int 1))) (wCB bLen (wCons (wOp dIx (wVar 0) (wC (.int 1))) (wNil))))) (wOp dMul (wC (.int 7)) (wVar 1))) (gNm 3)) (wSeq (wAsg (wOp dMod (wOp dPow (wOp dAdd (wVar 3) (wOp dMul (wOp dIx (wVar 2) (wOp dMod (wVar 1) (wC (.int 12)))) (wOp dAdd (wVar 1) (wC (.int 1))))) (wC (.int 5))) (wC (.int 2147483647))) (gNm 4)) (wRet (wOp dMod (wOp dAdd (wVar 4) (wOp dMul (wOp dIx (wVar 2) (wOp dMod (wOp dAdd (wVar 1) (wC (.int 5))) (wC (.int 12)))) (wVar 3))) (wC (.int 2147483629)))))))))
def S_f_law_next : DL.Spec := ⟨1, Sto × Int, fun _ => [.ref 2], fun (r, B) st => Dk B r st ∧ B < 2 ^ 40, fun (r, B) _ d st' => ∃ x, d = .int x ∧ 0 ≤ x ∧ x < 2147483629 ∧ Dk (B + 1) r st'⟩
def primes : List Int := [48271, 69621, 16807, 39373, 30323, 51749, 44417, 27449, 63073, 55001, 33791, 40009]
theorem prime_at {i : Int} (h0 : 0 ≤ i) (h1 : i < 12) : ∃ p, atI (primes.map D.int) i = some (.int p) ∧ 0 ≤ p ∧ p < 100000 := by
  have key : ∀ k : Fin 12, ∃ p, primes[k.val]? = some p ∧ 0 ≤ p ∧ p < 100000 := by
    intro k
    have hk : k.val < primes.length := k.isLt
    have all : ∀ x ∈ primes, 0 ≤ x ∧ x < 100000 := by decide
    exact ⟨_, List.getElem?_eq_getElem hk, all _ (List.getElem_mem hk)⟩
  obtain ⟨p, h2, h3⟩ := key ⟨i.toNat, by omega⟩
  exact ⟨p, atI_map (atI_of h0 h2), h3⟩
theorem vc_f_law_next : ∀ g sto, (S_f_law_next.args g).length = S_f_law_next.n → S_f_law_next.pre g sto → w_f_law_next (bodyEnds (S_f_law_next.post g sto)) (startE ["_law_deck_here", "_law_at", "_law_primes", "_law_cell", "_law_mixed"] (S_f_law_next.args g)) sto := by
  rintro ⟨rest, B⟩ sto _ ⟨⟨ds, cs, t, rfl, gd, gc, ne, l1, l2, t0, t1⟩, hB⟩
  have z12 : 12 ≤ sizeLine := by decide
  simp? only [w_f_law_next, S_f_law_next, v_gset2]
  refine ⟨Nat.zero_le _, okL_ints _, ?_⟩
  cases ds with
  | cons x ds =>
    simp only [v_eqE, wComp, wipeE, wFor, wIsi, iEnum, iZip, zipI_tup, zipI_lst, zipI_lt, zipI_tl, seqJ_tup, seqJ_lst, v_app0, v_app1, v_eqNl, v_eqNt, rd_r0, rd_r1, rd_r2, v_ix0, v_ix1, v_ix2, v_eq0, v_len0, v_len1, v_ex0, v_mulS, wRevA, v_revT, v_revL, wRgL1, wRgL2, wRgT1, wRgT2, v_rgx1, v_rgx2, sy_ix0, sy_ix1, sy_ix2, sy_ix3, sy_sl3, sy_tp, wk_ix0, wk_ix1, wk_ix2, wk_tp, ws_tp, ns_seq, ns_len, ns_ix, ns_rd, sy_rd, wk_rd, ws_rd, wSeq, wAsg, wRet, wIf, wDrop, wOp, wCons, wNil, wTup, wLst, wCB, wCall, wTest, wAnd, wOr, wNot, wNotV, wAndV, wOrV, wChain, wNeg, wC, wM, wSl, oNo, oPart, iSeq, seqI_tup, seqI_lst, seqI_scr, v_rg1, v_rg2, gNm, v_gTp, v_gCn, v_gNl, v_var0, v_varS, v_sub, v_mod, v_fdiv, v_pow, v_iadd, v_add, v_addT, v_addL, v_mul, v_lt, v_le, v_gt, v_ge, v_eqi, v_ixT, v_ixL, v_ixS, v_lenT, v_lenL, v_lenS, v_abs, v_min2, v_max2, v_intI, v_intB, v_tupl, v_tupT, v_bl, v_in, v_some, v_newT, v_newF, startE, rd_int', rd_bl', rd_str', rd_tup', rd_lst', rd_scr', rd_non', at0, at1, at2, at3, at4, List.map_cons, List.map_nil, List.length_cons, List.length_nil, List.length_map, List.replicate_succ, List.replicate_zero, Nat.reduceSub, Nat.reduceAdd, List.cons_append, List.nil_append, List.set_cons_zero, List.set_cons_succ, List.getElem?_cons_zero, List.getElem?_cons_succ, Bool.not_true, Bool.not_false, if_true, if_false, Bool.false_eq_true, reduceCtorEq, true_and, and_true, bodyEnds, Nat.zero_add, decide_eq_true_eq, List.isEmpty, v_pop0]
    have := gd x List.mem_cons_self
    exact ⟨this.1, this.2, ds, cs, t, rfl, fun y hy => gd y (List.mem_cons_of_mem _ hy), gc, ne, by simp at l1; omega, l2, t0, by omega⟩
  | nil =>
    simp only [v_eqE, wComp, wipeE, wFor, wIsi, iEnum, iZip, zipI_tup, zipI_lst, zipI_lt, zipI_tl, seqJ_tup, seqJ_lst, v_app0, v_app1, v_eqNl, v_eqNt, rd_r0, rd_r1, rd_r2, v_ix0, v_ix1, v_ix2, v_eq0, v_len0, v_len1, v_ex0, v_mulS, wRevA, v_revT, v_revL, wRgL1, wRgL2, wRgT1, wRgT2, v_rgx1, v_rgx2, sy_ix0, sy_ix1, sy_ix2, sy_ix3, sy_sl3, sy_tp, wk_ix0, wk_ix1, wk_ix2, wk_tp, ws_tp, ns_seq, ns_len, ns_ix, ns_rd, sy_rd, wk_rd, ws_rd, wSeq, wAsg, wRet, wIf, wDrop, wOp, wCons, wNil, wTup, wLst, wCB, wCall, wTest, wAnd, wOr, wNot, wNotV, wAndV, wOrV, wChain, wNeg, wC, wM, wSl, oNo, oPart, iSeq, seqI_tup, seqI_lst, seqI_scr, v_rg1, v_rg2, gNm, v_gTp, v_gCn, v_gNl, v_var0, v_varS, v_sub, v_mod, v_fdiv, v_pow, v_iadd, v_add, v_addT, v_addL, v_mul, v_lt, v_le, v_gt, v_ge, v_eqi, v_ixT, v_ixL, v_ixS, v_lenT, v_lenL, v_lenS, v_abs, v_min2, v_max2, v_intI, v_intB, v_tupl, v_tupT, v_bl, v_in, v_some, v_newT, v_newF, startE, rd_int', rd_bl', rd_str', rd_tup', rd_lst', rd_scr', rd_non', at0, at1, at2, at3, at4, List.map_cons, List.map_nil, List.length_cons, List.length_nil, List.length_map, List.replicate_succ, List.replicate_zero, Nat.reduceSub, Nat.reduceAdd, List.cons_append, List.nil_append, List.set_cons_zero, List.set_cons_succ, List.getElem?_cons_zero, List.getElem?_cons_succ, Bool.not_true, Bool.not_false, if_true, if_false, Bool.false_eq_true, reduceCtorEq, true_and, and_true, bodyEnds, Nat.zero_add, decide_eq_true_eq, List.isEmpty, v_gset2]
    have hl : 0 < cs.length := List.length_pos_iff.mpr ne
    refine ⟨z12, by omega, ?_⟩
    obtain ⟨c, hc⟩ : ∃ c, cs[((t + 1) % (cs.length : Int)).toNat]? = some c := ⟨_, List.getElem?_eq_getElem (by
      have := Int.emod_lt_of_pos (t + 1) (show (0 : Int) < cs.length by omega)
      have := Int.emod_nonneg (t + 1) (show (cs.length : Int) ≠ 0 by omega)
      omega)⟩
    have hc1 := gc c (List.mem_of_getElem? hc)
    obtain ⟨p1, hp1, q1⟩ := prime_at (i := t % 12) (by omega) (by omega)
    obtain ⟨p2, hp2, q2⟩ := prime_at (i := (t + 5) % 12) (by omega) (by omega)
    simp only [primes, List.map_cons, List.map_nil] at hp1 hp2
    refine ⟨_, atI_map (atI_of (Int.emod_nonneg _ (by omega)) hc), ?_⟩
    simp? only [hp1, hp2]
    have m1 : p1 * (t + 1) ≤ 100000 * (2 ^ 40 + 1) := Int.mul_le_mul (by omega) (by omega) (by omega) (by decide)
    have m2 : 0 ≤ p1 * (t + 1) := Int.mul_nonneg q1.1 (by omega)
    refine ⟨.inl ⟨by decide, by decide⟩, by decide, .inl ⟨by omega, by omega⟩, ⟨by decide, by decide, ?_⟩, by decide, by decide, .inl ⟨by omega, by omega⟩, by decide, Int.emod_nonneg _ (by decide), Int.emod_lt_of_pos _ (by decide), [], cs, t + 1, rfl, gd, gc, ne, l1, l2, by omega, by omega⟩
    generalize p1 * (t + 1) = m at m1 m2
    omega
/-- the next number is asked -/
theorem next_use {B : Int} {rest st : Sto} {Q : DK} (h : Dk B rest st) (hb : B < 2 ^ 40) (q : ∀ x st', 0 ≤ x → x < 2147483629 → Dk (B + 1) rest st' → Q (.int x) st') :
    ∃ g, [D.ref 2] = S_f_law_next.args g ∧ (S_f_law_next.args g).length = S_f_law_next.n ∧ S_f_law_next.pre g st ∧ ∀ d s2, S_f_law_next.post g st d s2 → Q d s2 :=
  ⟨(rest, B), rfl, rfl, ⟨h, hb⟩, fun d s2 ⟨x, e, h0, h1, h2⟩ => by subst e; exact q x s2 h0 h1 h2⟩
def w_f_law_rows_of_1 : DT := wTest (wOp dEq (wOp dMod (wCall S_f_law_next (wCons (wVar 0) (wNil))) (wVar 2)) (wC (.int 0)))
def w_f_law_rows_of : DS := wRet (wCB bTuple (wCons (wComp false (iRange1 (wCons (wOp dAdd (wVar 1) (wC (.int 1))) (wNil))) (.nm 3) w_f_law_rows_of_1 (wVar 3) [3]) (wNil)))
def S_f_law_rows_of : DL.Spec := ⟨3, Sto × Int × Int × Int, fun (_, _, h, s) => [.ref 2, .int h, .int s], fun (r, B, h, s) st => Dk B r st ∧ B < 2 ^ 39 ∧ -1 ≤ h ∧ h ≤ 900 ∧ 0 < s, fun (r, B, h, _) _ d st' => ∃ row, d = dInts row ∧ Row (h + 1) row ∧ Dk (B + 1000) r st'⟩
theorem vc_f_law_rows_of : ∀ g sto, (S_f_law_rows_of.args g).length = S_f_law_rows_of.n → S_f_law_rows_of.pre g sto → w_f_law_rows_of (bodyEnds (S_f_law_rows_of.post g sto)) (startE ["_law_deck_here", "_law_high", "_law_some", "_law_one"] (S_f_law_rows_of.args g)) sto := by
  rintro ⟨rest, B, h, s⟩ sto _ ⟨hD, hB, h0, h1, hs⟩
  simp? only [w_f_law_rows_of, S_f_law_rows_of, wComp, wipeE, rangeD_len]
  refine ⟨⟨by omega, by omega⟩, by rw [sizeLine_eq]; omega, ?_⟩
  refine compL_inv (fun i st acc => ∃ row, acc = row.map D.int ∧ Row i row ∧ Dk (B + i) rest st) ?_ ?_ _ _ ⟨[], rfl, ⟨.nil, fun _ h => (nomatch h)⟩, by simpa using hD⟩
  · rintro i st acc d ⟨row, rfl, hr, hd⟩ he R hR
    obtain ⟨hi, rfl⟩ := rangeD_at he
    simp? only [Tg.dg, w_f_law_rows_of_1]
    refine next_use hd (by omega) fun x st' x0 x1 hd' => ?_
    simp? only [true_and]
    refine ⟨hs, ?_⟩
    have e1 : B + (i : Int) + 1 = B + ((i + 1 : Nat) : Int) := by omega
    rw [e1] at hd'
    by_cases hx : (x % s == 0) = true
    · rw [if_pos hx]
      refine hR _ _ ⟨row ++ [(i : Int)], by simp, ⟨?_, ?_⟩, hd'⟩
      · rw [List.pairwise_append]
        refine ⟨hr.1, List.pairwise_singleton .., fun a ha b hb => ?_⟩
        rw [List.mem_singleton] at hb
        have := (hr.2 a ha).2
        omega
      · intro y hy
        rcases List.mem_append.mp hy with z | z
        · have := hr.2 y z; omega
        · rw [List.mem_singleton] at z; omega
    · rw [if_neg hx]
      exact hR _ _ ⟨row, rfl, ⟨hr.1, fun y hy => by have := hr.2 y hy; omega⟩, hd'⟩
  · rintro st acc ⟨row, rfl, hr, hd⟩
    rw [rangeD_len] at hr hd
    exact ⟨trivial, row, rfl, ⟨hr.1, fun y hy => by have := hr.2 y hy; omega⟩, hd.mono (by omega)⟩
theorem rows_use {B h s : Int} {rest st : Sto} {Q : DK} (hD : Dk B rest st) (hb : B < 2 ^ 39) (h0 : -1 ≤ h) (h1 : h ≤ 900) (hs : 0 < s) (q : ∀ row st', Row (h + 1) row → Dk (B + 1000) rest st' → Q (dInts row) st') :
    ∃ g, [D.ref 2, .int h, .int s] = S_f_law_rows_of.args g ∧ (S_f_law_rows_of.args g).length = S_f_law_rows_of.n ∧ S_f_law_rows_of.pre g st ∧ ∀ d s2, S_f_law_rows_of.post g st d s2 → Q d s2 :=
  ⟨(rest, B, h, s), rfl, rfl, ⟨hD, hb, h0, h1, hs⟩, fun d s2 ⟨x, e, h0, h1⟩ => by subst e; exact q x s2 h0 h1⟩
theorem pick {α : Type} {xs : List α} {i : Int} (h0 : 0 ≤ i) (h1 : i < xs.length) : ∃ v, atI xs i = some v ∧ v ∈ xs := by
  have hl : i.toNat < xs.length := by omega
  exact ⟨_, atI_of h0 (List.getElem?_eq_getElem hl), List.getElem_mem hl⟩
theorem pickI {ns : List Int} {i : Int} (h0 : 0 ≤ i) (h1 : i < ns.length) : ∃ v, atI (ns.map D.int) i = some (.int v) ∧ v ∈ ns := by
  obtain ⟨v, h2, h3⟩ := pick h0 h1
  exact ⟨v, atI_map h2, h3⟩
def w_f_law_work_1 : DT := wOr (wTest (wOp dEq (wVar 6) (wC (.int 0)))) (wTest (wOp dEq (wOp dMod (wCall S_f_law_next (wCons (wVar 0) (wNil))) (wC (.int 2))) (wC (.int 0))))
def w_f_law_work : DS := wSeq (wAsg (wOp dAdd (wC (.int 1)) (wOp dMod (wCall S_f_law_next (wCons (wVar 0) (wNil))) (wVar 3))) (gNm 4)) (wSeq (wAsg (wCall S_f_law_rows_of (wCons (wVar 0) (wCons (wOp dSub (wVar 1) (wC (.int 1))) (wCons (wOp dIx (wLst false (wCons (wC (.int 3)) (wCons (wC (.int 5)) (wCons (wC (.int 100)) (wNil))))) (wOp dMod (wCall S_f_law_next (wCons (wVar 0) (wNil))) (wC (.int 3)))) (wNil))))) (gNm 5)) (wSeq (wAsg (wOp dMod (wCall S_f_law_next (wCons (wVar 0) (wNil))) (wC (.int 3))) (gNm 6)) (wSeq (wAsg (wCB bTuple (wCons (wComp false (iRange1 (wCons (wVar 2) (wNil))) (.nm 8) w_f_law_work_1 (wVar 8) [8]) (wNil))) (gNm 7)) (wSeq (wIf (wTest (wOp dEq (wVar 7) (wTup (wNil)))) (wAsg (wTup (wCons (wOp dMod (wCall S_f_law_next (wCons (wVar 0) (wNil))) (wVar 2)) (wNil))) (gNm 7)) ((fun D env st => D.nx env st))) (wRet (wTup (wCons (wVar 4) (wCons (wVar 5) (wCons (wVar 7) (wNil))))))))))
def S_f_law_work : DL.Spec := ⟨4, Sto × Int × Int × Int × Int, fun (_, _, n, h, l) => [.ref 2, .int n, .int h, .int l], fun (r, B, n, h, l) st => Dk B r st ∧ B < 2 ^ 38 ∧ 0 ≤ n ∧ n ≤ 900 ∧ 1 ≤ h ∧ h ≤ 900 ∧ 1 ≤ l,
  fun (r, B, n, h, l) _ d st' => ∃ w : Wk, d = w.d ∧ w.Ok n h l ∧ Dk (B + 10000) r st'⟩
theorem vc_f_law_work : ∀ g sto, (S_f_law_work.args g).length = S_f_law_work.n → S_f_law_work.pre g sto → w_f_law_work (bodyEnds (S_f_law_work.post g sto)) (startE ["_law_deck_here", "_law_number", "_law_hands", "_law_length", "_law_much", "_law_ahead", "_law_way", "_law_able", "_law_hand"] (S_f_law_work.args g)) sto := by
  rintro ⟨rest, B, n, h, l⟩ sto _ ⟨hD, hB, n0, n1, h0, h1, hl⟩
  have z3 : 3 ≤ sizeLine := by decide
  have z1 : 1 ≤ sizeLine := by decide
  simp? only [w_f_law_work, S_f_law_work]
  refine next_use hD (by omega) fun x1 st1 a1 b1 hD => ?_
  (try simp? only [true_and])
  refine ⟨by omega, z3, ?_⟩
  refine next_use hD (by omega) fun x2 st2 a2 b2 hD => ?_
  obtain ⟨p, hp, hp2⟩ := pickI (ns := [3, 5, 100]) (i := x2 % 3) (by omega) (by simp; omega)
  have hp0 : 0 < p := by simp at hp2; omega
  simp only [List.map_cons, List.map_nil] at hp
  simp? only [hp]
  refine ⟨by decide, ?_⟩
  refine rows_use hD (by omega) (by omega) (by omega) hp0 fun ahead st3 hA hD => ?_
  (try simp? only [true_and])
  refine next_use hD (by omega) fun x3 st4 a3 b3 hD => ?_
  simp? only [wComp, wipeE, rangeD_len]
  refine ⟨by decide, ⟨by omega, by omega⟩, by rw [sizeLine_eq]; omega, ?_⟩
  refine compL_inv (fun i st acc => ∃ row, acc = row.map D.int ∧ Row i row ∧ Dk (B + 1003 + i) rest st) ?_ ?_ _ _ ⟨[], rfl, ⟨.nil, fun _ h => (nomatch h)⟩, hD.mono (by omega)⟩
  · rintro i st acc d ⟨row, rfl, hr, hd⟩ he R hR
    obtain ⟨hi, rfl⟩ := rangeD_at he
    have yes : ∀ s, Dk (B + 1003 + ((i + 1 : Nat) : Int)) rest s → R s (row.map D.int ++ [.int (0 + i)]) := fun s hd' => by
      refine hR _ _ ⟨row ++ [(i : Int)], by simp, ⟨?_, ?_⟩, hd'⟩
      · rw [List.pairwise_append]
        refine ⟨hr.1, List.pairwise_singleton .., fun a ha b hb => ?_⟩
        rw [List.mem_singleton] at hb
        have := (hr.2 a ha).2
        omega
      · intro y hy
        rcases List.mem_append.mp hy with z | z
        · have := hr.2 y z; omega
        · rw [List.mem_singleton] at z; omega
    have no : ∀ s, Dk (B + 1003 + ((i + 1 : Nat) : Int)) rest s → R s (row.map D.int) := fun s hd' => hR _ _ ⟨row, rfl, ⟨hr.1, fun y hy => by have := hr.2 y hy; omega⟩, hd'⟩
    simp? only [Tg.dg, w_f_law_work_1]
    by_cases hx : (x3 % 3 == 0) = true
    · rw [if_pos hx]
      exact yes _ (hd.mono (by omega))
    · rw [if_neg hx]
      refine next_use hd (by omega) fun x st' x0 x1 hd' => ?_
      have e1 : B + 1003 + (i : Int) + 1 = B + 1003 + ((i + 1 : Nat) : Int) := by omega
      rw [e1] at hd'
      (try simp? only [true_and])
      refine ⟨by decide, ?_⟩
      by_cases hx : (x % 2 == 0) = true
      · rw [if_pos hx]; exact yes _ hd'
      · rw [if_neg hx]; exact no _ hd'
  · rintro st acc ⟨row, rfl, hr, hd⟩
    rw [rangeD_len] at hr hd
    have hr' : Row h row := ⟨hr.1, fun y hy => by have := hr.2 y hy; omega⟩
    have hA' : Row n ahead := ⟨hA.1, fun y hy => by have := hA.2 y hy; omega⟩
    have hm : 1 ≤ 1 + x1 % l ∧ 1 + x1 % l ≤ l := by
      have := Int.emod_nonneg x1 (show l ≠ 0 by omega)
      have := Int.emod_lt_of_pos x1 (show 0 < l by omega)
      omega
    refine ⟨trivial, Nat.zero_le _, okL_ints _, ?_⟩
    cases row with
    | cons y row =>
      rw [if_neg (by simp)]
      exact ⟨z3, ⟨_, ahead, y :: row⟩, rfl, ⟨hm, hA', hr', by simp⟩, hd.mono (by omega)⟩
    | nil =>
      rw [if_pos (show (List.map D.int []).isEmpty = true from rfl)]
      refine next_use hd (by omega) fun x st' y0 y1 hd' => ?_
      (try simp? only [true_and])
      have hq := Int.emod_nonneg x (show h ≠ 0 by omega)
      have hq2 := Int.emod_lt_of_pos x (show 0 < h by omega)
      refine ⟨by omega, z1, z3, ⟨_, ahead, [x % h]⟩, rfl, ⟨hm, hA', ⟨List.pairwise_singleton .., fun y hy => ?_⟩, by simp⟩, hd'.mono (by omega)⟩
      rw [List.mem_singleton] at hy
      omega
theorem work_use {B n h l : Int} {rest st : Sto} {Q : DK} (hD : Dk B rest st) (hb : B < 2 ^ 38) (n0 : 0 ≤ n) (n1 : n ≤ 900) (h0 : 1 ≤ h) (h1 : h ≤ 900) (hl : 1 ≤ l) (q : ∀ (w : Wk) st', w.Ok n h l → Dk (B + 10000) rest st' → Q w.d st') :
    ∃ g, [D.ref 2, .int n, .int h, .int l] = S_f_law_work.args g ∧ (S_f_law_work.args g).length = S_f_law_work.n ∧ S_f_law_work.pre g st ∧ ∀ d s2, S_f_law_work.post g st d s2 → Q d s2 :=
  ⟨(rest, B, n, h, l), rfl, rfl, ⟨hD, hb, n0, n1, h0, h1, hl⟩, fun d s2 ⟨w, e, h0, h1⟩ => by subst e; exact q w s2 h0 h1⟩
def w_f_law_wish : DS := wSeq (wAsg (wOp dIx (wLst false (wCons (wC (.int 1)) (wCons (wC (.int 2)) (wCons (wC (.int 4)) (wNil))))) (wOp dMod (wCall S_f_law_next (wCons (wVar 0) (wNil))) (wC (.int 3)))) (gNm 3)) (wSeq (wAsg (wOp dIx (wLst false (wCons (wOp dAdd (wC (.int 1)) (wOp dMod (wCall S_f_law_next (wCons (wVar 0) (wNil))) (wC (.int 3)))) (wCons (wOp dAdd (wC (.int 1)) (wOp dMod (wCall S_f_law_next (wCons (wVar 0) (wNil))) (wC (.int 100)))) (wNil)))) (wOp dMod (wCall S_f_law_next (wCons (wVar 0) (wNil))) (wC (.int 2)))) (gNm 4)) (wRet (wTup (wCons (wOp dMod (wCall S_f_law_next (wCons (wVar 0) (wNil))) (wVar 1)) (wCons (wOp dMod (wCall S_f_law_next (wCons (wVar 0) (wNil))) (wC (.int 2))) (wCons (wOp dMod (wCall S_f_law_next (wCons (wVar 0) (wNil))) (wOp dAdd (wVar 2) (wC (.int 1)))) (wCons (wVar 4) (wCons (wOp dMod (wCall S_f_law_next (wCons (wVar 0) (wNil))) (wVar 3)) (wNil)))))))))
def S_f_law_wish : DL.Spec := ⟨3, Sto × Int × Int × Int, fun (_, _, n, h) => [.ref 2, .int n, .int h], fun (r, B, n, h) st => Dk B r st ∧ B < 2 ^ 38 ∧ 1 ≤ n ∧ 0 ≤ h,
  fun (r, B, n, h) _ d st' => ∃ w : Ws, d = w.d ∧ w.Ok n h ∧ Dk (B + 100) r st'⟩
theorem vc_f_law_wish : ∀ g sto, (S_f_law_wish.args g).length = S_f_law_wish.n → S_f_law_wish.pre g sto → w_f_law_wish (bodyEnds (S_f_law_wish.post g sto)) (startE ["_law_deck_here", "_law_works", "_law_days", "_law_ranks", "_law_weight"] (S_f_law_wish.args g)) sto := by
  rintro ⟨rest, B, n, h⟩ sto _ ⟨hD, hB, n1, h0⟩
  have z3 : 3 ≤ sizeLine := by decide
  have z2 : 2 ≤ sizeLine := by decide
  have z5 : 5 ≤ sizeLine := by decide
  simp? only [w_f_law_wish, S_f_law_wish]
  refine ⟨z3, next_use hD (by omega) fun x1 st1 a1 b1 hD => ?_⟩
  obtain ⟨p, hp, hp2⟩ := pickI (ns := [1, 2, 4]) (i := x1 % 3) (by omega) (by simp; omega)
  have hp0 : 0 < p ∧ p ≤ 4 := by simp at hp2; omega
  simp only [List.map_cons, List.map_nil] at hp
  simp? only [hp]
  refine ⟨by decide, next_use hD (by omega) fun x2 st2 a2 b2 hD => ?_⟩
  (try simp? only [true_and])
  refine ⟨by decide, next_use hD (by omega) fun x3 st3 a3 b3 hD => ?_⟩
  (try simp? only [true_and])
  refine ⟨by decide, z2, next_use hD (by omega) fun x4 st4 a4 b4 hD => ?_⟩
  (try simp? only [true_and])
  obtain ⟨q, hq, hq2⟩ := pickI (ns := [1 + x2 % 3, 1 + x3 % 100]) (i := x4 % 2) (by omega) (by simp; omega)
  have hq0 : 0 < q ∧ q ≤ 100 := by simp at hq2; omega
  simp only [List.map_cons, List.map_nil] at hq
  simp? only [hq]
  refine ⟨by decide, next_use hD (by omega) fun x5 st5 a5 b5 hD => ?_⟩
  (try simp? only [true_and])
  refine ⟨by omega, next_use hD (by omega) fun x6 st6 a6 b6 hD => ?_⟩
  (try simp? only [true_and])
  refine ⟨by decide, next_use hD (by omega) fun x7 st7 a7 b7 hD => ?_⟩
  (try simp? only [true_and])
  refine ⟨by omega, next_use hD (by omega) fun x8 st8 a8 b8 hD => ?_⟩
  (try simp? only [true_and])
  have := Int.emod_nonneg x5 (show n ≠ 0 by omega)
  have := Int.emod_lt_of_pos x5 (show 0 < n by omega)
  have := Int.emod_nonneg x7 (show h + 1 ≠ 0 by omega)
  have := Int.emod_lt_of_pos x7 (show 0 < h + 1 by omega)
  have := Int.emod_nonneg x8 (show p ≠ 0 by omega)
  have := Int.emod_lt_of_pos x8 (show 0 < p by omega)
  exact ⟨hp0.1, z5, ⟨_, _, _, q, _⟩, rfl, ⟨⟨by dsimp only; omega, by dsimp only; omega⟩, ⟨by dsimp only; omega, by dsimp only; omega⟩, ⟨by dsimp only; omega, by dsimp only; omega⟩, hq0, ⟨by dsimp only; omega, by dsimp only; omega⟩⟩, hD.mono (by omega)⟩
theorem wish_use {B n h : Int} {rest st : Sto} {Q : DK} (hD : Dk B rest st) (hb : B < 2 ^ 38) (n0 : 1 ≤ n) (h0 : 0 ≤ h) (q : ∀ (w : Ws) st', w.Ok n h → Dk (B + 100) rest st' → Q w.d st') :
    ∃ g, [D.ref 2, .int n, .int h] = S_f_law_wish.args g ∧ (S_f_law_wish.args g).length = S_f_law_wish.n ∧ S_f_law_wish.pre g st ∧ ∀ d s2, S_f_law_wish.post g st d s2 → Q d s2 :=
  ⟨(rest, B, n, h), rfl, rfl, ⟨hD, hb, n0, h0⟩, fun d s2 ⟨w, e, h0, h1⟩ => by subst e; exact q w s2 h0 h1⟩
def w_f_law_system_1 : DE := wCall S_f_law_rows_of (wCons (wVar 0) (wCons (wOp dSub (wVar 6) (wC (.int 1))) (wCons (wVar 7) (wNil))))
def w_f_law_system_2 : DE := wCall S_f_law_work (wCons (wVar 0) (wCons (wVar 14) (wCons (wCB bLen (wCons (wVar 8) (wNil))) (wCons (wVar 10) (wNil)))))
def w_f_law_system_3 : DE := wCall S_f_law_wish (wCons (wVar 0) (wCons (wVar 9) (wCons (wVar 6) (wNil))))
def w_f_law_system : DS := wSeq (wAsg (wOp dAdd (wC (.int 1)) (wOp dMod (wCall S_f_law_next (wCons (wVar 0) (wNil))) (wVar 1))) (gNm 6)) (wSeq (wAsg (wOp dIx (wLst false (wCons (wC (.int 100)) (wCons (wC (.int 6)) (wCons (wC (.int 3)) (wNil))))) (wOp dMod (wCall S_f_law_next (wCons (wVar 0) (wNil))) (wC (.int 3)))) (gNm 7)) (wSeq (wAsg (wCB bTuple (wCons (wComp false (iRange1 (wCons (wOp dAdd (wC (.int 1)) (wOp dMod (wCall S_f_law_next (wCons (wVar 0) (wNil))) (wVar 2))) (wNil))) (.nm 13) wYes w_f_law_system_1 [13]) (wNil))) (gNm 8)) (wSeq (wAsg (wOp dMod (wCall S_f_law_next (wCons (wVar 0) (wNil))) (wOp dAdd (wVar 3) (wC (.int 1)))) (gNm 9)) (wSeq (wAsg (wOp dIx (wLst false (wCons (wCB bMin2 (wCons (wVar 4) (wCons (wVar 6) (wNil)))) (wCons (wVar 4) (wNil)))) (wCB bInt (wCons (wOp dEq (wOp dMod (wCall S_f_law_next (wCons (wVar 0) (wNil))) (wC (.int 9))) (wC (.int 4))) (wNil)))) (gNm 10)) (wSeq (wAsg (wCB bTuple (wCons (wComp false (iRange1 (wCons (wVar 9) (wNil))) (.nm 14) wYes w_f_law_system_2 [14]) (wNil))) (gNm 11)) (wSeq (wAsg (wOp dMul (wOp dMod (wCall S_f_law_next (wCons (wVar 0) (wNil))) (wOp dAdd (wVar 5) (wC (.int 1)))) (wCB bInt (wCons (wOp dGt (wVar 9) (wC (.int 0))) (wNil)))) (gNm 12)) (wRet (wTup (wCons (wVar 6) (wCons (wVar 8) (wCons (wVar 11) (wCons (wCB bTuple (wCons (wComp false (iRange1 (wCons (wVar 12) (wNil))) (.nm 15) wYes w_f_law_system_3 [15]) (wNil))) (wNil)))))))))))))
def S_f_law_system : DL.Spec := ⟨6, Sto × Int × Int × Int × Int × Int × Int, fun (_, _, a, b, c, d, e) => [.ref 2, .int a, .int b, .int c, .int d, .int e],
  fun (r, B, a, b, c, d, e) st => Dk B r st ∧ B < 2 ^ 37 ∧ (1 ≤ a ∧ a ≤ 900) ∧ (1 ≤ b ∧ b ≤ 100) ∧ (0 ≤ c ∧ c ≤ 100) ∧ (1 ≤ d ∧ d ≤ 900) ∧ (0 ≤ e ∧ e ≤ 100),
  fun (r, B, a, b, c, d, e) _ x st' => ∃ s : Sy, x = s.d ∧ s.Ok a b c d e ∧ Dk (B + 10000000) r st'⟩
theorem vc_f_law_system : ∀ g sto, (S_f_law_system.args g).length = S_f_law_system.n → S_f_law_system.pre g sto → w_f_law_system (bodyEnds (S_f_law_system.post g sto)) (startE ["_law_deck_here", "_law_days", "_law_hands", "_law_works", "_law_length", "_law_wishes", "_law_many", "_law_some", "_law_rows", "_law_count", "_law_longest", "_law_works_drawn", "_law_wished", "_law_hand", "_law_work_here", "_law_k"] (S_f_law_system.args g)) sto := by
  rintro ⟨rest, B, a, b, c, l, e⟩ sto _ ⟨hD, hB, ha, hb, hc, hl, he⟩
  have z3 : 3 ≤ sizeLine := by decide
  have z2 : 2 ≤ sizeLine := by decide
  have z4 : 4 ≤ sizeLine := by decide
  simp? only [w_f_law_system, S_f_law_system, wComp, wipeE]
  refine next_use hD (by omega) fun x1 st1 a1 b1 hD => ?_
  (try simp? only [true_and])
  have hx1 := Int.emod_nonneg x1 (show a ≠ 0 by omega)
  have hx2 := Int.emod_lt_of_pos x1 (show 0 < a by omega)
  obtain ⟨D, eD⟩ : ∃ D, D = 1 + x1 % a := ⟨_, rfl⟩
  simp only [← eD]
  refine ⟨by omega, z3, next_use hD (by omega) fun x2 st2 a2 b2 hD => ?_⟩
  (try simp? only [true_and])
  obtain ⟨p, hp, hp2⟩ := pickI (ns := [100, 6, 3]) (i := x2 % 3) (by omega) (by simp; omega)
  have hp0 : 0 < p := by simp at hp2; omega
  simp only [List.map_cons, List.map_nil] at hp
  simp? only [hp]
  refine ⟨by decide, next_use hD (by omega) fun x3 st3 a3 b3 hD => ?_⟩
  (try simp? only [true_and])
  have hx3 := Int.emod_nonneg x3 (show b ≠ 0 by omega)
  have hx4 := Int.emod_lt_of_pos x3 (show 0 < b by omega)
  obtain ⟨h, eh⟩ : ∃ h, h = 1 + x3 % b := ⟨_, rfl⟩
  simp only [← eh, rangeD_len]
  refine ⟨by omega, ⟨by omega, by omega⟩, by rw [sizeLine_eq]; omega, ?_⟩
  refine compL_inv (fun i st acc => ∃ rows : List (List Int), acc = rows.map dInts ∧ rows.length = i ∧ (∀ r ∈ rows, Row D r) ∧ Dk (B + 3 + i * 1000) rest st) ?_ ?_ _ _ ⟨[], rfl, rfl, fun _ h => (nomatch h), hD.mono (by omega)⟩
  · rintro i st acc d ⟨rows, rfl, hn, hr, hd⟩ he R hR
    obtain ⟨hi, rfl⟩ := rangeD_at he
    simp? only [Tg.dg, wYes, w_f_law_system_1]
    refine rows_use hd (by omega) (by omega) (by omega) hp0 fun row st' hrow hd' => ?_
    refine hR _ _ ⟨rows ++ [row], by simp, by simp; omega, fun r hm => ?_, hd'.mono (by omega)⟩
    rcases List.mem_append.mp hm with z | z
    · exact hr r z
    · rw [List.mem_singleton] at z
      subst z
      rwa [show D - 1 + 1 = D by omega] at hrow
  · rintro st acc ⟨rows, rfl, hn, hr, hd⟩
    rw [rangeD_len] at hn hd
    refine ⟨trivial, ?_⟩
    (try simp? only [true_and])
    refine next_use hd (by omega) fun x4 st4 a4 b4 hD => ?_
    (try simp? only [true_and])
    have hx5 := Int.emod_nonneg x4 (show c + 1 ≠ 0 by omega)
    have hx6 := Int.emod_lt_of_pos x4 (show 0 < c + 1 by omega)
    obtain ⟨k, ek⟩ : ∃ k, k = x4 % (c + 1) := ⟨_, rfl⟩
    simp only [← ek]
    refine ⟨by omega, z2, next_use hD (by omega) fun x5 st5 a5 b5 hD => ?_⟩
    (try simp? only [true_and])
    refine ⟨by decide, ?_⟩
    obtain ⟨m, hm, hm2⟩ := pickI (ns := [if D < l then D else l, l]) (i := if (x5 % 9 == 4) = true then 1 else 0) (by split <;> decide) (by simp only [List.length_cons, List.length_nil]; split <;> decide)
    have hm0 : 1 ≤ m ∧ m ≤ l := by
      simp only [List.mem_cons, List.not_mem_nil, or_false] at hm2
      rcases hm2 with z | z
      · subst z; split <;> omega
      · omega
    simp only [List.map_cons, List.map_nil] at hm
    simp? only [hm]
    refine ⟨⟨by omega, by omega⟩, by (try rw [rangeD_len]); rw [sizeLine_eq]; omega, ?_⟩
    refine compL_inv (fun i st acc => ∃ ws : List Wk, acc = ws.map Wk.d ∧ ws.length = i ∧ (∀ (j : Nat) (w : Wk), ws[j]? = some w → w.Ok j rows.length l) ∧ Dk (B + 100100 + i * 10000) rest st) ?_ ?_ _ _ ⟨[], rfl, rfl, fun _ _ h => (nomatch h), hD.mono (by omega)⟩
    · rintro i st acc d ⟨ws, rfl, hn2, hr2, hd⟩ he R hR
      obtain ⟨hi, rfl⟩ := rangeD_at he
      simp? only [Tg.dg, wYes, w_f_law_system_2]
      refine work_use hd (by omega) (by omega) (by omega) (by omega) (by omega) (by omega) fun w st' hw hd' => ?_
      refine hR _ _ ⟨ws ++ [w], by simp, by simp; omega, fun j w' hm => ?_, hd'.mono (by omega)⟩
      by_cases hj : j < ws.length
      · rw [List.getElem?_append_left hj] at hm
        exact hr2 j w' hm
      · rw [List.getElem?_append_right (by omega)] at hm
        have e0 : j = ws.length := by
          have := (List.getElem?_eq_some_iff.mp hm).1
          rw [List.length_singleton] at this
          omega
        subst e0
        rw [Nat.sub_self] at hm
        cases hm
        have e1 : (0 : Int) + (i : Int) = (ws.length : Nat) := by omega
        rw [e1] at hw
        exact ⟨⟨hw.len.1, by have := hw.len.2; omega⟩, hw.ahead, hw.able, hw.any⟩
    · rintro st acc ⟨ws, rfl, hn2, hr2, hd⟩
      rw [rangeD_len] at hn2 hd
      refine ⟨trivial, ?_⟩
      (try simp? only [true_and])
      refine next_use hd (by omega) fun x6 st6 a6 b6 hD => ?_
      (try simp? only [true_and])
      have hx7 := Int.emod_nonneg x6 (show e + 1 ≠ 0 by omega)
      have hx8 := Int.emod_lt_of_pos x6 (show 0 < e + 1 by omega)
      obtain ⟨u, eu⟩ : ∃ u, u = x6 % (e + 1) := ⟨_, rfl⟩
      simp only [← eu]
      have hw : 0 ≤ u * (if 0 < k then 1 else 0) ∧ u * (if 0 < k then 1 else 0) ≤ e ∧ (0 < u * (if 0 < k then 1 else 0) → 0 < k) := by
        by_cases hk : 0 < k
        · rw [if_pos hk]; omega
        · rw [if_neg hk]; omega
      obtain ⟨v, ev⟩ : ∃ v, v = u * (if 0 < k then 1 else 0) := ⟨_, rfl⟩
      rw [← ev] at hw
      refine ⟨by omega, .inl ⟨by omega, by omega⟩, ?_⟩
      (try simp only [← ev])
      refine ⟨⟨by omega, by omega⟩, by (try rw [rangeD_len]); rw [sizeLine_eq]; omega, ?_⟩
      refine compL_inv (fun i st acc => ∃ us : List Ws, acc = us.map Ws.d ∧ us.length = i ∧ (∀ u ∈ us, u.Ok ws.length D) ∧ Dk (B + 2000000 + i * 100) rest st) ?_ ?_ _ _ ⟨[], rfl, rfl, fun _ h => (nomatch h), hD.mono (by omega)⟩
      · rintro i st acc d ⟨us, rfl, hn3, hr3, hd⟩ he R hR
        obtain ⟨hi, rfl⟩ := rangeD_at he
        simp? only [Tg.dg, wYes, w_f_law_system_3]
        refine wish_use hd (by omega) (by omega) (by omega) fun w st' hw hd' => ?_
        refine hR _ _ ⟨us ++ [w], by simp, by simp; omega, fun r hm => ?_, hd'.mono (by omega)⟩
        rcases List.mem_append.mp hm with z | z
        · exact hr3 r z
        · rw [List.mem_singleton] at z
          subst z
          rwa [show k = (ws.length : Int) by omega] at hw
      · rintro st acc ⟨us, rfl, hn3, hr3, hd⟩
        rw [rangeD_len] at hn3 hd
        refine ⟨trivial, ?_⟩
        (try simp? only [true_and])
        exact ⟨z4, ⟨D, rows, ws, us⟩, rfl, ⟨⟨by dsimp only; omega, by dsimp only; omega⟩, ⟨by dsimp only; omega, by dsimp only; omega⟩, hr, by dsimp only; omega, hr2, by dsimp only; omega, hr3⟩, hd.mono (by omega)⟩
def freeF (row : List Int) (a b : Int) : Bool := !(row.map fun day => if a ≤ day then decide (day < b) else false).any id
/-- the ways -/
def rowOf (s : Sy) (h : Int) : List Int := (atI s.hands h).getD []
def encP (p : Int × Int) : D := .tup [.int p.1, .int p.2]
def waysF (s : Sy) (w : Wk) : List (Int × Int) := (rangeI 0 (s.days - w.len + 1).toNat).foldl (fun acc b => w.able.foldl (fun acc h => if freeF (rowOf s h) b (b + w.len) = true then acc ++ [(b, h)] else acc) acc) []
def preWays (s : Sy) (i : Int) (w : Wk) : Prop := atI s.works i = some w ∧ (∀ h ∈ w.able, ∃ row, atI s.hands h = some row ∧ row.length ≤ 1000) ∧ 0 ≤ s.days ∧ s.days ≤ 1000 ∧ 0 ≤ w.len ∧ w.len ≤ 1000 ∧ w.able.length ≤ 1000
def S_f_law_ways : DL.Spec := ⟨2, Sy × Int × Wk, fun (s, i, _) => [s.d, .int i], fun (s, i, w) _ => preWays s i w, fun (s, _, w) st d st' => st' = st ∧ d = .tup ((waysF s w).map encP)⟩
theorem blw_encP (n : Nat) : ∀ ps : List (Int × Int), D.blwL n (ps.map encP) = true
  | [] => rfl
  | p :: r => by rw [List.map_cons]; simp only [D.blwL, encP, D.blw, Bool.true_and]; exact blw_encP n r
def w_f_law_ways_1 : DT := wTest (wChain dLe dLt (wVar 9) (wVar 11) (wOp dAdd (wVar 9) (wVar 5)))
def w_f_law_ways_2 : DS := wIf (wTest (wOp dEq (wComp false (iSeq (wOp dIx (wVar 3) (wVar 10))) (.nm 11) w_f_law_ways_1 (wVar 11) [11]) (wLst false (wNil)))) (wDrop (wM mAppend (wVar 8) (wCons (wTup (wCons (wVar 9) (wCons (wVar 10) (wNil)))) (wNil)))) ((fun D env st => D.nx env st))
def w_f_law_ways_3 : DS := wFor (iSeq (wVar 7)) (gNm 10) w_f_law_ways_2
def w_f_law_ways : DS := wSeq (wAsg (wSl false (wVar 0) oNo (oPart (wC (.int 3)))) (gTp 3 (gCn (gNm 2) (gCn (gNm 3) (gCn (gNm 4) gNl))))) (wSeq (wAsg (wOp dIx (wVar 4) (wVar 1)) (gTp 3 (gCn (gNm 5) (gCn (gNm 6) (gCn (gNm 7) gNl))))) (wSeq (wAsg (wLst true (wNil)) (gNm 8)) (wSeq (wFor (iRange1 (wCons (wOp dAdd (wOp dSub (wVar 2) (wVar 5)) (wC (.int 1))) (wNil))) (gNm 9) w_f_law_ways_3) (wRet (wCB bTuple (wCons (wVar 8) (wNil)))))))
def hit (a b day : Int) : Bool := if a ≤ day then decide (day < b) else false
theorem free_empty (a b : Int) : ∀ row : List Int, (row.filterMap fun day => if hit a b day = true then some (D.int day) else none).isEmpty = freeF row a b
  | [] => rfl
  | x :: r => by
    have ih := free_empty a b r
    unfold freeF at ih ⊢
    rw [List.filterMap_cons, List.map_cons, List.any_cons]
    have eh : hit a b x = if a ≤ x then decide (x < b) else false := rfl
    rw [← eh]
    cases hit a b x with
    | true => rfl
    | false => exact ih
theorem okL_hits (a b : Int) : ∀ row : List Int, D.okL (row.filterMap fun day => if hit a b day = true then some (D.int day) else none) = true
  | [] => rfl
  | x :: r => by
    rw [List.filterMap_cons]
    cases hit a b x with
    | true => simp only [if_true, D.okL, D.ok, Bool.true_and]; exact okL_hits a b r
    | false => exact okL_hits a b r
theorem vc_f_law_ways : ∀ g sto, (S_f_law_ways.args g).length = S_f_law_ways.n → S_f_law_ways.pre g sto → w_f_law_ways (bodyEnds (popEnds sto.length sto (S_f_law_ways.post g sto))) (startE ["_law_system_here", "_law_work_here", "_law_days", "_law_hands", "_law_works", "_law_length", "_law_ahead", "_law_able", "_law_found", "_law_start", "_law_hand", "_law_day"] (S_f_law_ways.args g)) sto := by
  rintro ⟨s, i, w⟩ sto _ ⟨hw, hrow, d0, d1, l0, l1, la⟩
  have z2 : 2 ≤ sizeLine := by decide
  simp? only [w_f_law_ways, S_f_law_ways, wFor]
  refine ⟨_, atI_map hw, ?_⟩
  (try simp? only [true_and])
  refine ⟨Nat.zero_le _, ⟨by omega, by omega⟩, ?_⟩
  rw [rangeD_eq]
  refine forL_fold D.int (fun acc b => w.able.foldl (fun acc h => if freeF (rowOf s h) b (b + w.len) = true then acc ++ [(b, h)] else acc) acc)
    (fun k acc e st => ∃ x y, e = [some s.d, some (.int i), some (.int s.days), some (.tup (s.hands.map dInts)), some (.tup (s.works.map Wk.d)), some (.int w.len), some (dInts w.ahead), some (dInts w.able), some (.ref sto.length), x, y, none] ∧ st = sto ++ [.lst (acc.map encP)] ∧ acc.length ≤ k * 1000) _ [] _ _ ?_ ?_ ⟨_, _, rfl, rfl, Nat.le_refl _⟩
  · rintro k acc b e st hk hb ⟨x, y, rfl, rfl, hl⟩ R hR
    have hbr := mem_rangeI.mp hb
    refine ⟨trivial, ?_⟩
    simp? only [w_f_law_ways_3, wFor]
    refine forL_fold D.int (fun acc h => if freeF (rowOf s h) b (b + w.len) = true then acc ++ [(b, h)] else acc)
      (fun j acc' e st => ∃ y, e = [some s.d, some (.int i), some (.int s.days), some (.tup (s.hands.map dInts)), some (.tup (s.works.map Wk.d)), some (.int w.len), some (dInts w.ahead), some (dInts w.able), some (.ref sto.length), some (.int b), y, none] ∧ st = sto ++ [.lst (acc'.map encP)] ∧ acc'.length ≤ acc.length + j) _ acc _ _ ?_ ?_ ⟨_, rfl, rfl, Nat.le_refl _⟩
    · rintro j acc' h e st hj hh ⟨y, rfl, rfl, hl'⟩ R2 hR2
      obtain ⟨row, hr, hrl⟩ := hrow h hh
      have er : rowOf s h = row := by unfold rowOf; rw [hr]; rfl
      refine ⟨trivial, ?_⟩
      simp? only [w_f_law_ways_2, wComp, wipeE]
      refine ⟨_, atI_map hr, ?_⟩
      (try simp? only [true_and])
      refine ⟨by (try simp only [List.length_map]); rw [sizeLine_eq]; omega, compL_map D.int (fun day => if hit b (b + w.len) day = true then some (.int day) else none) trivial row [] (fun x hx R hR => ?_) ?_⟩
      · simp? only [Tg.dg, w_f_law_ways_1]
        unfold hit at hR
        by_cases hx : b ≤ x
        · by_cases hx2 : x < b + w.len
          · simpa [hx, hx2] using hR
          · simpa [hx, hx2] using hR
        · simpa [hx] using hR
      · simp? only [true_and]
        refine ⟨Nat.zero_le _, okL_hits _ _ _, ?_⟩
        simp only [v_eqE, wComp, wipeE, wFor, wIsi, iEnum, iZip, zipI_tup, zipI_lst, zipI_lt, zipI_tl, seqJ_tup, seqJ_lst, v_app0, v_app1, v_eqNl, v_eqNt, rd_r0, rd_r1, rd_r2, v_ix0, v_ix1, v_ix2, v_eq0, v_len0, v_len1, v_ex0, v_mulS, wRevA, v_revT, v_revL, wRgL1, wRgL2, wRgT1, wRgT2, v_rgx1, v_rgx2, sy_ix0, sy_ix1, sy_ix2, sy_ix3, sy_sl3, sy_tp, wk_ix0, wk_ix1, wk_ix2, wk_tp, ws_tp, ns_seq, ns_len, ns_ix, ns_rd, sy_rd, wk_rd, ws_rd, wSeq, wAsg, wRet, wIf, wDrop, wOp, wCons, wNil, wTup, wLst, wCB, wCall, wTest, wAnd, wOr, wNot, wNotV, wAndV, wOrV, wChain, wNeg, wC, wM, wSl, oNo, oPart, iSeq, seqI_tup, seqI_lst, seqI_scr, v_rg1, v_rg2, gNm, v_gTp, v_gCn, v_gNl, v_var0, v_varS, v_sub, v_mod, v_fdiv, v_pow, v_iadd, v_add, v_addT, v_addL, v_mul, v_lt, v_le, v_gt, v_ge, v_eqi, v_ixT, v_ixL, v_ixS, v_lenT, v_lenL, v_lenS, v_abs, v_min2, v_max2, v_intI, v_intB, v_tupl, v_tupT, v_bl, v_in, v_some, v_newT, v_newF, startE, rd_int', rd_bl', rd_str', rd_tup', rd_lst', rd_scr', rd_non', at0, at1, at2, at3, at4, List.map_cons, List.map_nil, List.length_cons, List.length_nil, List.length_map, List.replicate_succ, List.replicate_zero, Nat.reduceSub, Nat.reduceAdd, List.cons_append, List.nil_append, List.set_cons_zero, List.set_cons_succ, List.getElem?_cons_zero, List.getElem?_cons_succ, Bool.not_true, Bool.not_false, if_true, if_false, Bool.false_eq_true, reduceCtorEq, true_and, and_true, bodyEnds, Nat.zero_add, decide_eq_true_eq, free_empty]
        rw [er] at hR2
        by_cases hf : freeF row b (b + w.len) = true
        · rw [if_pos hf] at hR2
          simp? only [hf, v_app (get_last _ _), set_last, rd_ref' (get_last _ _)]
          rw [rangeI_len] at hk
          refine ⟨z2, by rw [sizeLine_eq]; omega, hR2 _ _ ⟨_, rfl, by simp [encP], by simp; omega⟩⟩
        · rw [if_neg hf] at hR2
          simp? only [hf]
          exact hR2 _ _ ⟨_, rfl, rfl, by omega⟩
    · rintro e st ⟨y, rfl, rfl, hl'⟩
      refine ⟨trivial, hR _ _ ⟨_, _, rfl, rfl, ?_⟩⟩
      omega
  · rintro e st ⟨x, y, rfl, rfl, hl⟩
    refine ⟨trivial, ?_⟩
    simp? only [v_tupL (rd_ref' (get_last _ _))]
    exact ⟨sto, _, rfl, rfl, blw_encP _ _, fun i c h => .inl h, rfl, rfl⟩
theorem waysL_len (s : Sy) (w : Wk) : (waysF s w).length ≤ (s.days - w.len + 1).toNat * w.able.length := by
  have inner : ∀ (b : Int) (hs : List Int) (acc : List (Int × Int)), (hs.foldl (fun acc h => if freeF (rowOf s h) b (b + w.len) = true then acc ++ [(b, h)] else acc) acc).length ≤ acc.length + hs.length := fun b hs => by
    induction hs with
    | nil => intro acc; exact Nat.le_refl _
    | cons h r ih =>
      intro acc
      rw [List.foldl_cons, List.length_cons]
      refine Nat.le_trans (ih _) ?_
      split <;> simp <;> omega
  have outer : ∀ (bs : List Int) (acc : List (Int × Int)), (bs.foldl (fun acc b => w.able.foldl (fun acc h => if freeF (rowOf s h) b (b + w.len) = true then acc ++ [(b, h)] else acc) acc) acc).length ≤ acc.length + bs.length * w.able.length := fun bs => by
    induction bs with
    | nil => intro acc; simp
    | cons b r ih =>
      intro acc
      rw [List.foldl_cons, List.length_cons, Nat.succ_mul]
      have h1 := ih (w.able.foldl (fun acc h => if freeF (rowOf s h) b (b + w.len) = true then acc ++ [(b, h)] else acc) acc)
      have h2 := inner b w.able acc
      omega
  have := outer (rangeI 0 (s.days - w.len + 1).toNat) []
  rw [rangeI_len] at this
  unfold waysF
  simpa using this
theorem lways_use {s : Sy} {i : Int} {w : Wk} {st : Sto} {Q : DK} (h : preWays s i w) (q : Q (.tup ((waysF s w).map encP)) st) :
    ∃ g, [s.d, .int i] = S_f_law_ways.args g ∧ (S_f_law_ways.args g).length = S_f_law_ways.n ∧ S_f_law_ways.pre g st ∧ ∀ d s2, S_f_law_ways.post g st d s2 → Q d s2 :=
  ⟨(s, i, w), rfl, rfl, h, fun d s2 ⟨e1, e2⟩ => by subst e1; subst e2; exact q⟩
theorem deck_use {ns : List Int} {Q : DK} (h : ns.length ≤ 63) (q : ∀ st', Dk 0 [] st' → Q (.ref 2) st') :
    ∃ g, [D.scr (ns.map .int)] = S_f_law_deck.args g ∧ (S_f_law_deck.args g).length = S_f_law_deck.n ∧ S_f_law_deck.pre g [] ∧ ∀ d s2, S_f_law_deck.post g [] d s2 → Q d s2 :=
  ⟨ns, rfl, rfl, ⟨h, rfl⟩, fun d s2 ⟨e1, e2⟩ => by subst e1; exact q s2 e2⟩
theorem sys_use {B a b c l e : Int} {rest st : Sto} {Q : DK} (hD : Dk B rest st) (hb : B < 2 ^ 37) (ha : 1 ≤ a ∧ a ≤ 900) (hb' : 1 ≤ b ∧ b ≤ 100) (hc : 0 ≤ c ∧ c ≤ 100) (hl : 1 ≤ l ∧ l ≤ 900) (he : 0 ≤ e ∧ e ≤ 100) (q : ∀ (s : Sy) st', s.Ok a b c l e → Dk (B + 10000000) rest st' → Q s.d st') :
    ∃ g, [D.ref 2, .int a, .int b, .int c, .int l, .int e] = S_f_law_system.args g ∧ (S_f_law_system.args g).length = S_f_law_system.n ∧ S_f_law_system.pre g st ∧ ∀ d s2, S_f_law_system.post g st d s2 → Q d s2 :=
  ⟨(rest, B, a, b, c, l, e), rfl, rfl, ⟨hD, hb, ha, hb', hc, hl, he⟩, fun d s2 ⟨w, e, h0, h1⟩ => by subst e; exact q w s2 h0 h1⟩
theorem preWays_of {s : Sy} {a b c l e : Int} (o : s.Ok a b c l e) (ha : a ≤ 900) (hb : b ≤ 100) (hl : l ≤ 900) {i : Nat} (hi : i < s.works.length) : ∃ w, preWays s i w ∧ w.Ok i s.hands.length l := by
  have hw : s.works[i]? = some s.works[i] := List.getElem?_eq_getElem hi
  have ow := o.work i _ hw
  refine ⟨s.works[i], ⟨atI_of (by omega) (by rw [Int.toNat_natCast]; exact hw), fun h hh => ?_, by have := o.days; omega, by have := o.days; omega, by have := ow.len; omega, by have := ow.len; omega, ?_⟩, ow⟩
  · have hr := ow.able.2 h hh
    obtain ⟨row, h1, h2⟩ := pick (xs := s.hands) (i := h) hr.1 hr.2
    refine ⟨row, h1, ?_⟩
    have := (o.rows row h2).len
    have := o.days
    omega
  · have := ow.able.len
    have := o.hands
    omega
theorem p_ix0 {p : Int × Int} {st : Sto} {Q : DK} : dIx (encP p) (.int 0) st Q = Q (.int p.1) st := by unfold encP; rw [v_ixT]; simp only [at0, v_some]
theorem p_ix1 {p : Int × Int} {st : Sto} {Q : DK} : dIx (encP p) (.int 1) st Q = Q (.int p.2) st := by unfold encP; rw [v_ixT]; simp only [at1, v_some]
theorem any_ints {i : Int} : ∀ ns : List Int, (ns.map D.int).any (fun z => z.eqv (.int i)) = ns.any (· == i)
  | [] => rfl
  | n :: r => by rw [List.map_cons, List.any_cons, List.any_cons, any_ints r]; simp only [D.eqv]
theorem depL_ints : ∀ ns : List Int, D.depL (ns.map D.int) = 0
  | [] => rfl
  | n :: r => by rw [List.map_cons]; simp only [D.depL, D.dep, depL_ints r]; rfl
theorem v_inI {i : Int} {ns : List Int} {st : Sto} {Q : DK} (q : Q (.bl (ns.any (· == i))) st) : dIn (.int i) (dInts ns) st Q :=
  ⟨ns.map .int, .inr rfl, rfl, okL_ints ns, by rw [depL_ints]; exact Nat.zero_le _, by rw [← any_ints] at q; exact q⟩
theorem v_inE {i : Int} {ns : List Int} {f : Bool → Bool} {st : Sto} {Q : DK} : dInB f (.int i) (dInts ns) st Q = Q (.bl (f (ns.any (· == i)))) st := by
  apply propext
  constructor
  · rintro ⟨ds, h, _, _, _, q⟩
    rcases h with h | h
    · cases h
    · cases h
      rw [← any_ints]
      exact q
  · intro q
    exact ⟨ns.map .int, .inr rfl, rfl, okL_ints ns, by rw [depL_ints]; exact Nat.zero_le _, by rw [← any_ints] at q; exact q⟩
def S_p_end_of : DL.Spec := ⟨3, Sy × Int × (Int × Int) × Wk, fun (s, i, p, _) => [s.d, .int i, encP p], fun (s, i, _, w) _ => atI s.works i = some w, fun (_, _, p, w) st d st' => st' = st ∧ d = .int (p.1 + w.len)⟩
def w_p_end_of : DS := wRet (wOp dAdd (wOp dIx (wVar 2) (wC (.int 0))) (wOp dIx (wOp dIx (wOp dIx (wVar 0) (wC (.int 2))) (wVar 1)) (wC (.int 0))))
theorem vc_p_end_of : ∀ g sto, (S_p_end_of.args g).length = S_p_end_of.n → S_p_end_of.pre g sto → w_p_end_of (bodyEnds (S_p_end_of.post g sto)) (startE ["system", "work", "way"] (S_p_end_of.args g)) sto := by
  rintro ⟨s, i, p, w⟩ sto _ hw
  simp? only [w_p_end_of, S_p_end_of, p_ix0]
  refine ⟨_, atI_map hw, ?_⟩
  (try simp? only [true_and])
theorem end_use {s : Sy} {i : Int} {p : Int × Int} {w : Wk} {st : Sto} {Q : DK} (h : atI s.works i = some w) (q : Q (.int (p.1 + w.len)) st) :
    ∃ g, [s.d, .int i, encP p] = S_p_end_of.args g ∧ (S_p_end_of.args g).length = S_p_end_of.n ∧ S_p_end_of.pre g st ∧ ∀ d s2, S_p_end_of.post g st d s2 → Q d s2 :=
  ⟨(s, i, p, w), rfl, rfl, h, fun d s2 ⟨e1, e2⟩ => by subst e1; subst e2; exact q⟩
theorem ok_encP (p : Int × Int) : (encP p).ok = true := rfl
theorem okL_encP : ∀ ps : List (Int × Int), D.okL (ps.map encP) = true
  | [] => rfl
  | p :: r => by rw [List.map_cons]; simp only [D.okL, ok_encP, okL_encP r, Bool.and_self]
theorem fm_filter {α : Type} {enc : α → D} (P : α → Bool) : ∀ xs : List α, (xs.filterMap fun x => if P x = true then some (enc x) else none) = (xs.filter P).map enc
  | [] => rfl
  | x :: r => by
    rw [List.filterMap_cons, List.filter_cons]
    cases P x with
    | true => simp only [if_true, List.map_cons]; rw [fm_filter P r]
    | false => exact fm_filter P r
def pureS (n : Nat) {G : Type} (args : G → List D) (pre : G → Prop) (val : G → D) : DL.Spec := ⟨n, G, args, fun g _ => pre g, fun g st d st' => st' = st ∧ d = val g⟩
theorem use_pure {n : Nat} {G : Type} {args : G → List D} {pre : G → Prop} {val : G → D} {a : List D} {st : Sto} {Q : DK} (g : G) (e : a = args g) (hl : (args g).length = n) (hp : pre g) (q : Q (val g) st) :
    ∃ g, a = (pureS n args pre val).args g ∧ ((pureS n args pre val).args g).length = (pureS n args pre val).n ∧ (pureS n args pre val).pre g st ∧ ∀ d s2, (pureS n args pre val).post g st d s2 → Q d s2 :=
  ⟨g, e, hl, hp, fun d s2 ⟨e1, e2⟩ => by subst e1; subst e2; exact q⟩
/-- a def that draws from the deck, at most c times -/
def deckS (n : Nat) (c : Int) {G : Type} (args : G → List D) (pre : G → Prop) (post : G → D → Prop) : DL.Spec :=
  ⟨n, Sto × Int × G, fun x => .ref 2 :: args x.2.2, fun x st => Dk x.2.1 x.1 st ∧ x.2.1 + c < 2 ^ 36 ∧ pre x.2.2, fun x _ d st' => post x.2.2 d ∧ Dk (x.2.1 + c) x.1 st'⟩
theorem use_deck {n : Nat} {c : Int} {G : Type} {args : G → List D} {pre : G → Prop} {post : G → D → Prop} {a : List D} {B : Int} {r st : Sto} {Q : DK} (g : G) (e : a = .ref 2 :: args g) (hl : (args g).length + 1 = n)
    (hD : Dk B r st) (hB : B + c < 2 ^ 36) (hp : pre g) (q : ∀ d st', post g d → Dk (B + c) r st' → Q d st') :
    ∃ g, a = (deckS n c args pre post).args g ∧ ((deckS n c args pre post).args g).length = (deckS n c args pre post).n ∧ (deckS n c args pre post).pre g st ∧ ∀ d s2, (deckS n c args pre post).post g st d s2 → Q d s2 :=
  ⟨(r, B, g), e, hl, ⟨hD, hB, hp⟩, fun d s2 ⟨e1, e2⟩ => q d s2 e1 e2⟩
section
variable {B B0 : Int} {rest ex st st' sto : Sto} {c c' : Cel}
theorem _root_.DL.Dk.len (h : Dk B rest st) : st.length = rest.length + 3 := by
  obtain ⟨ds, cs, t, rfl, _⟩ := h
  rfl
theorem _root_.DL.Dk.push (h : Dk B rest st) : Dk B (rest ++ [c]) (st ++ [c]) := by
  obtain ⟨ds, cs, t, rfl, r⟩ := h
  exact ⟨ds, cs, t, rfl, r⟩
theorem _root_.DL.Dk.top (h : Dk B (rest ++ [c]) st) : st[rest.length + 3]? = some c := by
  obtain ⟨ds, cs, t, rfl, r⟩ := h
  simp only [List.getElem?_cons_succ]
  exact get_last _ _
theorem _root_.DL.Dk.put (h : Dk B (rest ++ [c]) st) : Dk B (rest ++ [c']) (st.set (rest.length + 3) c') := by
  obtain ⟨ds, cs, t, rfl, r⟩ := h
  refine ⟨ds, cs, t, ?_, r⟩
  simp only [List.set_cons_succ, set_last]
theorem _root_.DL.Dk.pop (h : Dk B (rest ++ ex) st') : ∃ st1, st' = st1 ++ ex ∧ Dk B rest st1 := by
  obtain ⟨ds, cs, t, rfl, r⟩ := h
  exact ⟨_, rfl, ds, cs, t, rfl, r⟩
theorem blwL_ints (n : Nat) : ∀ ns : List Int, D.blwL n (ns.map .int) = true
  | [] => rfl
  | _ :: r => by rw [List.map_cons]; simp only [D.blwL, D.blw, Bool.true_and]; exact blwL_ints n r
theorem dk_pop {post : D → Sto → Prop} {d : D} (h0 : Dk B0 rest sto) (h : Dk B (rest ++ ex) st') (hb : d.blw sto.length = true) (q : ∀ st1, Dk B rest st1 → post d st1) : popEnds sto.length sto post d st' := by
  obtain ⟨st1, rfl, h1⟩ := h.pop
  refine ⟨st1, ex, rfl, by rw [h1.len, h0.len], hb, fun i c hc => ?_, q _ h1⟩
  have hlen := h0.len
  obtain ⟨ds, cs, t, rfl, _⟩ := h1
  obtain ⟨ds0, cs0, t0, rfl, _⟩ := h0
  match i, hc with
  | 0, hc => cases hc; exact .inr (by simp only [Cel.blw]; exact blwL_ints _ _)
  | 1, hc => cases hc; exact .inr (by simp only [Cel.blw]; exact blwL_ints _ _)
  | 2, hc => cases hc; refine .inr ?_; rw [hlen]; simp [Cel.blw, D.blwL, D.blw]
  | i + 3, hc => exact .inl hc
end
theorem compL_flt {α β : Type} {G : Sto → Prop} {t : Tg} {c : DT} {w : DE} {env : En} {Q : LK} {st : Sto} (enc : α → D) (P : α → Bool) (f : α → β) (enc' : β → D) (hG : G st) (xs : List α)
    (step : ∀ x ∈ xs, ∀ R : Option D → Sto → Prop, (if P x = true then R (some (enc' (f x))) st else R none st) → t.dg (enc x) env st fun e s => c e s fun b s1 => if b = true then w e s1 fun y s2 => R (some y) s2 else R none s1)
    (q : Q (((xs.filter P).map f).map enc') st) : wCompL G t c w env (xs.map enc) st [] Q := by
  refine compL_map enc (fun x => if P x = true then some (enc' (f x)) else none) hG xs [] (fun x hx R hR => step x hx R ?_) ?_
  · cases h : P x with
    | true => rw [h] at hR; exact hR
    | false => rw [h] at hR; exact hR
  · rw [List.nil_append, fm_filter, List.map_map] at *
    exact q
theorem compL_all {α β : Type} {G : Sto → Prop} {t : Tg} {c : DT} {w : DE} {env : En} {Q : LK} {st : Sto} (enc : α → D) (f : α → β) (enc' : β → D) (hG : G st) (xs : List α)
    (step : ∀ x ∈ xs, ∀ R : Option D → Sto → Prop, R (some (enc' (f x))) st → t.dg (enc x) env st fun e s => c e s fun b s1 => if b = true then w e s1 fun y s2 => R (some y) s2 else R none s1)
    (q : Q ((xs.map f).map enc') st) : wCompL G t c w env (xs.map enc) st [] Q := by
  refine compL_map enc (fun x => some (enc' (f x))) hG xs [] (fun x hx R hR => step x hx R hR) ?_
  rw [List.nil_append]
  have e : xs.filterMap (fun x => some (enc' (f x))) = (xs.map f).map enc' := by
    rw [List.map_map]; exact congrFun (List.filterMap_eq_map (f := enc' ∘ f)) xs
  rw [e]; exact q
theorem isE_map {α β : Type} (f : α → β) (xs : List α) : (xs.map f).isEmpty = xs.isEmpty := by cases xs <;> rfl
theorem isE_filter {α : Type} (P : α → Bool) : ∀ xs : List α, (xs.filter P).isEmpty = !xs.any P
  | [] => rfl
  | x :: r => by
    rw [List.filter_cons, List.any_cons]
    cases P x with
    | true => rfl
    | false => exact isE_filter P r
theorem modb (x : Int) {n : Int} (h : 0 < n) : 0 ≤ x % n ∧ x % n < n := ⟨Int.emod_nonneg _ (by omega), Int.emod_lt_of_pos _ h⟩
theorem seq_go {a k : DS} {A : DEnds} {env : En} {st : Sto} (h : a { nx := fun e s => k A e s, rt := A.rt, bk := A.bk, ct := A.ct } env st) : wSeq a k A env st := h
/-- what holds behind a statement, whichever way -/
theorem seq_cut {a k : DS} {A : DEnds} {env : En} {st : Sto} (J : En → Sto → Prop) (h : ∀ K : En → Sto → Prop, (∀ e s, J e s → K e s) → a { nx := K, rt := A.rt, bk := A.bk, ct := A.ct } env st) (hk : ∀ e s, J e s → k A e s) : wSeq a k A env st := h _ hk
theorem enum_map {α : Type} (enc : α → D) (xs : List α) : enumD (xs.map enc) = xs.zipIdx.map fun x => .tup [.int (x.2 : Nat), enc x.1] := by
  unfold enumD
  rw [List.zipIdx_map, List.map_map]
  rfl
@[simp] theorem enum_len (ds : List D) : (enumD ds).length = ds.length := by unfold enumD; rw [List.length_map, List.length_zipIdx]
theorem flat_one {α : Type} (x : α) : ∀ n : Nat, (List.replicate n [x]).flatten = List.replicate n x
  | 0 => rfl
  | n + 1 => by rw [List.replicate_succ, List.flatten_cons, flat_one x n, List.replicate_succ]; rfl
theorem v_slT {ds : List D} {a b : Option Int} {m : Bool} {st : Sto} {Q : DK} : dSl m (.tup ds) a b st Q = Q (.tup (cutL ds a b)) st := rfl
def kindsX : List Str := ["TooMany", "NoPlan", "NoRoom", "NotEven", "NoDeed", "NoText"]
def w_f_law_is_kind_1 : DE := wOp dEq (wVar 3) (wVar 1)
def w_f_law_is_kind (a : Addr) (e : Exc) : DS := wSeq (wIf (wOr (wNot (wTest (wIsP a e (fun c : Str => c == ("WishError" : Str) || ("WishError" : Str) == ("WishError" : Str)) (wVar 0)))) (wNot (wTest (wIsP a e (fun _ => ("ValueError" : String) == "ValueError") (wVar 0))))) (wRet (wC (.bl false))) ((fun D env st => D.nx env st))) (wSeq (wAsg (wLst false (wCons (wIsP a e (fun c : Str => c == ("TooMany" : Str) || ("TooMany" : Str) == ("WishError" : Str)) (wVar 0)) (wCons (wIsP a e (fun c : Str => c == ("NoPlan" : Str) || ("NoPlan" : Str) == ("WishError" : Str)) (wVar 0)) (wCons (wIsP a e (fun c : Str => c == ("NoRoom" : Str) || ("NoRoom" : Str) == ("WishError" : Str)) (wVar 0)) (wNil))))) (gNm 2)) (wSeq (wAsg (wOp dAdd (wVar 2) (wLst false (wCons (wIsP a e (fun c : Str => c == ("NotEven" : Str) || ("NotEven" : Str) == ("WishError" : Str)) (wVar 0)) (wCons (wIsP a e (fun c : Str => c == ("NoDeed" : Str) || ("NoDeed" : Str) == ("WishError" : Str)) (wVar 0)) (wCons (wIsP a e (fun c : Str => c == ("NoText" : Str) || ("NoText" : Str) == ("WishError" : Str)) (wVar 0)) (wNil)))))) (gNm 2)) (wRet (wOp dEq (wVar 2) (wComp false (iRange1 (wCons (wC (.int 6)) (wNil))) (.nm 3) wYes w_f_law_is_kind_1 [3])))))
noncomputable def S_f_law_is_kind (a : Addr) (e : Exc) : DL.Spec := pureS 2 (fun k : Nat => [rawD a, .int (k : Nat)]) (fun k => kindsX[k]? = some e.cls) (fun _ => .bl true)
theorem vc_f_law_is_kind : ∀ (a : Addr) (e : Exc) g sto, ((S_f_law_is_kind a e).args g).length = (S_f_law_is_kind a e).n → (S_f_law_is_kind a e).pre g sto → w_f_law_is_kind a e (bodyEnds ((S_f_law_is_kind a e).post g sto)) (startE ["_law_error", "_law_at", "_law_kinds", "_law_k"] ((S_f_law_is_kind a e).args g)) sto := by
  rintro a ⟨c, fs⟩ (k : Nat) sto _ (hk : kindsX[k]? = some c)
  have z3 : 3 ≤ sizeLine := by decide
  have z6 : 6 ≤ sizeLine := by decide
  have hc : c ∈ errNames := by
    have := List.mem_of_getElem? hk
    simp only [kindsX, List.mem_cons, List.not_mem_nil, or_false] at this
    rcases this with rfl | rfl | rfl | rfl | rfl | rfl <;> decide
  simp?! only [w_f_law_is_kind, S_f_law_is_kind, pureS, startE, wComp, wipeE]
  refine seq_go ?_
  simp?! only [wIsP]
  refine ⟨hc, ?_⟩
  rw [if_neg (by rw [show ((Str.ofString "WishError" : Str) == Str.ofString "WishError") = true from by decide, Bool.or_true]; decide)]
  refine ⟨hc, ?_⟩
  rw [if_neg (by decide)]
  refine seq_go ?_
  simp?! only [wIsP]
  refine ⟨hc, hc, hc, z3, ?_⟩
  refine seq_go ?_
  simp?! only [wIsP]
  refine ⟨hc, hc, hc, z3, ?_⟩
  refine ⟨z6, ⟨by decide, by decide⟩, by rw [rangeD_len]; exact z6, ?_⟩
  rw [rangeD_eq]
  refine compL_all D.int (fun x : Int => x == (k : Int)) D.bl trivial _ (fun x hx R hR => ?_) ?_
  · simp? only [Tg.dg, wYes, w_f_law_is_kind_1, v_eqi]
    exact hR
  · have hk6 : k < 6 := (List.getElem?_eq_some_iff.mp hk).1
    have hall : ((rangeI 0 (Int.toNat 6)).map fun x : Int => x == (k : Int)).map D.bl = [D.bl (c == ("TooMany" : Str) || ("TooMany" : Str) == ("WishError" : Str)), D.bl (c == ("NoPlan" : Str) || ("NoPlan" : Str) == ("WishError" : Str)), D.bl (c == ("NoRoom" : Str) || ("NoRoom" : Str) == ("WishError" : Str)), D.bl (c == ("NotEven" : Str) || ("NotEven" : Str) == ("WishError" : Str)), D.bl (c == ("NoDeed" : Str) || ("NoDeed" : Str) == ("WishError" : Str)), D.bl (c == ("NoText" : Str) || ("NoText" : Str) == ("WishError" : Str))] := by
      have e6 : rangeI 0 (Int.toNat 6) = [0, 1, 2, 3, 4, 5] := by decide
      rw [e6]
      match k, hk, hk6 with
      | 0, hk, _ => cases hk; rfl
      | 1, hk, _ => cases hk; rfl
      | 2, hk, _ => cases hk; rfl
      | 3, hk, _ => cases hk; rfl
      | 4, hk, _ => cases hk; rfl
      | 5, hk, _ => cases hk; rfl
    rw [hall]
    generalize (c == ("TooMany" : Str) || ("TooMany" : Str) == ("WishError" : Str)) = b1
    generalize (c == ("NoPlan" : Str) || ("NoPlan" : Str) == ("WishError" : Str)) = b2
    generalize (c == ("NoRoom" : Str) || ("NoRoom" : Str) == ("WishError" : Str)) = b3
    generalize (c == ("NotEven" : Str) || ("NotEven" : Str) == ("WishError" : Str)) = b4
    generalize (c == ("NoDeed" : Str) || ("NoDeed" : Str) == ("WishError" : Str)) = b5
    generalize (c == ("NoText" : Str) || ("NoText" : Str) == ("WishError" : Str)) = b6
    refine .inr ⟨rfl, rfl, ?_, rfl, ?_⟩
    · show min (D.lst [D.bl b1, D.bl b2, D.bl b3, D.bl b4, D.bl b5, D.bl b6]).dep _ ≤ 60
      simp [D.dep, D.depL, rd]
    · show D.bl ((D.lst [D.bl b1, D.bl b2, D.bl b3, D.bl b4, D.bl b5, D.bl b6]).eqv (D.lst [D.bl b1, D.bl b2, D.bl b3, D.bl b4, D.bl b5, D.bl b6])) = _
      cases b1 <;> cases b2 <;> cases b3 <;> cases b4 <;> cases b5 <;> cases b6 <;> rfl
def encR (r : List (Int × Int)) : D := .tup (r.map encP)
def encF (f : List (List (Int × Int))) : D := .tup (f.map encR)
def wkAt (s : Sy) (i : Nat) : Wk := (s.works[i]?).getD ⟨0, [], []⟩
structure FieldOk (s : Sy) (f : List (List (Int × Int))) : Prop where
  len : f.length ≤ s.works.length
  few : s.works.length ≤ 1000
  row : ∀ r ∈ f, r.length ≤ 10000
  hands : s.hands.length ≤ 1000
def Good (s : Sy) : Prop := s.Ok 900 100 100 900 100
theorem good_of {s : Sy} {a b c l e : Int} (o : s.Ok a b c l e) (ha : a ≤ 900) (hb : b ≤ 100) (hc : c ≤ 100) (hl : l ≤ 900) (he : e ≤ 100) : Good s :=
  ⟨by have := o.days; omega, by have := o.hands; omega, o.rows, by have := o.works; omega, fun i w h => by have := o.work i w h; exact ⟨by have := this.len; omega, this.ahead, this.able, this.any⟩, by have := o.wishes; omega, o.wish⟩
def wholeF (s : Sy) : List (List (Int × Int)) := s.works.map (waysF s)
def w_f_law_whole_1 : DE := wCall S_f_law_ways (wCons (wVar 0) (wCons (wVar 1) (wNil)))
def w_f_law_whole : DS := wRet (wCB bTuple (wCons (wComp false (iRange1 (wCons (wCB bLen (wCons (wOp dIx (wVar 0) (wC (.int 2))) (wNil))) (wNil))) (.nm 1) wYes w_f_law_whole_1 [1]) (wNil)))
def S_f_law_whole : DL.Spec := pureS 1 (fun s : Sy => [s.d]) Good (fun s => encF (wholeF s))
theorem idx_map {α β : Type} (f : α → β) (d : α) (xs : List α) : ((rangeI 0 xs.length).map fun i => f ((xs[i.toNat]?).getD d)) = xs.map f := by
  refine List.ext_getElem? fun i => ?_
  rw [List.getElem?_map, List.getElem?_map]
  unfold rangeI
  rw [List.getElem?_map]
  by_cases h : i < xs.length
  · rw [List.getElem?_range h]
    simp only [Option.map_some, Int.zero_add, Int.toNat_natCast, List.getElem?_eq_getElem h, Option.getD_some]
  · rw [List.getElem?_eq_none (by rw [List.length_range]; omega), List.getElem?_eq_none (by omega)]
    rfl
theorem vc_f_law_whole : ∀ g sto, (S_f_law_whole.args g).length = S_f_law_whole.n → S_f_law_whole.pre g sto → w_f_law_whole (bodyEnds (S_f_law_whole.post g sto)) (startE ["_law_system_here", "_law_work_here"] (S_f_law_whole.args g)) sto := by
  rintro (s : Sy) sto _ (hs : Good s)
  have hw := hs.works
  simp? only [w_f_law_whole, S_f_law_whole, pureS, wComp, wipeE]
  refine ⟨⟨by omega, by omega⟩, by rw [rangeD_len, sizeLine_eq]; omega, ?_⟩
  rw [rangeD_eq]
  refine compL_all D.int (fun i => waysF s ((s.works[i.toNat]?).getD ⟨0, [], []⟩)) encR trivial _ (fun i hi R hR => ?_) ?_
  · have hb := mem_rangeI.mp hi
    obtain ⟨j, rfl⟩ : ∃ j : Nat, i = j := ⟨i.toNat, by omega⟩
    obtain ⟨w, pw, ow⟩ := preWays_of hs (by omega) (by omega) (by omega) (i := j) (by omega)
    simp? only [Tg.dg, wYes, w_f_law_whole_1]
    refine lways_use pw ?_
    have e : s.works[j]? = some w := by
      have h := pw.1
      obtain ⟨v, h1, _⟩ := pick (xs := s.works) (i := (j : Int)) (by omega) (by omega)
      have h2 := atI_of (xs := s.works) (i := (j : Int)) (by omega) (by rw [Int.toNat_natCast]; exact List.getElem?_eq_getElem (show j < s.works.length by omega))
      rw [h] at h2
      cases h2
      exact List.getElem?_eq_getElem _
    rw [Int.toNat_natCast, e] at hR
    exact hR
  · rw [Int.toNat_natCast, idx_map]
    simp? only [true_and]
    rfl
abbrev S30 (s : Sy) : Prop := s.Ok 30 5 100 900 100
theorem s30_of {s : Sy} {a b c l e : Int} (o : s.Ok a b c l e) (ha : a ≤ 30) (hb : b ≤ 5) (hc : c ≤ 100) (hl : l ≤ 900) (he : e ≤ 100) : S30 s :=
  ⟨by have := o.days; omega, by have := o.hands; omega, o.rows, by have := o.works; omega, fun i w h => by have := o.work i w h; exact ⟨by have := this.len; omega, this.ahead, this.able, this.any⟩, by have := o.wishes; omega, o.wish⟩
structure SubF (f g : List (List (Int × Int))) : Prop where
  len : f.length = g.length
  sub : ∀ (i : Nat) r, f[i]? = some r → ∃ r', g[i]? = some r' ∧ r.Sublist r'
theorem SubF.refl (f : List (List (Int × Int))) : SubF f f := ⟨rfl, fun i r h => ⟨r, h, .refl _⟩⟩
theorem SubF.trans {f g h : List (List (Int × Int))} (a : SubF f g) (b : SubF g h) : SubF f h :=
  ⟨a.len.trans b.len, fun i r e => by obtain ⟨r1, e1, s1⟩ := a.sub i r e; obtain ⟨r2, e2, s2⟩ := b.sub i r1 e1; exact ⟨r2, e2, s1.trans s2⟩⟩
theorem SubF.nil : SubF [] [] := ⟨rfl, fun _ _ h => by simp at h⟩
theorem SubF.snoc {f g : List (List (Int × Int))} {r r' : List (Int × Int)} (a : SubF f g) (b : r.Sublist r') : SubF (f ++ [r]) (g ++ [r']) := by
  refine ⟨by rw [List.length_append, List.length_append, a.len]; rfl, fun i x h => ?_⟩
  by_cases hi : i < f.length
  · rw [List.getElem?_append_left hi] at h
    rw [List.getElem?_append_left (by rw [← a.len]; exact hi)]
    exact a.sub i x h
  · rw [List.getElem?_append_right (by omega)] at h
    rw [List.getElem?_append_right (by rw [← a.len]; omega), ← a.len]
    have e0 : i - f.length = 0 := by
      have := (List.getElem?_eq_some_iff.mp h).1
      rw [List.length_singleton] at this
      omega
    rw [e0] at h ⊢
    cases h
    exact ⟨r', rfl, b⟩
theorem take_snoc {α : Type} {xs : List α} {i : Nat} {x : α} (h : xs[i]? = some x) : xs.take (i + 1) = xs.take i ++ [x] := by
  rw [List.take_add_one, h]; rfl
/-- a field of ways of a system's works -/
def FieldOf (s : Sy) (f : List (List (Int × Int))) : Prop := SubF f (wholeF s)
theorem mem_field {s : Sy} {f : List (List (Int × Int))} (h : FieldOf s f) {i : Nat} {r : List (Int × Int)} (hr : f[i]? = some r) : ∃ w, s.works[i]? = some w ∧ r.Sublist (waysF s w) := by
  obtain ⟨r', h1, h2⟩ := h.sub i r hr
  unfold wholeF at h1
  rw [List.getElem?_map] at h1
  cases e : s.works[i]? with
  | none => rw [e] at h1; cases h1
  | some w => rw [e] at h1; cases h1; exact ⟨w, rfl, h2⟩
theorem fieldOk_of {s : Sy} (hs : s.Ok 30 5 100 900 100) {f : List (List (Int × Int))} (h : FieldOf s f) : FieldOk s f := by
  have e : (wholeF s).length = s.works.length := by unfold wholeF; rw [List.length_map]
  refine ⟨by rw [h.len, e]; exact Nat.le_refl _, by have := hs.works; omega, fun r hr => ?_, by have := hs.hands; omega⟩
  obtain ⟨i, hi, rfl⟩ := List.getElem_of_mem hr
  obtain ⟨w, hw, hsub⟩ := mem_field h (List.getElem?_eq_getElem hi)
  have ow := hs.work i w hw
  have hl := waysL_len s w
  have h2 := ow.able.len
  have h3 := ow.len
  have h4 := hs.days
  have h5 := hs.hands
  have hm : (s.days - w.len + 1).toNat * w.able.length ≤ 30 * 5 := Nat.mul_le_mul (by omega) (by omega)
  have := hsub.length_le
  omega
def fewR (f : List (List (Int × Int))) : Prop := f.length ≤ 100 ∧ ∀ r ∈ f, r.length ≤ 100000
theorem fewR_of {s : Sy} (hs : s.Ok 30 5 100 900 100) {f : List (List (Int × Int))} (h : FieldOf s f) : fewR f := by
  have hfo := fieldOk_of hs h
  exact ⟨by have := hfo.len; have := hs.works; omega, fun r hr => by have := hfo.row r hr; omega⟩
def behF (one : Int) (w1 w2 : Wk) (p q : Int × Int) : Bool := if w2.ahead.any (· == one) = true then decide (q.1 < p.1 + w1.len) else false
def S_p_is_behind : DL.Spec := ⟨5, Sy × Int × (Int × Int) × Int × (Int × Int) × Wk × Wk, fun (s, i, p, j, q, _) => [s.d, .int i, encP p, .int j, encP q], fun (s, i, _, j, _, w1, w2) _ => atI s.works i = some w1 ∧ atI s.works j = some w2, fun (_, i, p, _, q, w1, w2) st d st' => st' = st ∧ d = .bl (behF i w1 w2 p q)⟩
def w_p_is_behind : DS := wRet (wAndV (wOp dIn (wVar 1) (wOp dIx (wOp dIx (wOp dIx (wVar 0) (wC (.int 2))) (wVar 3)) (wC (.int 1)))) (wOp dLt (wOp dIx (wVar 4) (wC (.int 0))) (wCall S_p_end_of (wCons (wVar 0) (wCons (wVar 1) (wCons (wVar 2) (wNil)))))))
theorem vc_p_is_behind : ∀ g sto, (S_p_is_behind.args g).length = S_p_is_behind.n → S_p_is_behind.pre g sto → w_p_is_behind (bodyEnds (S_p_is_behind.post g sto)) (startE ["system", "one", "way", "other", "other_way"] (S_p_is_behind.args g)) sto := by
  rintro ⟨s, i, p, j, q, w1, w2⟩ sto _ ⟨h1, h2⟩
  simp? only [w_p_is_behind, S_p_is_behind, p_ix0]
  refine ⟨_, atI_map h2, ?_⟩
  (try simp? only [true_and])
  refine v_inI ?_
  simp? only [behF]
  by_cases ha : w2.ahead.any (· == i) = true
  · simp? only [ha, p_ix0]
    refine end_use h1 ?_
    simp? only [ha]
  · simp? only [ha]
theorem beh_use {s : Sy} {i j : Int} {p q : Int × Int} {w1 w2 : Wk} {st : Sto} {Q : DK} (h1 : atI s.works i = some w1) (h2 : atI s.works j = some w2) (k : Q (.bl (behF i w1 w2 p q)) st) :
    ∃ g, [s.d, .int i, encP p, .int j, encP q] = S_p_is_behind.args g ∧ (S_p_is_behind.args g).length = S_p_is_behind.n ∧ S_p_is_behind.pre g st ∧ ∀ d s2, S_p_is_behind.post g st d s2 → Q d s2 :=
  ⟨(s, i, p, j, q, w1, w2), rfl, rfl, ⟨h1, h2⟩, fun d s2 ⟨e1, e2⟩ => by subst e1; subst e2; exact k⟩
def clF (i j : Int) (w1 w2 : Wk) (p q : Int × Int) : Bool := (p.2 == q.2 && decide (p.1 < q.1 + w2.len) && decide (q.1 < p.1 + w1.len)) || behF i w1 w2 p q || behF j w2 w1 q p
def S_p_clash : DL.Spec := ⟨5, Sy × Int × (Int × Int) × Int × (Int × Int) × Wk × Wk, fun (s, i, p, j, q, _) => [s.d, .int i, encP p, .int j, encP q], fun (s, i, _, j, _, w1, w2) _ => atI s.works i = some w1 ∧ atI s.works j = some w2, fun (_, i, p, j, q, w1, w2) st d st' => st' = st ∧ d = .bl (clF i j w1 w2 p q)⟩
def w_p_clash : DS := wSeq (wIf (wAnd (wTest (wOp dEq (wOp dIx (wVar 2) (wC (.int 1))) (wOp dIx (wVar 4) (wC (.int 1))))) (wAnd (wTest (wOp dLt (wOp dIx (wVar 2) (wC (.int 0))) (wCall S_p_end_of (wCons (wVar 0) (wCons (wVar 3) (wCons (wVar 4) (wNil))))))) (wTest (wOp dLt (wOp dIx (wVar 4) (wC (.int 0))) (wCall S_p_end_of (wCons (wVar 0) (wCons (wVar 1) (wCons (wVar 2) (wNil))))))))) (wRet (wC (.bl true))) ((fun D env st => D.nx env st))) (wRet (wOrV (wCall S_p_is_behind (wCons (wVar 0) (wCons (wVar 1) (wCons (wVar 2) (wCons (wVar 3) (wCons (wVar 4) (wNil))))))) (wCall S_p_is_behind (wCons (wVar 0) (wCons (wVar 3) (wCons (wVar 4) (wCons (wVar 1) (wCons (wVar 2) (wNil)))))))))
theorem vc_p_clash : ∀ g sto, (S_p_clash.args g).length = S_p_clash.n → S_p_clash.pre g sto → w_p_clash (bodyEnds (S_p_clash.post g sto)) (startE ["system", "one", "way", "other", "other_way"] (S_p_clash.args g)) sto := by
  rintro ⟨s, i, p, j, q, w1, w2⟩ sto _ ⟨h1, h2⟩
  have tail : ∀ Q : DK, (¬(p.2 = q.2 ∧ p.1 < q.1 + w2.len ∧ q.1 < p.1 + w1.len)) → Q (.bl (clF i j w1 w2 p q)) sto → wOrV (wCall S_p_is_behind (wCons (wVar 0) (wCons (wVar 1) (wCons (wVar 2) (wCons (wVar 3) (wCons (wVar 4) (wNil))))))) (wCall S_p_is_behind (wCons (wVar 0) (wCons (wVar 3) (wCons (wVar 4) (wCons (wVar 1) (wCons (wVar 2) (wNil)))))))
      [some s.d, some (.int i), some (encP p), some (.int j), some (encP q)] sto Q := fun Q hn hQ => by
    have e : (p.2 == q.2 && decide (p.1 < q.1 + w2.len) && decide (q.1 < p.1 + w1.len)) = false := by
      rw [Bool.eq_false_iff]
      intro h
      simp only [Bool.and_eq_true, beq_iff_eq, decide_eq_true_eq] at h
      exact hn ⟨h.1.1, h.1.2, h.2⟩
    unfold clF at hQ
    rw [e, Bool.false_or] at hQ
    simp? only [true_and]
    refine beh_use h1 h2 ?_
    by_cases hb : behF i w1 w2 p q = true
    · rw [hb, Bool.true_or] at hQ
      simp? only [hb]
      exact hQ
    · rw [Bool.not_eq_true] at hb
      rw [hb, Bool.false_or] at hQ
      simp? only [hb]
      exact beh_use h2 h1 hQ
  have tl : (¬(p.2 = q.2 ∧ p.1 < q.1 + w2.len ∧ q.1 < p.1 + w1.len)) → _ := fun hn => tail (fun d s => s = sto ∧ d = .bl (clF i j w1 w2 p q)) hn ⟨rfl, rfl⟩
  simp? only [true_and] at tl
  simp? only [w_p_clash, S_p_clash, p_ix0, p_ix1]
  by_cases a1 : p.2 = q.2
  · simp? only [a1, beq_self_eq_true, p_ix0]
    refine end_use h2 ?_
    by_cases a2 : p.1 < q.1 + w2.len
    · simp? only [a2, decide_true, p_ix0]
      refine end_use h1 ?_
      by_cases a3 : q.1 < p.1 + w1.len
      · simp? only [a3, decide_true, p_ix0]
        unfold clF
        simp only [a1, a2, a3, beq_self_eq_true, decide_true, Bool.and_self, Bool.true_or]
      · simp? only [a3, decide_false]
        exact tl fun h => a3 h.2.2
    · simp? only [a2, decide_false]
      exact tl fun h => a2 h.2.1
  · have e : (p.2 == q.2) = false := by simpa using a1
    simp? only [e]
    exact tl fun h => a1 h.1
theorem clash_use {s : Sy} {i j : Int} {p q : Int × Int} {w1 w2 : Wk} {st : Sto} {Q : DK} (h1 : atI s.works i = some w1) (h2 : atI s.works j = some w2) (k : Q (.bl (clF i j w1 w2 p q)) st) :
    ∃ g, [s.d, .int i, encP p, .int j, encP q] = S_p_clash.args g ∧ (S_p_clash.args g).length = S_p_clash.n ∧ S_p_clash.pre g st ∧ ∀ d s2, S_p_clash.post g st d s2 → Q d s2 :=
  ⟨(s, i, p, j, q, w1, w2), rfl, rfl, ⟨h1, h2⟩, fun d s2 ⟨e1, e2⟩ => by subst e1; subst e2; exact k⟩
theorem cl_sym {i j : Int} {w1 w2 : Wk} {p q : Int × Int} : clF j i w2 w1 q p = clF i j w1 w2 p q := by
  unfold clF
  have e : (q.2 == p.2) = (p.2 == q.2) := Bool.beq_comm
  rw [e]
  cases (p.2 == q.2) <;> cases behF i w1 w2 p q <;> cases behF j w2 w1 q p <;> cases decide (q.1 < p.1 + w1.len) <;> cases decide (p.1 < q.1 + w2.len) <;> rfl
abbrev P2 := Int × Int
theorem cut_take {α : Type} (xs : List α) (i : Nat) : cutL xs none (some (i : Int)) = xs.take i := by
  unfold cutL
  rw [show HT.sIx xs.length 0 none = 0 from rfl, HT.sIx_nat, List.drop_zero, Nat.sub_zero]
  rcases Nat.le_total i xs.length with h | h
  · rw [Nat.min_eq_left h]
  · rw [Nat.min_eq_right h, List.take_of_length_le (by omega), List.take_of_length_le h]
theorem cut_drop {α : Type} (xs : List α) (i : Nat) : cutL xs (some (i : Int)) none = xs.drop i := by
  unfold cutL
  rw [show HT.sIx xs.length xs.length none = xs.length from rfl, HT.sIx_nat]
  rcases Nat.le_total i xs.length with h | h
  · rw [Nat.min_eq_left h, List.take_of_length_le (by rw [List.length_drop]; omega)]
  · rw [Nat.min_eq_right h, Nat.sub_self, List.take_zero, List.drop_of_length_le h]
def putL (ds : List D) (i : Nat) (x : D) : List D := ds.take i ++ x :: ds.drop (i + 1)
theorem putL_set {ds : List D} {i : Nat} {x : D} (h : i < ds.length) : putL ds i x = ds.set i x := by
  unfold putL
  rw [List.set_eq_take_append_cons_drop, if_pos h]
def S_f_law_put : DL.Spec := pureS 3 (fun (x : List D × Nat × D) => [.tup x.1, .int (x.2.1 : Nat), x.2.2]) (fun x => x.2.1 ≤ x.1.length ∧ x.1.length ≤ 1000000) (fun x => .tup (putL x.1 x.2.1 x.2.2))
theorem put_use {ds : List D} {i : Nat} {x : D} {st : Sto} {Q : DK} (h : i < ds.length ∧ ds.length ≤ 1000000) (q : Q (.tup (ds.set i x)) st) :
    ∃ g, [D.tup ds, .int (i : Nat), x] = S_f_law_put.args g ∧ (S_f_law_put.args g).length = S_f_law_put.n ∧ S_f_law_put.pre g st ∧ ∀ d s2, S_f_law_put.post g st d s2 → Q d s2 :=
  ⟨(ds, i, x), rfl, rfl, ⟨by show i ≤ ds.length; omega, h.2⟩, fun d s2 ⟨e, h2⟩ => by subst e; rw [h2]; show Q (.tup (putL ds i x)) _; rw [putL_set h.1]; exact q⟩
def w_f_law_put : DS := wRet (wOp dAdd (wOp dAdd (wSl false (wVar 0) oNo (oPart (wVar 1))) (wTup (wCons (wVar 2) (wNil)))) (wSl false (wVar 0) (oPart (wOp dAdd (wVar 1) (wC (.int 1)))) oNo))
theorem vc_f_law_put : ∀ g sto, (S_f_law_put.args g).length = S_f_law_put.n → S_f_law_put.pre g sto → w_f_law_put (bodyEnds (S_f_law_put.post g sto)) (startE ["_law_row", "_law_at", "_law_thing"] (S_f_law_put.args g)) sto := by
  rintro ⟨ds, i, x⟩ sto _ ⟨hi, hl⟩
  dsimp only at hi hl
  have z1 : 1 ≤ sizeLine := by decide
  have e1 : ((i : Int) + 1) = ((i + 1 : Nat) : Int) := by omega
  simp? only [w_f_law_put, S_f_law_put, pureS, v_slT, cut_take, e1, cut_drop]
  refine ⟨z1, ?_, ?_, ?_⟩
  · rw [List.length_take, sizeLine_eq]; omega
  · rw [List.length_append, List.length_take, List.length_drop, sizeLine_eq, List.length_singleton]; omega
  · unfold putL; rw [List.append_assoc]; rfl
def w_f_law_clash : DS := wSeq (wAsg (wOp dAdd (wOp dIx (wVar 2) (wC (.int 0))) (wOp dIx (wOp dIx (wOp dIx (wVar 0) (wC (.int 2))) (wVar 1)) (wC (.int 0)))) (gNm 5)) (wSeq (wAsg (wOp dAdd (wOp dIx (wVar 4) (wC (.int 0))) (wOp dIx (wOp dIx (wOp dIx (wVar 0) (wC (.int 2))) (wVar 3)) (wC (.int 0)))) (gNm 6)) (wSeq (wIf (wAnd (wTest (wOp dEq (wOp dIx (wVar 2) (wC (.int 1))) (wOp dIx (wVar 4) (wC (.int 1))))) (wAnd (wTest (wOp dLt (wOp dIx (wVar 2) (wC (.int 0))) (wVar 6))) (wTest (wOp dLt (wOp dIx (wVar 4) (wC (.int 0))) (wVar 5))))) (wRet (wC (.bl true))) ((fun D env st => D.nx env st))) (wSeq (wIf (wAnd (wTest (wOp dIn (wVar 1) (wOp dIx (wOp dIx (wOp dIx (wVar 0) (wC (.int 2))) (wVar 3)) (wC (.int 1))))) (wTest (wOp dLt (wOp dIx (wVar 4) (wC (.int 0))) (wVar 5)))) (wRet (wC (.bl true))) ((fun D env st => D.nx env st))) (wRet (wAndV (wOp dIn (wVar 3) (wOp dIx (wOp dIx (wOp dIx (wVar 0) (wC (.int 2))) (wVar 1)) (wC (.int 1)))) (wOp dLt (wOp dIx (wVar 2) (wC (.int 0))) (wVar 6)))))))
def S_f_law_clash : DL.Spec := pureS 5 (fun (x : Sy × Int × P2 × Int × P2 × Wk × Wk) => [x.1.d, .int x.2.1, encP x.2.2.1, .int x.2.2.2.1, encP x.2.2.2.2.1]) (fun x => atI x.1.works x.2.1 = some x.2.2.2.2.2.1 ∧ atI x.1.works x.2.2.2.1 = some x.2.2.2.2.2.2) (fun x => .bl (clF x.2.1 x.2.2.2.1 x.2.2.2.2.2.1 x.2.2.2.2.2.2 x.2.2.1 x.2.2.2.2.1))
theorem vc_f_law_clash : ∀ g sto, (S_f_law_clash.args g).length = S_f_law_clash.n → S_f_law_clash.pre g sto → w_f_law_clash (bodyEnds (S_f_law_clash.post g sto)) (startE ["_law_system_here", "_law_one", "_law_way", "_law_other", "_law_other_way", "_law_end", "_law_other_end"] (S_f_law_clash.args g)) sto := by
  rintro ⟨s, i, p, j, q, w1, w2⟩ sto _ ⟨h1, h2⟩
  dsimp only at h1 h2
  simp? only [w_f_law_clash, S_f_law_clash, pureS, p_ix0, p_ix1, atI_map h1, atI_map h2, v_inE]
  have e3 : clF i j w1 w2 p q = ((p.2 == q.2 && decide (p.1 < q.1 + w2.len) && decide (q.1 < p.1 + w1.len)) || (if w2.ahead.any (· == i) = true then decide (q.1 < p.1 + w1.len) else false) || if w1.ahead.any (· == j) = true then decide (p.1 < q.1 + w2.len) else false) := rfl
  rw [e3]
  have r0 : sto = sto := rfl
  generalize w2.ahead.any (· == i) = b1
  generalize w1.ahead.any (· == j) = b2
  by_cases a1 : p.2 = q.2 <;> by_cases a2 : p.1 < q.1 + w2.len <;> by_cases a3 : q.1 < p.1 + w1.len <;> cases b1 <;> cases b2 <;> simp [a1, a2, a3]
theorem wk_at {s : Sy} {i : Nat} (h : i < s.works.length) : atI s.works (i : Int) = some (wkAt s i) := by
  refine atI_of (by omega) ?_
  rw [Int.toNat_natCast]
  unfold wkAt
  rw [List.getElem?_eq_getElem h]
  rfl
theorem subF_set {f g : List (List P2)} {i : Nat} {r r' : List P2} (h : SubF f g) (hr : f[i]? = some r) (hs : r'.Sublist r) : SubF (f.set i r') g := by
  refine ⟨by rw [List.length_set]; exact h.len, fun k x hx => ?_⟩
  by_cases e : i = k
  · subst e
    rw [List.getElem?_set_self (List.getElem?_eq_some_iff.mp hr).1] at hx
    cases hx
    obtain ⟨r0, h1, h2⟩ := h.sub i r hr
    exact ⟨r0, h1, hs.trans h2⟩
  · rw [List.getElem?_set_ne e] at hx
    exact h.sub k x hx
theorem ways_flat (s : Sy) (w : Wk) : waysF s w = (rangeI 0 (s.days - w.len + 1).toNat).flatMap fun b => (w.able.filter fun h => freeF (rowOf s h) b (b + w.len)).map fun h => (b, h) := by
  have inner : ∀ (b : Int) (hs : List Int) (acc : List P2), hs.foldl (fun acc h => if freeF (rowOf s h) b (b + w.len) = true then acc ++ [(b, h)] else acc) acc = acc ++ (hs.filter fun h => freeF (rowOf s h) b (b + w.len)).map fun h => (b, h) := fun b hs => by
    induction hs with
    | nil => intro acc; simp
    | cons h r ih =>
      intro acc
      rw [List.foldl_cons, ih, List.filter_cons]
      cases freeF (rowOf s h) b (b + w.len) with
      | true => simp
      | false => simp
  have outer : ∀ (bs : List Int) (acc : List P2), bs.foldl (fun acc b => w.able.foldl (fun acc h => if freeF (rowOf s h) b (b + w.len) = true then acc ++ [(b, h)] else acc) acc) acc = acc ++ bs.flatMap fun b => (w.able.filter fun h => freeF (rowOf s h) b (b + w.len)).map fun h => (b, h) := fun bs => by
    induction bs with
    | nil => intro acc; simp
    | cons b r ih => intro acc; rw [List.foldl_cons, ih, inner, List.flatMap_cons, List.append_assoc]
  unfold waysF
  rw [outer, List.nil_append]
theorem mem_ways {s : Sy} {w : Wk} {p : P2} : p ∈ waysF s w ↔ (0 ≤ p.1 ∧ p.1 < (s.days - w.len + 1).toNat) ∧ p.2 ∈ w.able ∧ freeF (rowOf s p.2) p.1 (p.1 + w.len) = true := by
  rw [ways_flat]
  simp only [List.mem_flatMap, List.mem_map, List.mem_filter]
  constructor
  · rintro ⟨b, hb, h, ⟨h1, h2⟩, rfl⟩
    have := mem_rangeI.mp hb
    exact ⟨by dsimp only; omega, h1, h2⟩
  · rintro ⟨h1, h2, h3⟩
    exact ⟨p.1, mem_rangeI.mpr (by omega), p.2, ⟨h2, h3⟩, rfl⟩
theorem free_iff {row : List Int} {a b : Int} : freeF row a b = true ↔ ∀ d ∈ row, ¬(a ≤ d ∧ d < b) := by
  unfold freeF
  rw [Bool.not_eq_true', List.any_eq_false]
  constructor
  · intro h d hd ⟨h1, h2⟩
    refine h _ (List.mem_map_of_mem hd) ?_
    simp [h1, h2]
  · intro h x hx
    obtain ⟨d, hd, rfl⟩ := List.mem_map.mp hx
    have := h d hd
    by_cases h1 : a ≤ d
    · simp [h1]; omega
    · simp [h1]
theorem nodup_len {α : Type} [BEq α] [LawfulBEq α] : ∀ {l m : List α}, l.Nodup → (∀ x ∈ l, x ∈ m) → l.length ≤ m.length
  | [], _, _, _ => Nat.zero_le _
  | x :: r, m, hn, hs => by
    rw [List.nodup_cons] at hn
    have hx := hs x List.mem_cons_self
    have ih := nodup_len (m := m.erase x) hn.2 fun y hy => (List.mem_erase_of_ne (fun e => hn.1 (by rw [← e]; exact hy))).mpr (hs y (List.mem_cons_of_mem _ hy))
    rw [List.length_erase_of_mem hx] at ih
    have := List.length_pos_of_mem hx
    rw [List.length_cons]
    omega
def S_f_law_same : DL.Spec := ⟨2, D × D, fun (a, b) => [a, b], fun (a, b) st => (rd st a).Fit ∧ (rd st b).Fit, fun (a, b) st d st' => st' = st ∧ d = .bl ((rd st a).rep == (rd st b).rep)⟩
def w_f_law_same : DS := wRet (wOp dEq (wCB bRepr (wCons (wVar 0) (wNil))) (wCB bRepr (wCons (wVar 1) (wNil))))
theorem vc_f_law_same : ∀ g sto, (S_f_law_same.args g).length = S_f_law_same.n → S_f_law_same.pre g sto → w_f_law_same (bodyEnds (S_f_law_same.post g sto)) (startE ["_law_found", "_law_due"] (S_f_law_same.args g)) sto := by
  rintro ⟨a, b⟩ sto _ ⟨h1, h2⟩
  simp? only [w_f_law_same, S_f_law_same, v_repr]
  exact ⟨h1, h2, v_eqs ⟨rfl, rfl⟩⟩
theorem same_use {a b : D} {st : Sto} {Q : DK} (ha : (rd st a).Fit) (hb : (rd st b).Fit) (q : Q (.bl ((rd st a).rep == (rd st b).rep)) st) :
    ∃ g, [a, b] = S_f_law_same.args g ∧ (S_f_law_same.args g).length = S_f_law_same.n ∧ S_f_law_same.pre g st ∧ ∀ d s2, S_f_law_same.post g st d s2 → Q d s2 :=
  ⟨(a, b), rfl, rfl, ⟨ha, hb⟩, fun d s2 ⟨e1, e2⟩ => by subst e1; subst e2; exact q⟩
def okP (s : Sy) (w : Wk) (p : P2) : Bool := (if 0 ≤ p.1 then decide (p.1 ≤ s.days - w.len) else false) && (if 0 ≤ p.2 then decide (p.2 ≤ s.hands.length - 1) else false) && w.able.any (· == p.2) && freeF (rowOf s p.2) p.1 (p.1 + w.len)
noncomputable def tr (P : Prop) : Bool := @decide P (Classical.propDecidable P)
def encG (x : Nat × P2) : D := .tup [.int (x.1 : Nat), encP x.2]
structure IsPlan (s : Sy) (ps : List P2) : Prop where
  len : ps.length = s.works.length
  way : ∀ (i : Nat) p, ps[i]? = some p → okP s (wkAt s i) p = true
  ok : ∀ (j k : Nat) q p, j < k → ps[j]? = some q → ps[k]? = some p → clF j k (wkAt s j) (wkAt s k) q p = false
theorem okP_iff {s : Sy} {w : Wk} {p : P2} : okP s w p = true ↔ (0 ≤ p.1 ∧ p.1 ≤ s.days - w.len) ∧ (0 ≤ p.2 ∧ p.2 ≤ s.hands.length - 1) ∧ w.able.any (· == p.2) = true ∧ ∀ d ∈ rowOf s p.2, ¬(p.1 ≤ d ∧ d < p.1 + w.len) := by
  unfold okP
  rw [Bool.and_eq_true, Bool.and_eq_true, Bool.and_eq_true, free_iff]
  constructor
  · rintro ⟨⟨⟨h1, h2⟩, h3⟩, h4⟩
    refine ⟨?_, ?_, h3, h4⟩
    · by_cases h : 0 ≤ p.1
      · rw [if_pos h] at h1; exact ⟨h, of_decide_eq_true h1⟩
      · rw [if_neg h] at h1; cases h1
    · by_cases h : 0 ≤ p.2
      · rw [if_pos h] at h2; exact ⟨h, of_decide_eq_true h2⟩
      · rw [if_neg h] at h2; cases h2
  · rintro ⟨⟨h1, h2⟩, ⟨h3, h4⟩, h5, h6⟩
    refine ⟨⟨⟨?_, ?_⟩, h5⟩, h6⟩
    · rw [if_pos h1]; exact decide_eq_true h2
    · rw [if_pos h3]; exact decide_eq_true h4
theorem ways_okP {s : Sy} (hs : S30 s) {i : Nat} {w : Wk} (hw : s.works[i]? = some w) (p : P2) : (waysF s w).any (· == p) = okP s w p := by
  have ow := hs.work i w hw
  rw [Bool.eq_iff_iff, okP_iff, List.any_eq_true]
  constructor
  · rintro ⟨q, hq, e⟩
    have := beq_iff_eq.mp e
    subst this
    have hm := mem_ways.mp hq
    have ha := ow.able.2 _ hm.2.1
    exact ⟨by omega, by omega, List.any_eq_true.mpr ⟨_, hm.2.1, beq_self_eq_true _⟩, free_iff.mp hm.2.2⟩
  · rintro ⟨h1, h2, h3, h4⟩
    obtain ⟨x, hx, e⟩ := List.any_eq_true.mp h3
    have := beq_iff_eq.mp e
    subst this
    exact ⟨p, mem_ways.mpr ⟨by omega, hx, free_iff.mpr h4⟩, beq_self_eq_true _⟩
theorem wk_get {s : Sy} {i : Nat} (h : i < s.works.length) : s.works[i]? = some (wkAt s i) := by
  unfold wkAt; rw [List.getElem?_eq_getElem h]; rfl
theorem good30 {s : Sy} (hs : S30 s) : Good s := good_of hs (by omega) (by omega) (by omega) (by omega) (by omega)
theorem v_inRef {i : Int} {ns : List Int} {a : D} {f : Bool → Bool} {st : Sto} {Q : DK} (h : rd st a = .lst (ns.map .int)) : dInB f (.int i) a st Q = Q (.bl (f (ns.any (· == i)))) st := by
  apply propext
  constructor
  · rintro ⟨ds, h2, _, _, _, q⟩
    rcases h2 with h2 | h2
    · rw [h] at h2
      cases h2
      rw [← any_ints]
      exact q
    · rw [h] at h2; cases h2
  · intro q
    exact ⟨ns.map .int, .inl h, rfl, okL_ints ns, by rw [depL_ints]; exact Nat.zero_le _, by rw [← any_ints] at q; exact q⟩
def stF (s : Sy) (f : List Int) (i : Nat) : Bool := !(f.any (· == (i : Int))) && decide (((wkAt s i).ahead.filter fun j => f.any (· == j)).length = (wkAt s i).ahead.length)
theorem any_mem {f : List Int} {i : Int} : f.any (· == i) = true ↔ i ∈ f := by
  rw [List.any_eq_true]
  constructor
  · rintro ⟨x, hx, e⟩
    rw [beq_iff_eq] at e
    subst e
    exact hx
  · exact fun h => ⟨i, h, by simp⟩
theorem flt_all {α : Type} {P : α → Bool} {xs : List α} : (xs.filter P).length = xs.length ↔ ∀ x ∈ xs, P x = true := List.length_filter_eq_length_iff
theorem stF_iff {s : Sy} {f : List Int} {i : Nat} : stF s f i = true ↔ ((i : Int) ∉ f ∧ ∀ j ∈ (wkAt s i).ahead, j ∈ f) := by
  unfold stF
  rw [Bool.and_eq_true, decide_eq_true_iff, flt_all, Bool.not_eq_true', Bool.eq_false_iff, ne_eq, any_mem]
  refine and_congr Iff.rfl ⟨fun h j hj => any_mem.mp (h j hj), fun h j hj => any_mem.mpr (h j hj)⟩
def w_f_law_stands_1 : DT := wTest (wOp dIn (wVar 4) (wVar 1))
def w_f_law_stands : DS := wSeq (wAsg (wOp dIx (wOp dIx (wOp dIx (wVar 0) (wC (.int 2))) (wVar 2)) (wC (.int 1))) (gNm 3)) (wRet (wAndV (wOp dNotIn (wVar 2) (wVar 1)) (wOp dEq (wCB bLen (wCons (wComp false (iSeq (wVar 3)) (.nm 4) w_f_law_stands_1 (wVar 4) [4]) (wNil))) (wCB bLen (wCons (wVar 3) (wNil))))))
def S_f_law_stands : DL.Spec := ⟨3, Sy × Nat × List Int × Nat, fun x => [x.1.d, .ref x.2.1, .int (x.2.2.2 : Nat)], fun x st => st[x.2.1]? = some (.lst (x.2.2.1.map .int)) ∧ x.2.2.2 < x.1.works.length ∧ Good x.1, fun x st d st' => st' = st ∧ d = .bl (stF x.1 x.2.2.1 x.2.2.2)⟩
theorem vc_f_law_stands : ∀ g sto, (S_f_law_stands.args g).length = S_f_law_stands.n → S_f_law_stands.pre g sto → w_f_law_stands (bodyEnds (S_f_law_stands.post g sto)) (startE ["_law_system_here", "_law_found", "_law_work_here", "_law_ahead", "_law_one"] (S_f_law_stands.args g)) sto := by
  rintro ⟨s, n, f, i⟩ sto _ ⟨hf, hi, hs⟩
  dsimp only at hf hi hs
  have hr := rd_ref' hf
  have ow := hs.work i _ (wk_get hi)
  have hal := ow.ahead.len
  have hwn := hs.works
  simp? only [w_f_law_stands, S_f_law_stands, atI_map (wk_at hi), v_inRef hr]
  unfold stF
  cases hc : f.any (· == (i : Int)) with
  | true =>
    (try simp? only [true_and])
    rfl
  | false =>
    (try simp? only [true_and])
    refine ⟨by rw [sizeLine_eq]; omega, compL_flt D.int (fun j => f.any (· == j)) id D.int trivial _ (fun j hj R hR => ?_) ?_⟩
    · simp? only [Tg.dg, w_f_law_stands_1, v_inRef hr]
      exact hR
    · rw [List.map_id]
      (try simp? only [true_and])
      exact congrArg D.bl (by rw [Bool.eq_iff_iff, beq_iff_eq, Bool.true_and, decide_eq_true_iff]; omega)
/-- each behind those ahead of it, none twice -/
structure Ord (s : Sy) (f : List Int) : Prop where
  ix : ∀ (k : Nat) i, f[k]? = some i → (0 ≤ i ∧ i < s.works.length) ∧ stF s (f.take k) i.toNat = true
theorem Ord.nil {s : Sy} : Ord s [] := ⟨fun k i h => by simp at h⟩
theorem Ord.snoc {s : Sy} {f : List Int} {i : Int} (h : Ord s f) (h1 : 0 ≤ i ∧ i < s.works.length) (h2 : stF s f i.toNat = true) : Ord s (f ++ [i]) := ⟨fun k j hj => by
  by_cases hk : k < f.length
  · rw [List.getElem?_append_left hk] at hj
    rw [List.take_append_of_le_length (by omega)]
    exact h.ix k j hj
  · rw [List.getElem?_append_right (by omega)] at hj
    have e0 : k - f.length = 0 := by have := (List.getElem?_eq_some_iff.mp hj).1; rw [List.length_singleton] at this; omega
    rw [e0] at hj
    cases hj
    rw [show k = f.length by omega, List.take_left]
    exact ⟨h1, h2⟩⟩
theorem Ord.mem {s : Sy} {f : List Int} (h : Ord s f) {i : Int} (hi : i ∈ f) : 0 ≤ i ∧ i < s.works.length := by
  obtain ⟨k, hk, e⟩ := List.getElem_of_mem hi
  exact (h.ix k i (by rw [List.getElem?_eq_getElem hk, e])).1
theorem cover : ∀ (n : Nat) (f : List Int), (∀ i : Nat, i < n → (i : Int) ∈ f) → n ≤ f.length
  | 0, _, _ => Nat.zero_le _
  | n + 1, f, h => by
    have hn := h n (Nat.lt_succ_self n)
    have := cover n (f.erase n) fun i hi => (List.mem_erase_of_ne (by omega)).mpr (h i (by omega))
    rw [List.length_erase_of_mem hn] at this
    have := List.length_pos_of_mem hn
    omega
theorem least {n : Nat} {f : List Int} : ∀ i : Nat, i < n → (i : Int) ∉ f → ∃ j : Nat, j < n ∧ (j : Int) ∉ f ∧ ∀ k : Nat, k < j → (k : Int) ∈ f := fun i => by
  induction i using Nat.strongRecOn with
  | ind i ih =>
    intro hi hf
    by_cases h : ∀ k : Nat, k < i → (k : Int) ∈ f
    · exact ⟨i, hi, hf, h⟩
    · obtain ⟨k, hk⟩ := Classical.not_forall.mp h
      obtain ⟨hk1, hk2⟩ := Classical.not_imp.mp hk
      exact ih k hk1 (by omega) hk2
theorem free_one {s : Sy} {f : List Int} (hs : Good s) (hl : f.length < s.works.length) : ∃ j : Nat, j < s.works.length ∧ stF s f j = true := by
  have h1 : ∃ i : Nat, i < s.works.length ∧ (i : Int) ∉ f := Classical.byContradiction fun h => by
    have := cover s.works.length f fun i hi => Classical.byContradiction fun h2 => h ⟨i, hi, h2⟩
    omega
  obtain ⟨i, hi, hf⟩ := h1
  obtain ⟨j, hj, hn, hb⟩ := least i hi hf
  refine ⟨j, hj, stF_iff.mpr ⟨hn, fun x hx => ?_⟩⟩
  have := (hs.work j _ (wk_get hj)).ahead.2 x hx
  have := hb x.toNat (by omega)
  rwa [Int.toNat_of_nonneg (by omega)] at this
def w_f_law_order_1 : DT := wTest (wCall S_f_law_stands (wCons (wVar 1) (wCons (wVar 2) (wCons (wVar 5) (wNil)))))
def w_f_law_order_2 : DT := wTest (wOp dLt (wCB bLen (wCons (wVar 2) (wNil))) (wCB bLen (wCons (wOp dIx (wVar 1) (wC (.int 2))) (wNil))))
def w_f_law_order_3 : DS := wSeq (wAsg (wCall S_f_law_next (wCons (wVar 0) (wNil))) (gNm 3)) (wSeq (wAsg (wComp false (iRange1 (wCons (wCB bLen (wCons (wOp dIx (wVar 1) (wC (.int 2))) (wNil))) (wNil))) (.nm 5) w_f_law_order_1 (wVar 5) [5]) (gNm 4)) (wDrop (wM mAppend (wVar 2) (wCons (wOp dIx (wVar 4) (wOp dMod (wVar 3) (wCB bLen (wCons (wVar 4) (wNil))))) (wNil)))))
def w_f_law_order : DS := wSeq (wAsg (wLst true (wNil)) (gNm 2)) (wSeq (wWhile w_f_law_order_2 w_f_law_order_3) (wRet (wCB bTuple (wCons (wVar 2) (wNil)))))
def S_f_law_order : DL.Spec := deckS 2 1000 (fun s : Sy => [s.d]) Good fun s d => ∃ f, d = dInts f ∧ Ord s f ∧ f.length = s.works.length
theorem vc_f_law_order : ∀ g sto, (S_f_law_order.args g).length = S_f_law_order.n → S_f_law_order.pre g sto → w_f_law_order (bodyEnds (popEnds sto.length sto (S_f_law_order.post g sto))) (startE ["_law_deck_here", "_law_system_here", "_law_found", "_law_number", "_law_free", "_law_work_here"] (S_f_law_order.args g)) sto := by
  rintro ⟨rest, B, s⟩ sto _ ⟨hD0, hB, hs⟩
  dsimp only at hD0 hB hs
  have hwn := hs.works
  have hlen := hD0.len
  simp? only [w_f_law_order, S_f_law_order, deckS]
  refine ⟨Nat.zero_le _, ?_⟩
  refine ⟨fun m e st => ∃ f x3 x4, e = [some (.ref 2), some s.d, some (.ref (rest.length + 3)), x3, x4, none] ∧ Dk (B + f.length) (rest ++ [.lst (f.map .int)]) st ∧ Ord s f ∧ f.length ≤ s.works.length ∧ m = s.works.length - f.length, ?_, ?_⟩
  · exact ⟨_, [], _, _, by rw [hlen], by simpa using hD0.push, Ord.nil, Nat.zero_le _, rfl⟩
  · rintro m e st ⟨f, x3, x4, rfl, hD, hf, hfl, rfl⟩
    have ht := hD.top
    simp? only [w_f_law_order_2, w_f_law_order_3, wComp, wipeE, v_lenR (rd_ref' ht), List.length_map]
    by_cases hlt : (f.length : Int) < s.works.length
    · simp? only [hlt, decide_true]
      refine next_use hD (by omega) fun x st x0 x1 hD => ?_
      have ht := hD.top
      (try simp? only [true_and])
      refine ⟨⟨by omega, by omega⟩, by rw [rangeD_len, sizeLine_eq]; omega, ?_⟩
      rw [rangeD_eq]
      refine compL_flt D.int (fun i => stF s f i.toNat) id D.int trivial _ (fun i hi R hR => ?_) ?_
      · have hb := mem_rangeI.mp hi
        obtain ⟨j, rfl⟩ : ∃ j : Nat, i = j := ⟨i.toNat, by omega⟩
        simp? only [Tg.dg, w_f_law_order_1]
        refine ⟨(s, rest.length + 3, f, j), rfl, rfl, ⟨ht, by dsimp only; omega, hs⟩, ?_⟩
        rintro _ _ ⟨rfl, rfl⟩
        exact ⟨_, rfl, by simpa using hR⟩
      · rw [List.map_id]
        obtain ⟨j, hj, hst⟩ := free_one hs (show f.length < s.works.length by omega)
        have hne : 0 < ((rangeI 0 (s.works.length : Int).toNat).filter fun i => stF s f i.toNat).length :=
          List.length_pos_of_mem (List.mem_filter.mpr ⟨mem_rangeI.mpr (by omega : (0 : Int) ≤ (j : Int) ∧ (j : Int) < 0 + ((s.works.length : Int).toNat : Int)), by simpa using hst⟩)
        obtain ⟨i, hi1, hi2⟩ := pickI (ns := (rangeI 0 (s.works.length : Int).toNat).filter fun i => stF s f i.toNat) (i := x % _) (modb x (by omega)).1 (modb x (by omega)).2
        rw [List.mem_filter] at hi2
        have hb := mem_rangeI.mp hi2.1
        simp? only [rd_ref' ht, v_app ht, hi1, List.length_map]
        refine ⟨by omega, by rw [sizeLine_eq]; omega, ?_⟩
        refine ⟨_, ?_, f ++ [i], _, _, rfl, ?_, hf.snoc ⟨hb.1, by omega⟩ hi2.2, by rw [List.length_append]; simp; omega, rfl⟩
        · rw [List.length_append, List.length_singleton]; omega
        · have := hD.put (c' := .lst ((f ++ [i]).map .int))
          simp only [List.map_append, List.map_cons, List.map_nil] at this ⊢
          exact this.mono (by rw [List.length_append, List.length_singleton]; omega)
    · simp? only [hlt, decide_false, v_tupL (rd_ref' ht)]
      refine dk_pop hD0 (hD.mono (B' := B + 1000) (by omega)) ?_ fun st1 h1 => ⟨⟨f, rfl, hf, by omega⟩, h1⟩
      simp only [D.blw]
      exact blwL_ints _ _
theorem sorted_ext {α : Type} {lt : α → α → Prop} (asym : ∀ a b, lt a b → lt b a → False) : ∀ {l m : List α}, l.Pairwise lt → m.Pairwise lt → (∀ a, a ∈ l ↔ a ∈ m) → l = m
  | [], [], _, _, _ => rfl
  | [], b :: m, _, _, h => absurd ((h b).mpr List.mem_cons_self) List.not_mem_nil
  | a :: l, [], _, _, h => absurd ((h a).mp List.mem_cons_self) List.not_mem_nil
  | a :: l, b :: m, hl, hm, h => by
    rw [List.pairwise_cons] at hl hm
    have e : a = b := by
      rcases List.mem_cons.mp ((h a).mp List.mem_cons_self) with e | h1
      · exact e
      · rcases List.mem_cons.mp ((h b).mpr List.mem_cons_self) with e | h2
        · exact e.symm
        · exact (asym a b (hl.1 b h2) (hm.1 a h1)).elim
    subst e
    have ih := sorted_ext asym hl.2 hm.2 fun x => by
      have hx := h x
      constructor
      · intro hx1
        rcases List.mem_cons.mp (hx.mp (List.mem_cons_of_mem _ hx1)) with e | h2
        · subst e; exact (asym x x (hl.1 x hx1) (hl.1 x hx1)).elim
        · exact h2
      · intro hx1
        rcases List.mem_cons.mp (hx.mpr (List.mem_cons_of_mem _ hx1)) with e | h2
        · subst e; exact (asym x x (hm.1 x hx1) (hm.1 x hx1)).elim
        · exact h2
    rw [ih]
def encO : Option P2 → D
  | none => .non
  | some p => encP p
def ltP (p q : P2) : Bool := HT.lexLt [p.1, p.2] [q.1, q.2]
theorem ltP_iff {p q : P2} : ltP p q = true ↔ p.1 < q.1 ∨ (p.1 = q.1 ∧ p.2 < q.2) := by
  unfold ltP
  simp only [HT.lexLt]
  by_cases h1 : p.1 = q.1
  · by_cases h2 : p.2 = q.2
    · simp [h1, h2]
    · simp [h1, h2]
  · simp [h1]
def Inc (r : List P2) : Prop := r.Pairwise fun p q => ltP p q = true
theorem ways_inc (s : Sy) {w : Wk} {n : Int} (ha : Row n w.able) : Inc (waysF s w) := by
  rw [ways_flat]
  unfold Inc
  rw [List.pairwise_flatMap]
  refine ⟨fun b _ => ?_, ?_⟩
  · refine List.Pairwise.map _ (fun a c h => ?_) (ha.1.filter _)
    rw [ltP_iff]
    exact .inr ⟨rfl, h⟩
  · have hr : (rangeI 0 (s.days - w.len + 1).toNat).Pairwise (· < ·) := by
      unfold rangeI
      exact List.Pairwise.map _ (fun a b h => by omega) List.pairwise_lt_range
    refine hr.imp fun {a b} h x hx y hy => ?_
    obtain ⟨c, _, rfl⟩ := List.mem_map.mp hx
    obtain ⟨d, _, rfl⟩ := List.mem_map.mp hy
    rw [ltP_iff]
    exact .inl h
/-- pairs (work, way) sorted by the works -/
theorem sort_back {acc : List (Nat × P2)} {rs : List P2} {ps' : List (Int × D)} (hm : ∀ i q, (i, q) ∈ acc ↔ rs[i]? = some q) (hp : ps'.Perm (acc.map fun x => ((x.1 : Int), encP x.2))) (hs : (ps'.map (·.1)).Pairwise (· < ·)) :
    ps' = rs.zipIdx.map fun x => (((x.2 : Nat) : Int), encP x.1) := by
  refine sorted_ext (lt := fun a b : Int × D => a.1 < b.1) (fun a b h1 h2 => by omega) (List.pairwise_map.mp hs) ?_ fun x => ?_
  · rw [List.pairwise_map]
    have : (rs.zipIdx.map (·.2)).Pairwise (· < ·) := by rw [List.zipIdx_map_snd]; exact List.pairwise_lt_range' ..
    rw [List.pairwise_map] at this
    exact this.imp fun h => by show ((_ : Nat) : Int) < ((_ : Nat) : Int); omega
  · rw [hp.mem_iff, List.mem_map, List.mem_map]
    constructor
    · rintro ⟨⟨i, q⟩, hx, rfl⟩
      exact ⟨(q, i), List.mem_zipIdx_iff_getElem?.mpr ((hm i q).mp hx), rfl⟩
    · rintro ⟨⟨q, i⟩, hx, rfl⟩
      exact ⟨(i, q), (hm i q).mpr (List.mem_zipIdx_iff_getElem?.mp hx), rfl⟩
def goesV (s : Sy) (gv : List (Option P2)) (i : Nat) (p : P2) : Bool := gv.zipIdx.all fun x => match x.1 with
  | none => true
  | some q => !clF i x.2 (wkAt s i) (wkAt s x.2) p q
theorem goesV_iff {s : Sy} {gv : List (Option P2)} {i : Nat} {p : P2} : goesV s gv i p = true ↔ ∀ (j : Nat) q, gv[j]? = some (some q) → clF i j (wkAt s i) (wkAt s j) p q = false := by
  unfold goesV
  rw [List.all_eq_true]
  constructor
  · intro h j q hq
    have := h (some q, j) (List.mem_zipIdx_iff_getElem?.mpr hq)
    simpa using this
  · rintro h ⟨o, j⟩ hx
    have hj := List.mem_zipIdx_iff_getElem?.mp hx
    cases o with
    | none => rfl
    | some q => simp [h j q hj]
/-- pairs that tell what is given -/
def Tells (acc : List (Nat × P2)) (gv : List (Option P2)) : Prop := (acc.map (·.1)).Nodup ∧ ∀ (i : Nat) q, (i, q) ∈ acc ↔ gv[i]? = some (some q)
theorem fits_goes {s : Sy} {acc : List (Nat × P2)} {gv : List (Option P2)} (h : Tells acc gv) (i : Nat) (p : P2) : (!acc.any fun g => clF i g.1 (wkAt s i) (wkAt s g.1) p g.2) = goesV s gv i p := by
  rw [Bool.eq_iff_iff, goesV_iff, Bool.not_eq_true', List.any_eq_false]
  constructor
  · intro h1 j q hq
    have := h1 (j, q) ((h.2 j q).mpr hq)
    simpa using this
  · rintro h1 ⟨j, q⟩ hx
    have := h1 j q ((h.2 j q).mp hx)
    simpa using this
theorem Tells.snoc {acc : List (Nat × P2)} {gv : List (Option P2)} (h : Tells acc gv) {w : Nat} (hw : gv[w]? = some none) (q : P2) : Tells (acc ++ [(w, q)]) (gv.set w (some q)) := by
  have hwl := (List.getElem?_eq_some_iff.mp hw).1
  refine ⟨?_, fun i r => ?_⟩
  · rw [List.map_append, List.nodup_append]
    refine ⟨h.1, by simp, fun a ha b hb => ?_⟩
    simp only [List.map_cons, List.map_nil, List.mem_singleton] at hb
    subst hb
    rintro rfl
    obtain ⟨⟨j, r⟩, hj, e⟩ := List.mem_map.mp ha
    dsimp only at e
    subst e
    have := (h.2 _ r).mp hj
    rw [hw] at this
    cases this
  · rw [List.mem_append, List.mem_singleton, List.getElem?_set]
    by_cases hi : w = i
    · subst hi
      rw [if_pos rfl, if_pos hwl]
      constructor
      · rintro (h1 | h1)
        · have := (h.2 _ r).mp h1
          rw [hw] at this
          cases this
        · injection h1 with _ h1; rw [h1]
      · intro h1
        injection h1 with h1
        injection h1 with h1
        exact .inr (by rw [h1])
    · rw [if_neg hi, ← h.2 i r]
      constructor
      · rintro (h1 | h1)
        · exact h1
        · injection h1 with h1; exact absurd h1.symm hi
      · exact .inl
theorem Tells.nil (n : Nat) : Tells [] (List.replicate n none) := ⟨by simp, fun i q => ⟨fun h => absurd h List.not_mem_nil, fun h => by
  have := (List.getElem?_eq_some_iff.mp h).2
  rw [List.getElem_replicate] at this
  cases this⟩⟩
def begAt (ps : List P2) (i : Nat) : Int := ((ps[i]?).getD (0, 0)).1
def handP (ps : List P2) (i : Nat) : Int := ((ps[i]?).getD (0, 0)).2
def pulRow (s : Sy) (ps : List P2) (w : Nat) : List P2 := (waysF s (wkAt s w)).filter fun p => p.2 == handP ps w
def pulF (s : Sy) (ps : List P2) (gv : List (Option P2)) (w : Nat) : Option P2 := (pulRow s ps w).find? (goesV s gv w)
/-- what holds of the ways given by then -/
structure Pul (s : Sy) (ps : List P2) (gv : List (Option P2)) (l : List Nat) : Prop where
  len : gv.length = ps.length
  yes : ∀ i ∈ l, ∃ q p, gv[i]? = some (some q) ∧ ps[i]? = some p ∧ okP s (wkAt s i) q = true ∧ q.2 = p.2 ∧ q.1 ≤ p.1
  no : ∀ i, i < ps.length → i ∉ l → gv[i]? = some none
  ok : ∀ (i j : Nat) p q, i ≠ j → gv[i]? = some (some p) → gv[j]? = some (some q) → clF i j (wkAt s i) (wkAt s j) p q = false
theorem Pul.mem {s : Sy} {ps : List P2} {gv : List (Option P2)} {l : List Nat} (h : Pul s ps gv l) {i : Nat} {q : P2} (hq : gv[i]? = some (some q)) : i ∈ l := by
  by_cases hi : i ∈ l
  · exact hi
  · have := h.no i (by rw [← h.len]; exact (List.getElem?_eq_some_iff.mp hq).1) hi
    rw [hq] at this
    cases this
theorem cl_iff {i j : Int} {w1 w2 : Wk} {p q : P2} : clF i j w1 w2 p q = false ↔ ¬(p.2 = q.2 ∧ p.1 < q.1 + w2.len ∧ q.1 < p.1 + w1.len) ∧ ¬(w2.ahead.any (· == i) = true ∧ q.1 < p.1 + w1.len) ∧ ¬(w1.ahead.any (· == j) = true ∧ p.1 < q.1 + w2.len) := by
  unfold clF behF
  rw [Bool.or_eq_false_iff, Bool.or_eq_false_iff, and_assoc]
  refine and_congr ?_ (and_congr ?_ ?_)
  · rw [← Bool.not_eq_true, Bool.and_eq_true, Bool.and_eq_true, beq_iff_eq, decide_eq_true_iff, decide_eq_true_iff, and_assoc]
  · split
    · rename_i h; simp [h]
    · rename_i h; simp [h]
  · split
    · rename_i h; simp [h]
    · rename_i h; simp [h]
theorem find_before {α : Type} {R : α → α → Prop} {P : α → Bool} {x : α} : ∀ {l : List α}, l.Pairwise R → x ∈ l → P x = true → ∃ q, l.find? P = some q ∧ q ∈ l ∧ P q = true ∧ (q = x ∨ R q x)
  | [], _, h, _ => absurd h List.not_mem_nil
  | a :: l, hp, hx, hP => by
    rw [List.pairwise_cons] at hp
    rw [List.find?_cons]
    cases ha : P a with
    | true =>
      refine ⟨a, rfl, List.mem_cons_self, ha, ?_⟩
      rcases List.mem_cons.mp hx with e | h
      · exact .inl e.symm
      · exact .inr (hp.1 x h)
    | false =>
      rcases List.mem_cons.mp hx with e | h
      · subst e; rw [ha] at hP; cases hP
      · obtain ⟨q, h1, h2, h3, h4⟩ := find_before hp.2 h hP
        exact ⟨q, h1, List.mem_cons_of_mem _ h2, h3, h4⟩
theorem Pul.step {s : Sy} {ps : List P2} {gv : List (Option P2)} {l : List Nat} (hs : S30 s) (hpl : IsPlan s ps) (h : Pul s ps gv l) {w : Nat} (hw : w < ps.length) (hwl : w ∉ l) (hbe : ∀ i ∈ l, begAt ps i ≤ begAt ps w) :
    ∃ q, pulF s ps gv w = some q ∧ Pul s ps (gv.set w (some q)) (l ++ [w]) := by
  have hpw : ps[w]? = some ps[w] := List.getElem?_eq_getElem hw
  generalize ps[w] = pw at hpw
  have hbw : begAt ps w = pw.1 := by unfold begAt; rw [hpw]; rfl
  have hhw : handP ps w = pw.2 := by unfold handP; rw [hpw]; rfl
  have hok := hpl.way w pw hpw
  have hsw : s.works[w]? = some (wkAt s w) := wk_get (by rw [← hpl.len]; exact hw)
  have ow := hs.work w _ hsw
  have hin : ∀ p, p ∈ waysF s (wkAt s w) ↔ okP s (wkAt s w) p = true := fun p => by
    rw [← ways_okP hs hsw p, List.any_eq_true]
    exact ⟨fun h => ⟨p, h, beq_self_eq_true _⟩, fun ⟨x, h, e⟩ => by rw [beq_iff_eq] at e; subst e; exact h⟩
  have hmem : pw ∈ pulRow s ps w := List.mem_filter.mpr ⟨(hin pw).mpr hok, by rw [hhw]; exact beq_self_eq_true _⟩
  have hfit : goesV s gv w pw = true := by
    rw [goesV_iff]
    intro j q hq
    have hj := h.mem hq
    obtain ⟨q', pj, h1, h2, h3, h4, h5⟩ := h.yes j hj
    rw [hq] at h1
    cases h1
    have hne : w ≠ j := fun e => hwl (e ▸ hj)
    have hbj : pj.1 ≤ pw.1 := by
      have := hbe j hj
      have e : begAt ps j = pj.1 := by unfold begAt; rw [h2]; rfl
      omega
    have hcl : clF w j (wkAt s w) (wkAt s j) pw pj = false := by
      rcases Nat.lt_or_gt_of_ne hne with hlt | hlt
      · exact hpl.ok w j pw pj hlt hpw h2
      · rw [cl_sym]
        exact hpl.ok j w pj pw hlt h2 hpw
    rw [cl_iff] at hcl ⊢
    obtain ⟨c1, c2, c3⟩ := hcl
    have oj := hs.work j _ (wk_get (by rw [← hpl.len]; exact (List.getElem?_eq_some_iff.mp h2).1))
    have l1 := ow.len
    have l2 := oj.len
    refine ⟨fun ⟨e1, e2, e3⟩ => c1 ⟨by rw [e1, h4], by omega, by omega⟩, fun ⟨e1, e2⟩ => c2 ⟨e1, by omega⟩, fun ⟨e1, e2⟩ => c3 ⟨e1, by omega⟩⟩
  have hinc : (pulRow s ps w).Pairwise fun p q => ltP p q = true := List.Pairwise.filter _ (ways_inc s ow.able)
  obtain ⟨q, g1, g2, g3, g4⟩ := find_before hinc hmem hfit
  have hq2 := List.mem_filter.mp g2
  refine ⟨q, g1, ?_⟩
  have hq1 : q.1 ≤ pw.1 := by
    rcases g4 with e | g4
    · rw [e]; omega
    · have := ltP_iff.mp g4; omega
  have hgw := h.no w hw hwl
  have hgl := (List.getElem?_eq_some_iff.mp hgw).1
  refine ⟨by rw [List.length_set]; exact h.len, fun i hi => ?_, fun i hi hni => ?_, fun i j p r hij hp hr => ?_⟩
  · by_cases e : w = i
    · subst e
      exact ⟨q, pw, List.getElem?_set_self hgl, hpw, (hin q).mp hq2.1, by have := beq_iff_eq.mp hq2.2; rw [this, hhw], hq1⟩
    · rw [List.getElem?_set_ne e]
      rcases List.mem_append.mp hi with hi | hi
      · exact h.yes i hi
      · rw [List.mem_singleton] at hi; exact absurd hi.symm e
  · have e : w ≠ i := fun e => hni (by rw [← e]; simp)
    rw [List.getElem?_set_ne e]
    exact h.no i hi fun hm => hni (List.mem_append_left _ hm)
  · rw [goesV_iff] at g3
    by_cases e : w = i
    · subst e
      rw [List.getElem?_set_self hgl] at hp
      cases hp
      rw [List.getElem?_set_ne hij] at hr
      exact g3 j r hr
    · rw [List.getElem?_set_ne e] at hp
      by_cases e2 : w = j
      · subst e2
        rw [List.getElem?_set_self hgl] at hr
        cases hr
        rw [cl_sym]
        exact g3 i p hp
      · rw [List.getElem?_set_ne e2] at hr
        exact h.ok i j p r hij hp hr
theorem Pul.nil (s : Sy) (ps : List P2) : Pul s ps (List.replicate ps.length none) [] := ⟨List.length_replicate, fun i h => absurd h List.not_mem_nil, fun i hi _ => by rw [List.getElem?_replicate, if_pos hi], fun i j p q _ h => by
  have := (List.getElem?_eq_some_iff.mp h).2
  rw [List.getElem_replicate] at this
  cases this⟩
theorem all_some : ∀ gv : List (Option P2), (∀ o ∈ gv, ∃ q, o = some q) → ∃ rs : List P2, gv = rs.map some
  | [], _ => ⟨[], rfl⟩
  | o :: r, h => by
    obtain ⟨q, rfl⟩ := h o List.mem_cons_self
    obtain ⟨rs, e⟩ := all_some r fun o ho => h o (List.mem_cons_of_mem _ ho)
    exact ⟨q :: rs, by rw [e]; rfl⟩
theorem head_find {α : Type} (P : α → Bool) (l : List α) : (l.filter P)[0]? = l.find? P := by rw [← List.head?_eq_getElem?, List.head?_filter]
def w_p_goes_with_orders_1 : DS := wIf (wAnd (wTest (wOp (dIsN fun b => !b) (wVar 5) (wC .non))) (wTest (wCall S_p_clash (wCons (wVar 0) (wCons (wVar 2) (wCons (wVar 3) (wCons (wVar 4) (wCons (wVar 5) (wNil))))))))) (wRet (wC (.bl false))) ((fun D env st => D.nx env st))
def w_p_goes_with_orders : DS := wSeq (wFor (iEnum (wVar 1)) (gTp 2 (gCn (gNm 4) (gCn (gNm 5) gNl))) w_p_goes_with_orders_1) (wRet (wC (.bl true)))
def GvOk (s : Sy) (gv : List (Option P2)) : Prop := gv.length = s.works.length ∧ s.works.length ≤ 1000
def S_p_goes_with_orders : DL.Spec := ⟨4, Sy × Nat × List (Option P2) × Nat × P2, fun x => [x.1.d, .ref x.2.1, .int x.2.2.2.1, encP x.2.2.2.2], fun x st => st[x.2.1]? = some (.lst (x.2.2.1.map encO)) ∧ GvOk x.1 x.2.2.1 ∧ x.2.2.2.1 < x.1.works.length,
  fun x st d st' => st' = st ∧ d = .bl (goesV x.1 x.2.2.1 x.2.2.2.1 x.2.2.2.2)⟩
theorem vc_p_goes_with_orders : ∀ g sto, (S_p_goes_with_orders.args g).length = S_p_goes_with_orders.n → S_p_goes_with_orders.pre g sto → w_p_goes_with_orders (bodyEnds (S_p_goes_with_orders.post g sto)) (startE ["system", "given", "work", "way", "other", "other_way"] (S_p_goes_with_orders.args g)) sto := by
  rintro ⟨s, n, gv, i, p⟩ sto _ ⟨hg, ⟨hgl, hw⟩, hi⟩
  dsimp only at hg hgl hw hi
  simp? only [w_p_goes_with_orders, S_p_goes_with_orders, wFor]
  refine ⟨_, hg, ?_⟩
  dsimp only
  rw [enum_map]
  refine forL_inv (fun k e st => ∃ x4 x5, e = [some s.d, some (.ref n), some (.int (i : Nat)), some (encP p), x4, x5] ∧ st = sto ∧ ∀ (j : Nat) q, j < k → gv[j]? = some (some q) → clF i j (wkAt s i) (wkAt s j) p q = false) ?_ ?_ _ _ ⟨_, _, rfl, rfl, fun j q h => by omega⟩
  · rintro k e st d ⟨x4, x5, rfl, rfl, hk⟩ he R hR
    refine ⟨hg, ?_⟩
    rw [List.getElem?_map] at he
    cases hz : gv.zipIdx[k]? with
    | none => rw [hz] at he; cases he
    | some z =>
      rw [hz] at he
      cases he
      obtain ⟨o, j⟩ := z
      have hj : j = k ∧ gv[k]? = some o := by
        rw [List.getElem?_zipIdx] at hz
        cases ho : gv[k]? with
        | none => rw [ho] at hz; cases hz
        | some o' => rw [ho] at hz; cases hz; exact ⟨by omega, rfl⟩
      obtain ⟨rfl, ho⟩ := hj
      have hjl := (List.getElem?_eq_some_iff.mp ho).1
      cases o with
      | none =>
        simp? only [w_p_goes_with_orders_1, encO, dIsN, D.isNon]
        exact hR _ _ ⟨_, _, rfl, rfl, fun m q hm hq => by
          by_cases e : m = j
          · subst e; rw [ho] at hq; cases hq
          · exact hk m q (by omega) hq⟩
      | some q =>
        simp? only [w_p_goes_with_orders_1, encO, encP, dIsN, D.isNon]
        refine clash_use (wk_at (s := s) (i := i) hi) (wk_at (s := s) (i := j) (by omega)) ?_
        cases hc : clF i j (wkAt s i) (wkAt s j) p q with
        | true =>
          (try simp? only [true_and])
          refine congrArg D.bl (Eq.symm (Bool.eq_false_iff.mpr fun h => ?_))
          have := goesV_iff.mp h j q ho
          rw [hc] at this
          cases this
        | false =>
          (try simp? only [true_and])
          exact hR _ _ ⟨_, _, rfl, rfl, fun m r hm hr => by
            by_cases e : m = j
            · subst e; rw [ho] at hr; cases hr; exact hc
            · exact hk m r (by omega) hr⟩
  · rintro e st ⟨x4, x5, rfl, rfl, hk⟩
    rw [List.length_map, List.length_zipIdx] at hk
    refine ⟨hg, ?_⟩
    (try simp? only [true_and])
    refine congrArg D.bl (Eq.symm (goesV_iff.mpr fun j q hq => hk j q (List.getElem?_eq_some_iff.mp hq).1 hq))
def w_p_first_way_1 : DS := wIf (wTest (wCall S_p_goes_with_orders (wCons (wVar 0) (wCons (wVar 1) (wCons (wVar 2) (wCons (wVar 4) (wNil))))))) (wRet (wVar 4)) ((fun D env st => D.nx env st))
def w_p_first_way : DS := wSeq (wFor (iSeq (wVar 3)) (gNm 4) w_p_first_way_1) (wRet (wC .non))
def encLs (r : List P2) : D := .lst (r.map encP)
def rowB (b : Bool) (r : List P2) : D := if b = true then encR r else encLs r
theorem seq_rowB {b : Bool} {r : List P2} {st : Sto} {R : GK} : seqI (rowB b r) st R = R (r.map encP) (fun _ => True) st := by cases b <;> rfl
def S_p_first_way : DL.Spec := ⟨4, Sy × Nat × List (Option P2) × Nat × List P2 × Bool, fun x => [x.1.d, .ref x.2.1, .int x.2.2.2.1, rowB x.2.2.2.2.2 x.2.2.2.2.1], fun x st => st[x.2.1]? = some (.lst (x.2.2.1.map encO)) ∧ GvOk x.1 x.2.2.1 ∧ x.2.2.2.1 < x.1.works.length,
  fun x st d st' => st' = st ∧ d = encO (x.2.2.2.2.1.find? (goesV x.1 x.2.2.1 x.2.2.2.1))⟩
theorem vc_p_first_way : ∀ g sto, (S_p_first_way.args g).length = S_p_first_way.n → S_p_first_way.pre g sto → w_p_first_way (bodyEnds (S_p_first_way.post g sto)) (startE ["system", "given", "work", "row", "way"] (S_p_first_way.args g)) sto := by
  rintro ⟨s, n, gv, i, r, b⟩ sto _ ⟨hg, hgv, hi⟩
  dsimp only at hg hgv hi
  simp? only [w_p_first_way, S_p_first_way, wFor, seq_rowB]
  refine forL_inv (fun k e st => ∃ x4, e = [some s.d, some (.ref n), some (.int (i : Nat)), some (rowB b r), x4] ∧ st = sto ∧ r.find? (goesV s gv i) = (r.drop k).find? (goesV s gv i)) ?_ ?_ _ _ ⟨_, rfl, rfl, by rw [List.drop_zero]⟩
  · rintro k e st d ⟨x4, rfl, rfl, hk⟩ he R hR
    rw [List.getElem?_map] at he
    cases hp : r[k]? with
    | none => rw [hp] at he; cases he
    | some p =>
      rw [hp] at he
      cases he
      have h1 := (List.getElem?_eq_some_iff.mp hp).1
      have h2 := List.drop_eq_getElem_cons h1
      rw [(List.getElem?_eq_some_iff.mp hp).2] at h2
      rw [h2, List.find?_cons] at hk
      refine ⟨trivial, ?_⟩
      simp? only [w_p_first_way_1]
      refine ⟨(s, n, gv, i, p), rfl, rfl, ⟨hg, hgv, hi⟩, ?_⟩
      rintro _ _ ⟨rfl, rfl⟩
      dsimp only
      cases hc : goesV s gv i p with
      | true =>
        rw [hc] at hk
        (try simp? only [true_and])
        rw [hk]
        rfl
      | false =>
        rw [hc] at hk
        (try simp? only [true_and])
        exact hR _ _ ⟨_, rfl, rfl, hk⟩
  · rintro e st ⟨x4, rfl, rfl, hk⟩
    rw [List.length_map, List.drop_length] at hk
    refine ⟨trivial, ?_⟩
    (try simp? only [true_and])
    rw [hk]
    rfl
theorem blw_encOs (n : Nat) (os : List (Option P2)) : (D.tup (os.map encO)).blw n = true := by
  simp only [D.blw]
  induction os with
  | nil => rfl
  | cons o r ih =>
    rw [List.map_cons]
    cases o <;> simp only [D.blwL, encO, encP, D.blw, ih, Bool.and_self]
def rowFd (f : List (List P2)) (w : Nat) : List P2 := (f[w]?).getD []
def byR (s : Sy) (f : List (List P2)) : List Int → List (Option P2) → Sum Int (List (Option P2))
  | [], gv => .inr gv
  | i :: r, gv => match (rowFd f i.toNat).find? (goesV s gv i.toNat) with
    | none => .inl i
    | some q => byR s f r (gv.set i.toNat (some q))
def byF (s : Sy) (f : List (List P2)) (o : List Int) : Sum Int (List (Option P2)) := byR s f o (List.replicate o.length none)
structure OrdIn (s : Sy) (f : List (List P2)) (o : List Int) : Prop where
  sy : S30 s
  fl : f.length = s.works.length
  len : o.length = s.works.length
  mem : ∀ i ∈ o, 0 ≤ i ∧ i < s.works.length
theorem row_atFd {f : List (List P2)} {i : Int} (h : 0 ≤ i ∧ i < f.length) : atI (f.map encR) i = some (encR (rowFd f i.toNat)) := by
  have h2 : i.toNat < f.length := by omega
  refine atI_map (atI_of h.1 ?_)
  unfold rowFd
  rw [List.getElem?_eq_getElem h2]
  rfl
def X_p_by_order : SpecX := { n := 3, G := Sy × List (List P2) × List Int, args := fun x => [x.1.d, encF x.2.1, dInts x.2.2], pre := fun x _ => OrdIn x.1 x.2.1 x.2.2, post := fun x st d st' => st' = st ∧ ∃ gv, byF x.1 x.2.1 x.2.2 = .inr gv ∧ d = .tup (gv.map encO), rz := fun x st e st' => st' = st ∧ ∃ i, byF x.1 x.2.1 x.2.2 = .inl i ∧ e = ⟨"NoRoom", [("work", .int i)]⟩ }
def wx_p_by_order_1 : DX → DS := fun R => wSeq (wAsg (wCall S_p_first_way (wCons (wVar 0) (wCons (wVar 3) (wCons (wVar 4) (wCons (wOp dIx (wVar 1) (wVar 4)) (wNil)))))) (gNm 5)) (wSeq (wIf (wTest (wOp (dIsN fun b => b) (wVar 5) (wC .non))) (wRaiseF "NoRoom" "work" (wCons (wVar 4) (wNil)) R) ((fun D env st => D.nx env st))) (wAsg (wVar 5) (gSet (wVar 3) (wVar 4))))
def wx_p_by_order (R : DX) : DS := wSeq (wAsg (wOp dMulM (wLst false (wCons (wC .non) (wNil))) (wCB bLen (wCons (wVar 2) (wNil)))) (gNm 3)) (wSeq (wFor (iSeq (wVar 2)) (gNm 4) (wx_p_by_order_1 R)) (wRet (wCB bTuple (wCons (wVar 3) (wNil)))))
theorem vcx_p_by_order : ∀ g sto, (X_p_by_order.args g).length = X_p_by_order.n → X_p_by_order.pre g sto → wx_p_by_order (fun e _ s => popX sto.length sto (X_p_by_order.rz g sto) e s) (bodyEnds (popEnds sto.length sto (X_p_by_order.post g sto))) (startE ["system", "field", "order", "given", "work", "way"] (X_p_by_order.args g)) sto := by
  rintro ⟨s, f, o⟩ sto _ ⟨hs, hf, ho, hm⟩
  dsimp only at hs hf ho hm
  have z1 : 1 ≤ sizeLine := by decide
  have hw := hs.works
  simp? only [wx_p_by_order, X_p_by_order, dMulM, wFor, dInts, encF]
  refine ⟨z1, _, _, rfl, rfl, by omega, by omega, by rw [List.length_singleton, sizeLine_eq]; omega, ?_⟩
  rw [flat_one, Int.toNat_natCast]
  refine forL_inv (fun k e st => ∃ x4 x5 gv, e = [some s.d, some (.tup (f.map encR)), some (dInts o), some (.ref sto.length), x4, x5] ∧ st = sto ++ [.lst (gv.map encO)] ∧ gv.length = o.length ∧ byF s f o = byR s f (o.drop k) gv) ?_ ?_ _ _ ⟨_, _, List.replicate o.length none, rfl, by rw [List.map_replicate]; rfl, List.length_replicate, rfl⟩
  · rintro k e st d ⟨x4, x5, gv, rfl, rfl, hgl, hk⟩ he R hR
    rw [List.getElem?_map] at he
    cases hi : o[k]? with
    | none => rw [hi] at he; cases he
    | some i =>
      rw [hi] at he
      cases he
      have h1 := (List.getElem?_eq_some_iff.mp hi).1
      have h2 := List.drop_eq_getElem_cons h1
      rw [(List.getElem?_eq_some_iff.mp hi).2] at h2
      have hb := hm i (List.mem_of_getElem? hi)
      have hin : ((i.toNat : Nat) : Int) = i := by omega
      rw [h2] at hk
      have hk2 : byF s f o = match (rowFd f i.toNat).find? (goesV s gv i.toNat) with | none => .inl i | some q => byR s f (o.drop (k + 1)) (gv.set i.toNat (some q)) := hk
      refine ⟨trivial, ?_⟩
      simp?! only [wx_p_by_order_1]
      refine seq_go ?_
      simp?! only [row_atFd (f := f) (i := i) (by omega)]
      refine ⟨(s, sto.length, gv, i.toNat, rowFd f i.toNat, true), by show _ = [s.d, D.ref sto.length, .int ((i.toNat : Nat) : Int), rowB true (rowFd f i.toNat)]; rw [hin]; rfl, rfl, ⟨get_last _ _, ⟨by show gv.length = s.works.length; omega, by show s.works.length ≤ 1000; omega⟩, by show i.toNat < s.works.length; omega⟩, ?_⟩
      rintro _ _ ⟨rfl, rfl⟩
      dsimp only
      cases hq : (rowFd f i.toNat).find? (goesV s gv i.toNat) with
      | none =>
        rw [hq] at hk2
        refine seq_go ?_
        simp?! only [encO, dIsN, D.isNon, wRaiseF]
        exact ⟨_, rfl, sto, _, rfl, rfl, rfl, fun i c h => .inl h, rfl, i, hk2, rfl⟩
      | some q =>
        rw [hq] at hk2
        refine seq_go ?_
        simp?! only [encO, encP, dIsN, D.isNon, wRaiseF]
        refine ⟨_, rfl, _, rfl, sto.length, _, i, i.toNat, rfl, rfl, get_last _ _, ?_, ?_⟩
        · unfold ixN
          rw [if_pos (by omega), if_pos (by rw [List.length_map]; omega)]
        · rw [set_last]
          rw [show (gv.map encO).set i.toNat (.tup [.int q.1, .int q.2]) = (gv.set i.toNat (some q)).map encO by rw [List.map_set]; rfl]
          exact hR _ _ ⟨_, _, _, rfl, rfl, by rw [List.length_set]; exact hgl, hk2⟩
  · rintro e st ⟨x4, x5, gv, rfl, rfl, hgl, hk⟩
    rw [List.length_map, List.drop_length] at hk
    refine ⟨trivial, ?_⟩
    simp? only [v_tupL (rd_ref' (get_last _ _))]
    exact ⟨sto, _, rfl, rfl, blw_encOs _ gv, fun i c h => .inl h, rfl, gv, hk, rfl⟩
structure ByInv (s : Sy) (f : List (List P2)) (don : List Int) (gv : List (Option P2)) : Prop where
  len : gv.length = s.works.length
  dom : ∀ i : Nat, i < s.works.length → ((∃ q, gv[i]? = some (some q)) ↔ (i : Int) ∈ don)
  row : ∀ (i : Nat) q, gv[i]? = some (some q) → q ∈ rowFd f i
  cl : ∀ (i j : Nat) p q, i ≠ j → gv[i]? = some (some p) → gv[j]? = some (some q) → clF i j (wkAt s i) (wkAt s j) p q = false
theorem ByInv.nil {s : Sy} {f : List (List P2)} : ByInv s f [] (List.replicate s.works.length none) := by
  have no : ∀ (i : Nat) q, (List.replicate s.works.length (none : Option P2))[i]? ≠ some (some q) := fun i q h => by
    have := (List.getElem?_eq_some_iff.mp h).2
    rw [List.getElem_replicate] at this
    cases this
  exact ⟨List.length_replicate, fun i hi => ⟨fun ⟨q, h⟩ => absurd h (no i q), fun h => absurd h List.not_mem_nil⟩, fun i q h => absurd h (no i q), fun i j p q _ h => absurd h (no i p)⟩
theorem ByInv.none {s : Sy} {f : List (List P2)} {don : List Int} {gv : List (Option P2)} (h : ByInv s f don gv) {i : Int} (hi : 0 ≤ i ∧ i < s.works.length) (hn : i ∉ don) : gv[i.toNat]? = some none := by
  have hl := h.len
  have h1 : i.toNat < gv.length := by omega
  cases e : gv[i.toNat] with
  | none => rw [List.getElem?_eq_getElem h1, e]
  | some q =>
    have := (h.dom i.toNat (by omega)).mp ⟨q, by rw [List.getElem?_eq_getElem h1, e]⟩
    rw [show ((i.toNat : Nat) : Int) = i by omega] at this
    exact absurd this hn
theorem ByInv.step {s : Sy} {f : List (List P2)} {don : List Int} {gv : List (Option P2)} (h : ByInv s f don gv) {i : Int} (hi : 0 ≤ i ∧ i < s.works.length) {q : P2} (hq : (rowFd f i.toNat).find? (goesV s gv i.toNat) = some q) :
    ByInv s f (don ++ [i]) (gv.set i.toNat (some q)) := by
  have hl := h.len
  have h1 : i.toNat < gv.length := by omega
  have hq1 := List.mem_of_find?_eq_some hq
  have hq2 := goesV_iff.mp (List.find?_some hq)
  refine ⟨by rw [List.length_set]; exact hl, fun j hj => ?_, fun j x hx => ?_, fun j k p x hjk hp hx => ?_⟩
  · rw [List.mem_append, List.mem_singleton, ← h.dom j hj]
    by_cases e : i.toNat = j
    · subst e
      rw [List.getElem?_set_self h1]
      exact ⟨fun _ => .inr (by omega), fun _ => ⟨q, rfl⟩⟩
    · rw [List.getElem?_set_ne e]
      exact ⟨fun z => .inl z, fun z => z.elim id fun z => by omega⟩
  · by_cases e : i.toNat = j
    · subst e
      rw [List.getElem?_set_self h1] at hx
      cases hx
      exact hq1
    · rw [List.getElem?_set_ne e] at hx
      exact h.row j x hx
  · by_cases e : i.toNat = j
    · subst e
      rw [List.getElem?_set_self h1] at hp
      cases hp
      rw [List.getElem?_set_ne hjk] at hx
      exact hq2 k x hx
    · rw [List.getElem?_set_ne e] at hp
      by_cases e2 : i.toNat = k
      · subst e2
        rw [List.getElem?_set_self h1] at hx
        cases hx
        rw [cl_sym]
        exact hq2 j p hp
      · rw [List.getElem?_set_ne e2] at hx
        exact h.cl j k p x hjk hp hx
theorem byR_inv {s : Sy} {f : List (List P2)} : ∀ {r don : List Int} {gv gv' : List (Option P2)}, (∀ i ∈ r, 0 ≤ i ∧ i < s.works.length) → ByInv s f don gv → byR s f r gv = .inr gv' → ByInv s f (don ++ r) gv'
  | [], don, gv, gv', _, h, e => by
    cases e
    rw [List.append_nil]
    exact h
  | i :: r, don, gv, gv', hm, h, e => by
    unfold byR at e
    cases hq : (rowFd f i.toNat).find? (goesV s gv i.toNat) with
    | none => rw [hq] at e; cases e
    | some q =>
      rw [hq] at e
      have := byR_inv (fun j hj => hm j (List.mem_cons_of_mem _ hj)) (h.step (hm i List.mem_cons_self) hq) e
      rw [List.append_assoc] at this
      exact this
theorem Ord.nodup {s : Sy} {o : List Int} (h : Ord s o) : o.Nodup := by
  rw [List.nodup_iff_pairwise_ne, List.pairwise_iff_getElem]
  intro j k hj hk hjk e
  have h2 := (stF_iff.mp (h.ix k o[k] (List.getElem?_eq_getElem hk)).2).1
  have hb := (h.ix k o[k] (List.getElem?_eq_getElem hk)).1
  rw [show ((o[k].toNat : Nat) : Int) = o[k] by omega] at h2
  refine h2 (List.mem_of_getElem? (i := j) ?_)
  rw [List.getElem?_take, if_pos hjk, List.getElem?_eq_getElem hj, e]
theorem all_in {n : Nat} {o : List Int} (hn : o.Nodup) (hl : o.length = n) (hm : ∀ i ∈ o, 0 ≤ i ∧ i < n) (j : Nat) (hj : j < n) : (j : Int) ∈ o := by
  refine Classical.byContradiction fun h => ?_
  have h2 := nodup_len (l := ((j : Int) :: o)) (m := (List.range n).map fun k : Nat => (k : Int)) (List.nodup_cons.mpr ⟨h, hn⟩) fun x hx => by
    rw [List.mem_map]
    rcases List.mem_cons.mp hx with rfl | hx
    · exact ⟨j, List.mem_range.mpr hj, rfl⟩
    · have := hm x hx
      exact ⟨x.toNat, List.mem_range.mpr (by omega), by omega⟩
  rw [List.length_cons, List.length_map, List.length_range] at h2
  omega
theorem by_plan {s : Sy} {f : List (List P2)} {o : List Int} {gv : List (Option P2)} (hs : S30 s) (hf : FieldOf s f) (ho : Ord s o) (hl : o.length = s.works.length) (e : byF s f o = .inr gv) :
    ∃ rs : List P2, gv = rs.map some ∧ IsPlan s rs ∧ ∀ (i : Nat) q, rs[i]? = some q → q ∈ rowFd f i := by
  unfold byF at e
  rw [hl] at e
  have h := byR_inv (fun i hi => ho.mem hi) ByInv.nil e
  rw [List.nil_append] at h
  have hgl := h.len
  obtain ⟨rs, rfl⟩ := all_some gv fun x hx => by
    obtain ⟨i, hi, rfl⟩ := List.getElem_of_mem hx
    obtain ⟨q, hq⟩ := (h.dom i (by omega)).mpr (all_in ho.nodup hl (fun i hi => ho.mem hi) i (by omega))
    exact ⟨q, by rw [List.getElem?_eq_getElem hi] at hq; exact Option.some.inj hq⟩
  rw [List.length_map] at hgl
  have hat : ∀ (i : Nat) q, rs[i]? = some q ↔ (rs.map some)[i]? = some (some q) := fun i q => by
    rw [List.getElem?_map]
    cases rs[i]? <;> simp
  refine ⟨rs, rfl, ⟨hgl, fun i p hp => ?_, fun j k q p hjk hq hp => h.cl j k q p (by omega) ((hat j q).mp hq) ((hat k p).mp hp)⟩, fun i q hq => h.row i q ((hat i q).mp hq)⟩
  have h2 := h.row i p ((hat i p).mp hp)
  have hwl : (wholeF s).length = s.works.length := by unfold wholeF; rw [List.length_map]
  have hfl : f.length = s.works.length := hf.len.trans hwl
  have hi := (List.getElem?_eq_some_iff.mp hp).1
  have hfi : f[i]? = some f[i] := List.getElem?_eq_getElem (by omega)
  unfold rowFd at h2
  rw [hfi] at h2
  obtain ⟨w, h3, h4⟩ := mem_field hf hfi
  have h5 : wkAt s i = w := by unfold wkAt; rw [h3]; rfl
  rw [h5, ← ways_okP hs h3 p, List.any_eq_true]
  exact ⟨p, h4.subset h2, beq_self_eq_true _⟩
def w_f_law_fits_1 : DT := wTest (wCall S_f_law_clash (wCons (wVar 0) (wCons (wVar 2) (wCons (wVar 3) (wCons (wVar 4) (wCons (wVar 5) (wNil)))))))
def w_f_law_fits : DS := wRet (wOp dEq (wComp false (iSeq (wVar 1)) (.tp [4, 5]) w_f_law_fits_1 (wC (.int 1)) [4, 5]) (wLst false (wNil)))
structure AccOk (s : Sy) (acc : List (Nat × P2)) : Prop where
  len : acc.length ≤ 1000
  lt : ∀ g ∈ acc, g.1 < s.works.length
def S_f_law_fits : DL.Spec := ⟨4, Sy × Nat × List (Nat × P2) × Nat × P2, fun x => [x.1.d, .ref x.2.1, .int x.2.2.2.1, encP x.2.2.2.2], fun x st => st[x.2.1]? = some (.lst (x.2.2.1.map encG)) ∧ AccOk x.1 x.2.2.1 ∧ x.2.2.2.1 < x.1.works.length,
  fun x st d st' => st' = st ∧ d = .bl (!x.2.2.1.any fun g => clF x.2.2.2.1 g.1 (wkAt x.1 x.2.2.2.1) (wkAt x.1 g.1) x.2.2.2.2 g.2)⟩
theorem vc_f_law_fits : ∀ g sto, (S_f_law_fits.args g).length = S_f_law_fits.n → S_f_law_fits.pre g sto → w_f_law_fits (bodyEnds (S_f_law_fits.post g sto)) (startE ["_law_system_here", "_law_given", "_law_work_here", "_law_way", "_law_other", "_law_other_way"] (S_f_law_fits.args g)) sto := by
  rintro ⟨s, n, acc, w, p⟩ sto _ ⟨hg, hok, hw⟩
  dsimp only at hg hok hw
  have hl := hok.len
  simp? only [w_f_law_fits, S_f_law_fits, wComp, wipeE]
  refine ⟨_, hg, by rw [List.length_map, sizeLine_eq]; omega, ?_⟩
  refine compL_flt encG (fun g => clF w g.1 (wkAt s w) (wkAt s g.1) p g.2) (fun _ => (1 : Int)) D.int hg _ (fun g hgm R hR => ?_) ?_
  · show (Tg.tp [4, 5]).dg (.tup [.int (g.1 : Nat), encP g.2]) _ _ _
    simp? only [Tg.dg, List.foldr_cons, List.foldr_nil, w_f_law_fits_1]
    refine use_pure (s, (w : Int), p, (g.1 : Int), g.2, wkAt s w, wkAt s g.1) rfl rfl ⟨wk_at hw, wk_at (hok.lt g hgm)⟩ ?_
    (try simp? only [true_and])
    exact hR
  · simp? only [isE_map, isE_filter]
    exact ⟨Nat.zero_le _, okL_ints _⟩
theorem dKey_G (acc : List (Nat × P2)) : acc.map encG = (acc.map fun x => ((x.1 : Int), encP x.2)).map dKey := by
  rw [List.map_map]
  rfl
theorem keys_nodup {acc : List (Nat × P2)} (h : (acc.map (·.1)).Nodup) : ((acc.map fun x => ((x.1 : Int), encP x.2)).map (·.1)).Nodup := by
  rw [List.map_map]
  rw [List.nodup_iff_pairwise_ne, List.pairwise_map] at h ⊢
  exact h.imp fun h e => h (by dsimp only [Function.comp] at e; omega)
def toldF (x : Sum Int (List (Option P2))) : D := match x with
  | .inl i => .tup [.non, .int i]
  | .inr gv => .tup [.tup (gv.map encO), .non]
def w_f_law_by_1 : DT := wTest (wCall S_f_law_fits (wCons (wVar 0) (wCons (wVar 3) (wCons (wVar 4) (wCons (wVar 6) (wNil))))))
def w_f_law_by_2 : DS := wSeq (wAsg (wComp false (iSeq (wOp dIx (wVar 1) (wVar 4))) (.nm 6) w_f_law_by_1 (wVar 6) [6]) (gNm 5)) (wSeq (wIf (wTest (wOp dEq (wVar 5) (wLst false (wNil)))) (wRet (wTup (wCons (wC .non) (wCons (wVar 4) (wNil))))) ((fun D env st => D.nx env st))) (wDrop (wM mAppend (wVar 3) (wCons (wTup (wCons (wVar 4) (wCons (wOp dIx (wVar 5) (wC (.int 0))) (wNil)))) (wNil)))))
def w_f_law_by : DS := wSeq (wAsg (wLst true (wNil)) (gNm 3)) (wSeq (wFor (iSeq (wVar 2)) (gNm 4) w_f_law_by_2) (wRet (wTup (wCons (wCB bTuple (wCons (wComp false (iSeq (wCB (bSortK false) (wCons (wVar 3) (wNil)))) (.tp [4, 6]) wYes (wVar 6) [4, 6]) (wNil))) (wCons (wC .non) (wNil))))))
def S_f_law_by : DL.Spec := pureS 3 (fun x : Sy × List (List P2) × List Int => [x.1.d, encF x.2.1, dInts x.2.2]) (fun x => S30 x.1 ∧ FieldOf x.1 x.2.1 ∧ Ord x.1 x.2.2 ∧ x.2.2.length = x.1.works.length) (fun x => toldF (byF x.1 x.2.1 x.2.2))
theorem vc_f_law_by : ∀ g sto, (S_f_law_by.args g).length = S_f_law_by.n → S_f_law_by.pre g sto → w_f_law_by (bodyEnds (popEnds sto.length sto (S_f_law_by.post g sto))) (startE ["_law_system_here", "_law_field", "_law_order_here", "_law_given", "_law_work_here", "_law_some_here", "_law_way"] (S_f_law_by.args g)) sto := by
  rintro ⟨s, f, ord⟩ sto _ ⟨hs, hf, hord, hol⟩
  dsimp only at hs hf hord hol
  have z2 : 2 ≤ sizeLine := by decide
  have hw := hs.works
  have hwl : (wholeF s).length = s.works.length := by unfold wholeF; rw [List.length_map]
  have hfl : f.length = s.works.length := hf.len.trans hwl
  simp? only [w_f_law_by, S_f_law_by, pureS, wFor, wComp, wipeE, dInts]
  refine ⟨Nat.zero_le _, ?_⟩
  refine forL_inv (fun k e st => ∃ x4 x5 acc gv, e = [some s.d, some (encF f), some (dInts ord), some (.ref sto.length), x4, x5, none] ∧ st = sto ++ [.lst (acc.map encG)] ∧ Tells acc gv ∧ ByInv s f (ord.take k) gv ∧ acc.length ≤ k ∧ byF s f ord = byR s f (ord.drop k) gv) ?_ ?_ _ _
    ⟨_, _, [], List.replicate s.works.length none, rfl, rfl, Tells.nil _, ByInv.nil, Nat.le_refl _, by unfold byF; rw [hol]; rfl⟩
  · rintro k e st d ⟨x4, x5, acc, gv, rfl, rfl, ht, hby, hal, hk⟩ he R hR
    rw [List.getElem?_map] at he
    cases ho : ord[k]? with
    | none => rw [ho] at he; cases he
    | some wi =>
      rw [ho] at he
      cases he
      have hb := hord.mem (List.mem_of_getElem? ho)
      have hko := (List.getElem?_eq_some_iff.mp ho).1
      have h2 := List.drop_eq_getElem_cons hko
      rw [(List.getElem?_eq_some_iff.mp ho).2] at h2
      rw [h2] at hk
      have hk2 : byF s f ord = match (rowFd f wi.toNat).find? (goesV s gv wi.toNat) with | none => .inl wi | some q => byR s f (ord.drop (k + 1)) (gv.set wi.toNat (some q)) := hk
      have hin : ((wi.toNat : Nat) : Int) = wi := by omega
      have hst := (hord.ix k wi ho).2
      have hwn := (stF_iff.mp hst).1
      rw [hin] at hwn
      have hgw := hby.none hb hwn
      have hgl := hby.len
      have haok : AccOk s acc := ⟨by omega, fun g hg => by
        have h1 := (ht.2 g.1 g.2).mp hg
        have := (List.getElem?_eq_some_iff.mp h1).1
        omega⟩
      have hfw : f[wi.toNat]? = some (rowFd f wi.toNat) := by unfold rowFd; rw [List.getElem?_eq_getElem (by omega)]; rfl
      have hrl := (fewR_of hs hf).2 _ (List.mem_of_getElem? hfw)
      have hfa : atI (f.map encR) wi = some (encR (rowFd f wi.toNat)) := row_atFd (by omega)
      have hst2 := fun q (h : (rowFd f wi.toNat).find? (goesV s gv wi.toNat) = some q) => hby.step hb h
      generalize rowFd f wi.toNat = r at *
      refine ⟨trivial, ?_⟩
      simp? only [w_f_law_by_2, wComp, wipeE, encF, hfa, encR]
      refine ⟨by rw [sizeLine_eq]; omega, ?_⟩
      refine compL_flt encP (goesV s gv wi.toNat) id encP trivial _ (fun p hp R2 hR2 => ?_) ?_
      · simp? only [Tg.dg, w_f_law_by_1]
        refine ⟨(s, sto.length, acc, wi.toNat, p), by show _ = [s.d, D.ref sto.length, .int ((wi.toNat : Nat) : Int), encP p]; rw [hin], rfl, ⟨get_last _ _, haok, by show wi.toNat < s.works.length; omega⟩, ?_⟩
        rintro _ _ ⟨rfl, rfl⟩
        dsimp only
        rw [fits_goes ht]
        (try simp? only [true_and])
        exact hR2
      · rw [List.map_id]
        simp? only [isE_map]
        refine ⟨Nat.zero_le _, okL_encP _, ?_⟩
        rw [← head_find] at hk2
        cases hem : r.filter (goesV s gv wi.toNat) with
        | nil =>
          rw [hem] at hk2
          rw [show ([] : List P2).isEmpty = true from rfl]
          (try simp? only [true_and])
          refine ⟨z2, sto, _, rfl, rfl, rfl, fun i c h => .inl h, rfl, ?_⟩
          rw [hk2]
          rfl
        | cons q l =>
          rw [hem] at hk2
          rw [show (q :: l).isEmpty = false from rfl]
          have hat0 : atI ((q :: l).map encP) 0 = some (encP q) := atI_map (atI_of (by omega) rfl)
          simp? only [hat0, rd_ref' (get_last sto (Cel.lst (acc.map encG))), v_app (get_last sto (Cel.lst (acc.map encG)))]
          have hfq : r.find? (goesV s gv wi.toNat) = some q := by rw [← head_find, hem]; rfl
          refine ⟨z2, by rw [sizeLine_eq]; omega, ?_⟩
          rw [set_last]
          have hta : ord.take (k + 1) = ord.take k ++ [wi] := take_snoc ho
          have hk2 : byF s f ord = byR s f (ord.drop (k + 1)) (gv.set wi.toNat (some q)) := hk2
          refine hR _ _ ⟨_, _, acc ++ [(wi.toNat, q)], gv.set wi.toNat (some q), rfl, by rw [List.map_append]; simp only [List.map_cons, List.map_nil, encG, hin], ht.snoc hgw q, by rw [hta]; exact hst2 q hfq, by rw [List.length_append, List.length_singleton]; omega, hk2⟩
  · rintro e st ⟨x4, x5, acc, gv, rfl, rfl, ht, hby, hal, hk⟩
    rw [List.length_map] at hk hal
    rw [List.drop_length] at hk
    have hk : byF s f ord = .inr gv := hk
    obtain ⟨rs, rfl, hplan, _⟩ := by_plan hs hf hord hol hk
    refine ⟨trivial, ?_⟩
    have hat : ∀ (i : Nat) q, rs[i]? = some q ↔ (rs.map some)[i]? = some (some q) := fun i q => by
      rw [List.getElem?_map]
      cases rs[i]? <;> simp
    have hrl := hplan.len
    rw [hk]
    simp? only [true_and]
    refine .inr ⟨_, rfl, acc.map (fun x => ((x.1 : Int), encP x.2)), by rw [rd_ref' (get_last _ _), dKey_G], keys_nodup ht.1, fun ps' hp hsrt => ?_⟩
    have hps := sort_back (rs := rs) (fun i q => by rw [ht.2 i q, hat i q]) hp hsrt
    rw [hps, List.map_map]
    simp? only [newL, seqI_lst]
    refine ⟨by rw [List.length_zipIdx, sizeLine_eq]; omega, ?_⟩
    refine compL_all (fun x : P2 × Nat => dKey (((x.2 : Nat) : Int), encP x.1)) (fun x => x.1) encP trivial _ (fun x hx R2 hR2 => ?_) ?_
    · simp? only [Tg.dg, wYes, dKey, List.foldr_cons, List.foldr_nil]
      exact hR2
    · rw [List.zipIdx_map_fst]
      (try simp? only [true_and])
      exact ⟨z2, sto, _, rfl, rfl, by simp only [D.blw, D.blwL, Bool.and_true]; exact blw_encP _ _, fun i c h => .inl h, rfl, by simp only [toldF, List.map_map]; rfl⟩
def refF (x : Sum Int (List (Option P2))) : D := match x with
  | .inl i => .int i
  | .inr _ => .non
def w_f_law_refused : DS := wSeq (wAsg (wC .non) (gNm 3)) (wSeq (wTry (fun R => wDrop (wCallX X_p_by_order R (wCons (wVar 0) (wCons (wVar 1) (wCons (wVar 2) (wNil)))))) [⟨"WishError", (some 4), fun a e => wSeq (wAsg (wC (.str "another kind")) (gNm 3)) (wIf (wTest (wCall (S_f_law_is_kind a e) (wCons (wVar 4) (wCons (wC (.int 2)) (wNil))))) (wAsg (wExf e "NoRoom" "work" a (wVar 4)) (gNm 3)) ((fun D env st => D.nx env st)))⟩] noX) (wRet (wVar 3)))
def S_f_law_refused : DL.Spec := pureS 3 (fun x : Sy × List (List P2) × List Int => [x.1.d, encF x.2.1, dInts x.2.2]) (fun x => OrdIn x.1 x.2.1 x.2.2) (fun x => refF (byF x.1 x.2.1 x.2.2))
theorem vc_f_law_refused : ∀ g sto, (S_f_law_refused.args g).length = S_f_law_refused.n → S_f_law_refused.pre g sto → w_f_law_refused (bodyEnds (S_f_law_refused.post g sto)) (startE ["_law_system_here", "_law_field", "_law_order_here", "_law_found", "_law_error"] (S_f_law_refused.args g)) sto := by
  rintro ⟨s, f, o⟩ sto _ (ho : OrdIn s f o)
  simp? only [w_f_law_refused, S_f_law_refused, pureS]
  refine ⟨_, _, DEnds.le.refl _, fun e env st h => h, ?_⟩
  simp? only [wCallX]
  refine ⟨(s, f, o), rfl, rfl, ho, ?_, ?_⟩
  · rintro d st ⟨rfl, gv, hg, rfl⟩
    dsimp only at hg
    rw [hg]
    exact ⟨rfl, rfl⟩
  · rintro e st ⟨rfl, i, hi, rfl⟩
    dsimp only at hi
    rw [hi]
    refine ⟨true, by show mtab "NoRoom" "WishError" = some true; decide, fun _ a => ?_, fun h => nomatch h⟩
    simp? only [Cl.go, goneD, wExf]
    refine ⟨(2 : Nat), rfl, rfl, rfl, ?_⟩
    rintro d st ⟨rfl, rfl⟩
    (try simp? only [true_and])
    exact ⟨.int i, rfl, rfl⟩
theorem by_mem {s : Sy} {f : List (List P2)} {o : List Int} {i : Int} (hm : ∀ j ∈ o, 0 ≤ j ∧ j < s.works.length) (h : byF s f o = .inl i) : 0 ≤ i ∧ i < s.works.length := by
  have key : ∀ {r : List Int} {gv : List (Option P2)}, byR s f r gv = .inl i → i ∈ r := by
    intro r
    induction r with
    | nil => intro gv h; cases h
    | cons j r ih =>
      intro gv h
      unfold byR at h
      cases hq : (rowFd f j.toNat).find? (goesV s gv j.toNat) with
      | none => rw [hq] at h; cases h; exact List.mem_cons_self
      | some q => rw [hq] at h; exact List.mem_cons_of_mem _ (ih h)
  exact hm _ (key h)
def w_p_law_1 : DS := wSeq (wAsg (wCall S_f_law_order (wCons (wVar 1) (wCons (wVar 3) (wNil)))) (gNm 7)) (wIf (wNot (wTest (wCall S_f_law_same (wCons (wCall S_f_law_refused (wCons (wVar 3) (wCons (wVar 4) (wCons (wVar 7) (wNil))))) (wCons (wOp dIx (wCall S_f_law_by (wCons (wVar 3) (wCons (wVar 4) (wCons (wVar 7) (wNil))))) (wC (.int 1))) (wNil)))))) (wRet (wC (.bl false))) ((fun D env st => D.nx env st)))
def w_p_law_2 : DS := wSeq (wAsg (wCall S_f_law_system (wCons (wVar 1) (wCons (wC (.int 8)) (wCons (wC (.int 2)) (wCons (wC (.int 10)) (wCons (wC (.int 5)) (wCons (wC (.int 0)) (wNil)))))))) (gNm 3)) (wSeq (wAsg (wCall S_f_law_whole (wCons (wVar 3) (wNil))) (gNm 4)) (wSeq (wAsg (wCall S_f_law_next (wCons (wVar 1) (wNil))) (gNm 5)) (wSeq (wIf (wAnd (wTest (wOp dEq (wOp dMod (wVar 5) (wC (.int 3))) (wC (.int 0)))) (wTest (wOp dGt (wCB bLen (wCons (wVar 4) (wNil))) (wC (.int 0))))) (wAsg (wCall S_f_law_put (wCons (wVar 4) (wCons (wOp dMod (wOp dFdiv (wVar 5) (wC (.int 3))) (wCB bLen (wCons (wVar 4) (wNil)))) (wCons (wTup (wNil)) (wNil))))) (gNm 4)) ((fun D env st => D.nx env st))) (wFor (iRange1 (wCons (wC (.int 3)) (wNil))) (gNm 6) w_p_law_1))))
def w_p_law : DS := wSeq (wAsg (wCall S_f_law_deck (wCons (wVar 0) (wNil))) (gNm 1)) (wSeq (wFor (iRange1 (wCons (wC (.int 5)) (wNil))) (gNm 2) w_p_law_2) (wRet (wC (.bl true))))
def S_p_law : DL.Spec := ⟨1, List Int, fun ns => [.scr (ns.map .int)], fun ns st => ns.length ≤ 63 ∧ st = [], fun _ _ d _ => d = .bl true⟩
theorem vc_p_law : ∀ g sto, (S_p_law.args g).length = S_p_law.n → S_p_law.pre g sto → w_p_law (bodyEnds (S_p_law.post g sto)) (startE ["_law_script", "_law_deck_here", "_law_turn", "_law_system_here", "_law_field", "_law_spot", "_law_k", "_law_order_here"] (S_p_law.args g)) sto := by
  rintro (ns : List Int) sto _ ⟨hl, rfl⟩
  have z2 : 2 ≤ sizeLine := by decide
  simp? only [w_p_law, S_p_law, wFor]
  refine deck_use hl fun st hD => ?_
  (try simp? only [true_and])
  refine ⟨by decide, ?_⟩
  refine forL_inv (fun i e s => ∃ x2 x3 x4 x5 x6 x7, e = [some (.scr (ns.map .int)), some (.ref 2), x2, x3, x4, x5, x6, x7] ∧ Dk (i * 1000000000) [] s) ?_ ?_ _ _ ⟨_, _, _, _, _, _, rfl, hD.mono (by omega)⟩
  · rintro i e st d ⟨x2, x3, x4, x5, x6, x7, rfl, hD⟩ he R hR
    obtain ⟨hi, rfl⟩ := rangeD_at he
    have hi4 : i < 5 := by simpa using hi
    refine ⟨trivial, ?_⟩
    simp?! only [w_p_law_2, wFor]
    refine seq_go ?_
    simp?! only [true_and]
    refine sys_use hD (by omega) (by omega) (by omega) (by omega) (by omega) (by omega) fun s st hs0 hD => ?_
    have hs : S30 s := s30_of hs0 (by omega) (by omega) (by omega) (by omega) (by omega)
    have hw := hs.works
    have hwl : (wholeF s).length = s.works.length := by unfold wholeF; rw [List.length_map]
    refine seq_go ?_
    simp?! only [true_and]
    refine use_pure s rfl rfl (good30 hs) ?_
    refine seq_go ?_
    simp?! only [true_and]
    refine next_use hD (by omega) fun y st y0 y1 hD => ?_
    refine seq_cut (fun e st => ∃ f, FieldOf s f ∧ e = [some (.scr (ns.map .int)), some (.ref 2), some (.int (0 + (i : Int))), some s.d, some (encF f), some (.int y), x6, x7] ∧ Dk (i * 1000000000 + 20000000) [] st) (fun K hK => ?_) ?_
    · simp? only [encF]
      have hwh : K [some (D.scr (List.map D.int ns)), some (D.ref 2), some (D.int (0 + (i : Int))), some s.d, some (D.tup ((wholeF s).map encR)), some (D.int y), x6, x7] st := hK _ _ ⟨wholeF s, SubF.refl _, rfl, hD.mono (by omega)⟩
      refine ⟨by decide, ?_⟩
      split
      · split
        · rename_i h1 h2
          have hp : 0 < (wholeF s).length := by omega
          refine ⟨⟨by decide, by decide⟩, by omega, Nat.zero_le _, ?_⟩
          have hk0 : 0 ≤ y / 3 % ((wholeF s).length : Int) := Int.emod_nonneg _ (by omega)
          have hk1 : y / 3 % ((wholeF s).length : Int) < ((wholeF s).length : Int) := Int.emod_lt_of_pos _ (by omega)
          obtain ⟨k, hk⟩ := Int.eq_ofNat_of_zero_le hk0
          rw [hk]
          have hkl : k < (wholeF s).length := by omega
          refine put_use (ds := (wholeF s).map encR) (i := k) (x := .tup []) ⟨by rw [List.length_map]; exact hkl, by rw [List.length_map]; omega⟩ ?_
          rw [show ((wholeF s).map encR).set k (D.tup []) = ((wholeF s).set k []).map encR from by rw [List.map_set]; rfl]
          exact hK _ _ ⟨(wholeF s).set k [], subF_set (SubF.refl _) (List.getElem?_eq_getElem hkl) (List.nil_sublist _), rfl, hD.mono (by omega)⟩
        · exact hwh
      · exact hwh
    rintro e st ⟨f, hf, rfl, hD⟩
    have hfl : f.length = s.works.length := hf.len.trans hwl
    simp? only [true_and]
    refine ⟨by decide, ?_⟩
    refine forL_inv (fun j e st => ∃ x6 x7, e = [some (.scr (ns.map .int)), some (.ref 2), some (.int (0 + (i : Int))), some s.d, some (encF f), some (.int y), x6, x7] ∧ Dk (i * 1000000000 + 20000000 + j * 30000000) [] st) ?_ ?_ _ _ ⟨_, _, rfl, hD.mono (by omega)⟩
    · rintro j e st d ⟨x6, x7, rfl, hD⟩ he R2 hR2
      obtain ⟨hj, rfl⟩ := rangeD_at he
      have hj3 : j < 3 := by simpa using hj
      refine ⟨trivial, ?_⟩
      simp?! only [w_p_law_1]
      refine seq_go ?_
      simp?! only [true_and]
      refine use_deck s rfl rfl hD (by omega) (good30 hs) fun d st hd hD => ?_
      obtain ⟨o, rfl, ho, hol⟩ := hd
      have hin : OrdIn s f o := ⟨hs, hfl, hol, fun i hi => ho.mem hi⟩
      refine use_pure (s, f, o) rfl rfl hin ?_
      refine use_pure (s, f, o) rfl rfl ⟨hs, hf, ho, hol⟩ ?_
      dsimp only
      have hfin : ∀ d, d = refF (byF s f o) → d.Fit ∧ dIx (toldF (byF s f o)) (D.int 1) st = fun Q => Q d st := fun d hd => by
        subst hd
        cases e : byF s f o with
        | inl i =>
          have hi := by_mem (fun j hj => ho.mem hj) e
          exact ⟨(fit_int (k := 0) (n := 0) (by omega)).fit (by decide) (by decide), by funext Q; simp only [toldF, refF, v_ixT]; exact propext ⟨fun ⟨_, h, q⟩ => by cases h; exact q, fun q => ⟨_, rfl, q⟩⟩⟩
        | inr gv => exact ⟨((fit_non (k := 0)).mono (k' := 2) (n' := 0) (by omega) (Nat.le_refl _)).fit (by decide) (by decide), by funext Q; simp only [toldF, refF, v_ixT]; exact propext ⟨fun ⟨_, h, q⟩ => by cases h; exact q, fun q => ⟨_, rfl, q⟩⟩⟩
      obtain ⟨hft, hix⟩ := hfin _ rfl
      rw [hix]
      dsimp only
      have hrd : rd st (refF (byF s f o)) = refF (byF s f o) := by cases byF s f o <;> rfl
      refine same_use (by rw [hrd]; exact hft) (by rw [hrd]; exact hft) ?_
      simp? only [beq_self_eq_true]
      exact hR2 _ _ ⟨_, _, rfl, hD.mono (by omega)⟩
    · rintro e st ⟨x6, x7, rfl, hD⟩
      rw [rangeD_len] at hD
      have e3 : Int.toNat 3 = 3 := rfl
      rw [e3] at hD
      exact ⟨trivial, hR _ _ ⟨_, _, _, _, _, _, rfl, hD.mono (by omega)⟩⟩
  · rintro e st ⟨x2, x3, x4, x5, x6, x7, rfl, hD⟩
    exact ⟨trivial, trivial⟩
abbrev N_p_end_of : List Str := ["system", "work", "way"]
theorem sc_p_end_of : FnScope N_p_end_of ["system", "work", "way"] (defScope s_p_end_of) := ⟨rfl, rfl, rfl, by decide +kernel, rfl, by decide +kernel, by decide +kernel⟩
abbrev N_f_law_deck : List Str := ["_law_script", "_law_digits", "_law_cells", "_law_cell"]
theorem sc_f_law_deck : FnScope N_f_law_deck ["_law_script"] (defScope s_f_law_deck) := ⟨rfl, rfl, rfl, by decide +kernel, rfl, by decide +kernel, by decide +kernel⟩
abbrev N_f_law_next : List Str := ["_law_deck_here", "_law_at", "_law_primes", "_law_cell", "_law_mixed"]
theorem sc_f_law_next : FnScope N_f_law_next ["_law_deck_here"] (defScope s_f_law_next) := ⟨rfl, rfl, rfl, by decide +kernel, rfl, by decide +kernel, by decide +kernel⟩
abbrev N_f_law_put : List Str := ["_law_row", "_law_at", "_law_thing"]
theorem sc_f_law_put : FnScope N_f_law_put ["_law_row", "_law_at", "_law_thing"] (defScope s_f_law_put) := ⟨rfl, rfl, rfl, by decide +kernel, rfl, by decide +kernel, by decide +kernel⟩
abbrev N_f_law_same : List Str := ["_law_found", "_law_due"]
theorem sc_f_law_same : FnScope N_f_law_same ["_law_found", "_law_due"] (defScope s_f_law_same) := ⟨rfl, rfl, rfl, by decide +kernel, rfl, by decide +kernel, by decide +kernel⟩
abbrev N_f_law_ways : List Str := ["_law_system_here", "_law_work_here", "_law_days", "_law_hands", "_law_works", "_law_length", "_law_ahead", "_law_able", "_law_found", "_law_start", "_law_hand", "_law_day"]
theorem sc_f_law_ways : FnScope N_f_law_ways ["_law_system_here", "_law_work_here"] (defScope s_f_law_ways) := ⟨rfl, rfl, rfl, by decide +kernel, rfl, by decide +kernel, by decide +kernel⟩
abbrev N_f_law_clash : List Str := ["_law_system_here", "_law_one", "_law_way", "_law_other", "_law_other_way", "_law_end", "_law_other_end"]
theorem sc_f_law_clash : FnScope N_f_law_clash ["_law_system_here", "_law_one", "_law_way", "_law_other", "_law_other_way"] (defScope s_f_law_clash) := ⟨rfl, rfl, rfl, by decide +kernel, rfl, by decide +kernel, by decide +kernel⟩
abbrev N_f_law_stands : List Str := ["_law_system_here", "_law_found", "_law_work_here", "_law_ahead", "_law_one"]
theorem sc_f_law_stands : FnScope N_f_law_stands ["_law_system_here", "_law_found", "_law_work_here"] (defScope s_f_law_stands) := ⟨rfl, rfl, rfl, by decide +kernel, rfl, by decide +kernel, by decide +kernel⟩
abbrev N_f_law_is_kind : List Str := ["_law_error", "_law_at", "_law_kinds", "_law_k"]
theorem sc_f_law_is_kind : FnScope N_f_law_is_kind ["_law_error", "_law_at"] (defScope s_f_law_is_kind) := ⟨rfl, rfl, rfl, by decide +kernel, rfl, by decide +kernel, by decide +kernel⟩
abbrev N_p_is_behind : List Str := ["system", "one", "way", "other", "other_way"]
theorem sc_p_is_behind : FnScope N_p_is_behind ["system", "one", "way", "other", "other_way"] (defScope s_p_is_behind) := ⟨rfl, rfl, rfl, by decide +kernel, rfl, by decide +kernel, by decide +kernel⟩
abbrev N_f_law_rows_of : List Str := ["_law_deck_here", "_law_high", "_law_some", "_law_one"]
theorem sc_f_law_rows_of : FnScope N_f_law_rows_of ["_law_deck_here", "_law_high", "_law_some"] (defScope s_f_law_rows_of) := ⟨rfl, rfl, rfl, by decide +kernel, rfl, by decide +kernel, by decide +kernel⟩
abbrev N_f_law_wish : List Str := ["_law_deck_here", "_law_works", "_law_days", "_law_ranks", "_law_weight"]
theorem sc_f_law_wish : FnScope N_f_law_wish ["_law_deck_here", "_law_works", "_law_days"] (defScope s_f_law_wish) := ⟨rfl, rfl, rfl, by decide +kernel, rfl, by decide +kernel, by decide +kernel⟩
abbrev N_f_law_whole : List Str := ["_law_system_here", "_law_work_here"]
theorem sc_f_law_whole : FnScope N_f_law_whole ["_law_system_here"] (defScope s_f_law_whole) := ⟨rfl, rfl, rfl, by decide +kernel, rfl, by decide +kernel, by decide +kernel⟩
abbrev N_f_law_order : List Str := ["_law_deck_here", "_law_system_here", "_law_found", "_law_number", "_law_free", "_law_work_here"]
theorem sc_f_law_order : FnScope N_f_law_order ["_law_deck_here", "_law_system_here"] (defScope s_f_law_order) := ⟨rfl, rfl, rfl, by decide +kernel, rfl, by decide +kernel, by decide +kernel⟩
abbrev N_f_law_fits : List Str := ["_law_system_here", "_law_given", "_law_work_here", "_law_way", "_law_other", "_law_other_way"]
theorem sc_f_law_fits : FnScope N_f_law_fits ["_law_system_here", "_law_given", "_law_work_here", "_law_way"] (defScope s_f_law_fits) := ⟨rfl, rfl, rfl, by decide +kernel, rfl, by decide +kernel, by decide +kernel⟩
abbrev N_p_clash : List Str := ["system", "one", "way", "other", "other_way"]
theorem sc_p_clash : FnScope N_p_clash ["system", "one", "way", "other", "other_way"] (defScope s_p_clash) := ⟨rfl, rfl, rfl, by decide +kernel, rfl, by decide +kernel, by decide +kernel⟩
abbrev N_f_law_work : List Str := ["_law_deck_here", "_law_number", "_law_hands", "_law_length", "_law_much", "_law_ahead", "_law_way", "_law_able", "_law_hand"]
theorem sc_f_law_work : FnScope N_f_law_work ["_law_deck_here", "_law_number", "_law_hands", "_law_length"] (defScope s_f_law_work) := ⟨rfl, rfl, rfl, by decide +kernel, rfl, by decide +kernel, by decide +kernel⟩
abbrev N_f_law_by : List Str := ["_law_system_here", "_law_field", "_law_order_here", "_law_given", "_law_work_here", "_law_some", "_law_way"]
theorem sc_f_law_by : FnScope N_f_law_by ["_law_system_here", "_law_field", "_law_order_here"] (defScope s_f_law_by) := ⟨rfl, rfl, rfl, by decide +kernel, rfl, by decide +kernel, by decide +kernel⟩
abbrev N_p_goes_with_orders : List Str := ["system", "given", "work", "way", "other", "other_way"]
theorem sc_p_goes_with_orders : FnScope N_p_goes_with_orders ["system", "given", "work", "way"] (defScope s_p_goes_with_orders) := ⟨rfl, rfl, rfl, by decide +kernel, rfl, by decide +kernel, by decide +kernel⟩
abbrev N_f_law_system : List Str := ["_law_deck_here", "_law_days", "_law_hands", "_law_works", "_law_length", "_law_wishes", "_law_many", "_law_some", "_law_rows", "_law_count", "_law_longest", "_law_works_drawn", "_law_wished", "_law_hand", "_law_work_here", "_law_k"]
theorem sc_f_law_system : FnScope N_f_law_system ["_law_deck_here", "_law_days", "_law_hands", "_law_works", "_law_length", "_law_wishes"] (defScope s_f_law_system) := ⟨rfl, rfl, rfl, by decide +kernel, rfl, by decide +kernel, by decide +kernel⟩
abbrev N_p_first_way : List Str := ["system", "given", "work", "row", "way"]
theorem sc_p_first_way : FnScope N_p_first_way ["system", "given", "work", "row"] (defScope s_p_first_way) := ⟨rfl, rfl, rfl, by decide +kernel, rfl, by decide +kernel, by decide +kernel⟩
abbrev N_p_by_order : List Str := ["system", "field", "order", "given", "work", "way"]
theorem sc_p_by_order : FnScope N_p_by_order ["system", "field", "order"] (defScope s_p_by_order) := ⟨rfl, rfl, rfl, by decide +kernel, rfl, by decide +kernel, by decide +kernel⟩
abbrev N_f_law_refused : List Str := ["_law_system_here", "_law_field", "_law_order_here", "_law_found", "_law_error"]
theorem sc_f_law_refused : FnScope N_f_law_refused ["_law_system_here", "_law_field", "_law_order_here"] (defScope s_f_law_refused) := ⟨rfl, rfl, rfl, by decide +kernel, rfl, by decide +kernel, by decide +kernel⟩
abbrev N_p_law : List Str := ["_law_script", "_law_deck_here", "_law_turn", "_law_system_here", "_law_field", "_law_spot", "_law_k", "_law_order_here"]
theorem sc_p_law : FnScope N_p_law ["_law_script"] (defScope s_p_law) := ⟨rfl, rfl, rfl, by decide +kernel, rfl, by decide +kernel, by decide +kernel⟩
set_option genInjectivity false in
set_option genSizeOf false in
structure Txt (K : PySem.W.Frag) (mg : Str → Option Value) where
  a_p_end_of : Addr
  d_p_end_of : FuncData
  F_p_end_of : Fun K "end_of" "end_of" s_p_end_of a_p_end_of d_p_end_of
  b_p_end_of : Binds K d_p_end_of ["system", "work", "way"] []
  m_p_end_of : mg "end_of" = some (.ref a_p_end_of)
  a_f_law_deck : Addr
  d_f_law_deck : FuncData
  F_f_law_deck : Fun K "_law_deck" "_law_deck" s_f_law_deck a_f_law_deck d_f_law_deck
  b_f_law_deck : Binds K d_f_law_deck ["_law_script"] []
  m_f_law_deck : mg "_law_deck" = some (.ref a_f_law_deck)
  a_f_law_next : Addr
  d_f_law_next : FuncData
  F_f_law_next : Fun K "_law_next" "_law_next" s_f_law_next a_f_law_next d_f_law_next
  b_f_law_next : Binds K d_f_law_next ["_law_deck_here"] []
  m_f_law_next : mg "_law_next" = some (.ref a_f_law_next)
  a_f_law_put : Addr
  d_f_law_put : FuncData
  F_f_law_put : Fun K "_law_put" "_law_put" s_f_law_put a_f_law_put d_f_law_put
  b_f_law_put : Binds K d_f_law_put ["_law_row", "_law_at", "_law_thing"] []
  m_f_law_put : mg "_law_put" = some (.ref a_f_law_put)
  a_f_law_same : Addr
  d_f_law_same : FuncData
  F_f_law_same : Fun K "_law_same" "_law_same" s_f_law_same a_f_law_same d_f_law_same
  b_f_law_same : Binds K d_f_law_same ["_law_found", "_law_due"] []
  m_f_law_same : mg "_law_same" = some (.ref a_f_law_same)
  a_f_law_ways : Addr
  d_f_law_ways : FuncData
  F_f_law_ways : Fun K "_law_ways" "_law_ways" s_f_law_ways a_f_law_ways d_f_law_ways
  b_f_law_ways : Binds K d_f_law_ways ["_law_system_here", "_law_work_here"] []
  m_f_law_ways : mg "_law_ways" = some (.ref a_f_law_ways)
  a_f_law_clash : Addr
  d_f_law_clash : FuncData
  F_f_law_clash : Fun K "_law_clash" "_law_clash" s_f_law_clash a_f_law_clash d_f_law_clash
  b_f_law_clash : Binds K d_f_law_clash ["_law_system_here", "_law_one", "_law_way", "_law_other", "_law_other_way"] []
  m_f_law_clash : mg "_law_clash" = some (.ref a_f_law_clash)
  a_f_law_stands : Addr
  d_f_law_stands : FuncData
  F_f_law_stands : Fun K "_law_stands" "_law_stands" s_f_law_stands a_f_law_stands d_f_law_stands
  b_f_law_stands : Binds K d_f_law_stands ["_law_system_here", "_law_found", "_law_work_here"] []
  m_f_law_stands : mg "_law_stands" = some (.ref a_f_law_stands)
  a_f_law_is_kind : Addr
  d_f_law_is_kind : FuncData
  F_f_law_is_kind : Fun K "_law_is_kind" "_law_is_kind" s_f_law_is_kind a_f_law_is_kind d_f_law_is_kind
  b_f_law_is_kind : Binds K d_f_law_is_kind ["_law_error", "_law_at"] []
  m_f_law_is_kind : mg "_law_is_kind" = some (.ref a_f_law_is_kind)
  a_p_is_behind : Addr
  d_p_is_behind : FuncData
  F_p_is_behind : Fun K "is_behind" "is_behind" s_p_is_behind a_p_is_behind d_p_is_behind
  b_p_is_behind : Binds K d_p_is_behind ["system", "one", "way", "other", "other_way"] []
  m_p_is_behind : mg "is_behind" = some (.ref a_p_is_behind)
  a_f_law_rows_of : Addr
  d_f_law_rows_of : FuncData
  F_f_law_rows_of : Fun K "_law_rows_of" "_law_rows_of" s_f_law_rows_of a_f_law_rows_of d_f_law_rows_of
  b_f_law_rows_of : Binds K d_f_law_rows_of ["_law_deck_here", "_law_high", "_law_some"] []
  m_f_law_rows_of : mg "_law_rows_of" = some (.ref a_f_law_rows_of)
  a_f_law_wish : Addr
  d_f_law_wish : FuncData
  F_f_law_wish : Fun K "_law_wish" "_law_wish" s_f_law_wish a_f_law_wish d_f_law_wish
  b_f_law_wish : Binds K d_f_law_wish ["_law_deck_here", "_law_works", "_law_days"] []
  m_f_law_wish : mg "_law_wish" = some (.ref a_f_law_wish)
  a_f_law_whole : Addr
  d_f_law_whole : FuncData
  F_f_law_whole : Fun K "_law_whole" "_law_whole" s_f_law_whole a_f_law_whole d_f_law_whole
  b_f_law_whole : Binds K d_f_law_whole ["_law_system_here"] []
  m_f_law_whole : mg "_law_whole" = some (.ref a_f_law_whole)
  a_f_law_order : Addr
  d_f_law_order : FuncData
  F_f_law_order : Fun K "_law_order" "_law_order" s_f_law_order a_f_law_order d_f_law_order
  b_f_law_order : Binds K d_f_law_order ["_law_deck_here", "_law_system_here"] []
  m_f_law_order : mg "_law_order" = some (.ref a_f_law_order)
  a_f_law_fits : Addr
  d_f_law_fits : FuncData
  F_f_law_fits : Fun K "_law_fits" "_law_fits" s_f_law_fits a_f_law_fits d_f_law_fits
  b_f_law_fits : Binds K d_f_law_fits ["_law_system_here", "_law_given", "_law_work_here", "_law_way"] []
  m_f_law_fits : mg "_law_fits" = some (.ref a_f_law_fits)
  a_p_clash : Addr
  d_p_clash : FuncData
  F_p_clash : Fun K "clash" "clash" s_p_clash a_p_clash d_p_clash
  b_p_clash : Binds K d_p_clash ["system", "one", "way", "other", "other_way"] []
  m_p_clash : mg "clash" = some (.ref a_p_clash)
  a_f_law_work : Addr
  d_f_law_work : FuncData
  F_f_law_work : Fun K "_law_work" "_law_work" s_f_law_work a_f_law_work d_f_law_work
  b_f_law_work : Binds K d_f_law_work ["_law_deck_here", "_law_number", "_law_hands", "_law_length"] []
  m_f_law_work : mg "_law_work" = some (.ref a_f_law_work)
  a_f_law_by : Addr
  d_f_law_by : FuncData
  F_f_law_by : Fun K "_law_by" "_law_by" s_f_law_by a_f_law_by d_f_law_by
  b_f_law_by : Binds K d_f_law_by ["_law_system_here", "_law_field", "_law_order_here"] []
  m_f_law_by : mg "_law_by" = some (.ref a_f_law_by)
  a_p_goes_with_orders : Addr
  d_p_goes_with_orders : FuncData
  F_p_goes_with_orders : Fun K "goes_with" "goes_with" s_p_goes_with_orders a_p_goes_with_orders d_p_goes_with_orders
  b_p_goes_with_orders : Binds K d_p_goes_with_orders ["system", "given", "work", "way"] []
  m_p_goes_with_orders : mg "goes_with" = some (.ref a_p_goes_with_orders)
  a_f_law_system : Addr
  d_f_law_system : FuncData
  F_f_law_system : Fun K "_law_system" "_law_system" s_f_law_system a_f_law_system d_f_law_system
  b_f_law_system : Binds K d_f_law_system ["_law_deck_here", "_law_days", "_law_hands", "_law_works", "_law_length", "_law_wishes"] []
  m_f_law_system : mg "_law_system" = some (.ref a_f_law_system)
  a_p_first_way : Addr
  d_p_first_way : FuncData
  F_p_first_way : Fun K "first_way" "first_way" s_p_first_way a_p_first_way d_p_first_way
  b_p_first_way : Binds K d_p_first_way ["system", "given", "work", "row"] []
  m_p_first_way : mg "first_way" = some (.ref a_p_first_way)
  a_p_by_order : Addr
  d_p_by_order : FuncData
  F_p_by_order : Fun K "by_order" "by_order" s_p_by_order a_p_by_order d_p_by_order
  b_p_by_order : Binds K d_p_by_order ["system", "field", "order"] []
  m_p_by_order : mg "by_order" = some (.ref a_p_by_order)
  a_f_law_refused : Addr
  d_f_law_refused : FuncData
  F_f_law_refused : Fun K "_law_refused" "_law_refused" s_f_law_refused a_f_law_refused d_f_law_refused
  b_f_law_refused : Binds K d_f_law_refused ["_law_system_here", "_law_field", "_law_order_here"] []
  m_f_law_refused : mg "_law_refused" = some (.ref a_f_law_refused)
  a_p_law : Addr
  d_p_law : FuncData
  F_p_law : Fun K "law" "law" s_p_law a_p_law d_p_law
  b_p_law : Binds K d_p_law ["_law_script"] []
  m_p_law : mg "law" = some (.ref a_p_law)
  C_NoDeed : Addr
  aC_NoDeed : PySem.W.nsIn K mainGlobals "NoDeed" = some (some (.ref C_NoDeed))
  mC_NoDeed : mg "NoDeed" = some (.ref C_NoDeed)
  C_NoPlan : Addr
  aC_NoPlan : PySem.W.nsIn K mainGlobals "NoPlan" = some (some (.ref C_NoPlan))
  mC_NoPlan : mg "NoPlan" = some (.ref C_NoPlan)
  C_NoRoom : Addr
  aC_NoRoom : PySem.W.nsIn K mainGlobals "NoRoom" = some (some (.ref C_NoRoom))
  mC_NoRoom : mg "NoRoom" = some (.ref C_NoRoom)
  C_NoText : Addr
  aC_NoText : PySem.W.nsIn K mainGlobals "NoText" = some (some (.ref C_NoText))
  mC_NoText : mg "NoText" = some (.ref C_NoText)
  C_NotEven : Addr
  aC_NotEven : PySem.W.nsIn K mainGlobals "NotEven" = some (some (.ref C_NotEven))
  mC_NotEven : mg "NotEven" = some (.ref C_NotEven)
  C_TooMany : Addr
  aC_TooMany : PySem.W.nsIn K mainGlobals "TooMany" = some (some (.ref C_TooMany))
  mC_TooMany : mg "TooMany" = some (.ref C_TooMany)
  C_WishError : Addr
  aC_WishError : PySem.W.nsIn K mainGlobals "WishError" = some (some (.ref C_WishError))
  mC_WishError : mg "WishError" = some (.ref C_WishError)
  em_NoDeed_WishError : PySem.W.exmOne K (.ref C_NoDeed) (.ref C_WishError) = some true
  em_NoPlan_WishError : PySem.W.exmOne K (.ref C_NoPlan) (.ref C_WishError) = some true
  aI_NoRoom : Addr
  dI_NoRoom : FuncData
  FI_NoRoom : Fun K "__init__" "NoRoom.__init__" (inClass (topS 4) 0) aI_NoRoom dI_NoRoom
  bI_NoRoom : Binds K dI_NoRoom ["self", "work"] []
  e_NoRoom : ErrF K "NoRoom" "work" C_NoRoom aI_NoRoom
  em_NoRoom_WishError : PySem.W.exmOne K (.ref C_NoRoom) (.ref C_WishError) = some true
  em_NoText_WishError : PySem.W.exmOne K (.ref C_NoText) (.ref C_WishError) = some true
  em_NotEven_WishError : PySem.W.exmOne K (.ref C_NotEven) (.ref C_WishError) = some true
  em_TooMany_WishError : PySem.W.exmOne K (.ref C_TooMany) (.ref C_WishError) = some true
  vS : PySem.W.specialIn K (.builtin "object.__class__") "__get__" = some (some (.builtin "getset_descriptor.__get__"))
  vT : PySem.W.takesIn K (.builtin "object.__class__") = some true
  xc_NoDeed : ExcC K C_NoDeed
  ki_NoDeed_NoDeed : PySem.W.kitOne K (.ref C_NoDeed) (.ref C_NoDeed) = some true
  ki_NoDeed_NoPlan : PySem.W.kitOne K (.ref C_NoDeed) (.ref C_NoPlan) = some false
  ki_NoDeed_NoRoom : PySem.W.kitOne K (.ref C_NoDeed) (.ref C_NoRoom) = some false
  ki_NoDeed_NoText : PySem.W.kitOne K (.ref C_NoDeed) (.ref C_NoText) = some false
  ki_NoDeed_NotEven : PySem.W.kitOne K (.ref C_NoDeed) (.ref C_NotEven) = some false
  ki_NoDeed_TooMany : PySem.W.kitOne K (.ref C_NoDeed) (.ref C_TooMany) = some false
  ki_NoDeed_WishError : PySem.W.kitOne K (.ref C_NoDeed) (.ref C_WishError) = some true
  ki_NoDeed_ValueError : PySem.W.kitOne K (.ref C_NoDeed) (.type "ValueError") = some true
  xc_NoPlan : ExcC K C_NoPlan
  ki_NoPlan_NoDeed : PySem.W.kitOne K (.ref C_NoPlan) (.ref C_NoDeed) = some false
  ki_NoPlan_NoPlan : PySem.W.kitOne K (.ref C_NoPlan) (.ref C_NoPlan) = some true
  ki_NoPlan_NoRoom : PySem.W.kitOne K (.ref C_NoPlan) (.ref C_NoRoom) = some false
  ki_NoPlan_NoText : PySem.W.kitOne K (.ref C_NoPlan) (.ref C_NoText) = some false
  ki_NoPlan_NotEven : PySem.W.kitOne K (.ref C_NoPlan) (.ref C_NotEven) = some false
  ki_NoPlan_TooMany : PySem.W.kitOne K (.ref C_NoPlan) (.ref C_TooMany) = some false
  ki_NoPlan_WishError : PySem.W.kitOne K (.ref C_NoPlan) (.ref C_WishError) = some true
  ki_NoPlan_ValueError : PySem.W.kitOne K (.ref C_NoPlan) (.type "ValueError") = some true
  xc_NoRoom : ExcC K C_NoRoom
  ki_NoRoom_NoDeed : PySem.W.kitOne K (.ref C_NoRoom) (.ref C_NoDeed) = some false
  ki_NoRoom_NoPlan : PySem.W.kitOne K (.ref C_NoRoom) (.ref C_NoPlan) = some false
  ki_NoRoom_NoRoom : PySem.W.kitOne K (.ref C_NoRoom) (.ref C_NoRoom) = some true
  ki_NoRoom_NoText : PySem.W.kitOne K (.ref C_NoRoom) (.ref C_NoText) = some false
  ki_NoRoom_NotEven : PySem.W.kitOne K (.ref C_NoRoom) (.ref C_NotEven) = some false
  ki_NoRoom_TooMany : PySem.W.kitOne K (.ref C_NoRoom) (.ref C_TooMany) = some false
  ki_NoRoom_WishError : PySem.W.kitOne K (.ref C_NoRoom) (.ref C_WishError) = some true
  ki_NoRoom_ValueError : PySem.W.kitOne K (.ref C_NoRoom) (.type "ValueError") = some true
  xc_NoText : ExcC K C_NoText
  ki_NoText_NoDeed : PySem.W.kitOne K (.ref C_NoText) (.ref C_NoDeed) = some false
  ki_NoText_NoPlan : PySem.W.kitOne K (.ref C_NoText) (.ref C_NoPlan) = some false
  ki_NoText_NoRoom : PySem.W.kitOne K (.ref C_NoText) (.ref C_NoRoom) = some false
  ki_NoText_NoText : PySem.W.kitOne K (.ref C_NoText) (.ref C_NoText) = some true
  ki_NoText_NotEven : PySem.W.kitOne K (.ref C_NoText) (.ref C_NotEven) = some false
  ki_NoText_TooMany : PySem.W.kitOne K (.ref C_NoText) (.ref C_TooMany) = some false
  ki_NoText_WishError : PySem.W.kitOne K (.ref C_NoText) (.ref C_WishError) = some true
  ki_NoText_ValueError : PySem.W.kitOne K (.ref C_NoText) (.type "ValueError") = some true
  xc_NotEven : ExcC K C_NotEven
  ki_NotEven_NoDeed : PySem.W.kitOne K (.ref C_NotEven) (.ref C_NoDeed) = some false
  ki_NotEven_NoPlan : PySem.W.kitOne K (.ref C_NotEven) (.ref C_NoPlan) = some false
  ki_NotEven_NoRoom : PySem.W.kitOne K (.ref C_NotEven) (.ref C_NoRoom) = some false
  ki_NotEven_NoText : PySem.W.kitOne K (.ref C_NotEven) (.ref C_NoText) = some false
  ki_NotEven_NotEven : PySem.W.kitOne K (.ref C_NotEven) (.ref C_NotEven) = some true
  ki_NotEven_TooMany : PySem.W.kitOne K (.ref C_NotEven) (.ref C_TooMany) = some false
  ki_NotEven_WishError : PySem.W.kitOne K (.ref C_NotEven) (.ref C_WishError) = some true
  ki_NotEven_ValueError : PySem.W.kitOne K (.ref C_NotEven) (.type "ValueError") = some true
  xc_TooMany : ExcC K C_TooMany
  ki_TooMany_NoDeed : PySem.W.kitOne K (.ref C_TooMany) (.ref C_NoDeed) = some false
  ki_TooMany_NoPlan : PySem.W.kitOne K (.ref C_TooMany) (.ref C_NoPlan) = some false
  ki_TooMany_NoRoom : PySem.W.kitOne K (.ref C_TooMany) (.ref C_NoRoom) = some false
  ki_TooMany_NoText : PySem.W.kitOne K (.ref C_TooMany) (.ref C_NoText) = some false
  ki_TooMany_NotEven : PySem.W.kitOne K (.ref C_TooMany) (.ref C_NotEven) = some false
  ki_TooMany_TooMany : PySem.W.kitOne K (.ref C_TooMany) (.ref C_TooMany) = some true
  ki_TooMany_WishError : PySem.W.kitOne K (.ref C_TooMany) (.ref C_WishError) = some true
  ki_TooMany_ValueError : PySem.W.kitOne K (.ref C_TooMany) (.type "ValueError") = some true
  kt_NoDeed : PySem.W.kitOne K (.type "tuple") (.ref C_NoDeed) = some false
  kn_NoDeed : PySem.W.kitOne K (.type "int") (.ref C_NoDeed) = some false
  kt_NoPlan : PySem.W.kitOne K (.type "tuple") (.ref C_NoPlan) = some false
  kn_NoPlan : PySem.W.kitOne K (.type "int") (.ref C_NoPlan) = some false
  kt_NoRoom : PySem.W.kitOne K (.type "tuple") (.ref C_NoRoom) = some false
  kn_NoRoom : PySem.W.kitOne K (.type "int") (.ref C_NoRoom) = some false
  kt_NoText : PySem.W.kitOne K (.type "tuple") (.ref C_NoText) = some false
  kn_NoText : PySem.W.kitOne K (.type "int") (.ref C_NoText) = some false
  kt_NotEven : PySem.W.kitOne K (.type "tuple") (.ref C_NotEven) = some false
  kn_NotEven : PySem.W.kitOne K (.type "int") (.ref C_NotEven) = some false
  kt_TooMany : PySem.W.kitOne K (.type "tuple") (.ref C_TooMany) = some false
  kn_TooMany : PySem.W.kitOne K (.type "int") (.ref C_TooMany) = some false
  kt_WishError : PySem.W.kitOne K (.type "tuple") (.ref C_WishError) = some false
  kn_WishError : PySem.W.kitOne K (.type "int") (.ref C_WishError) = some false
  xf_NoRoom : XfC K C_NoRoom
  no_NoRoom_work : PySem.W.findIn K (.ref C_NoRoom) "work" = some none
  n_ValueError : mg "ValueError" = none
  n_abs : mg "abs" = none
  n_enumerate : mg "enumerate" = none
  n_int : mg "int" = none
  n_isinstance : mg "isinstance" = none
  n_len : mg "len" = none
  n_min : mg "min" = none
  n_range : mg "range" = none
  n_repr : mg "repr" = none
  n_sorted : mg "sorted" = none
  n_tuple : mg "tuple" = none
section
variable {P : Program} {w : World} {K : PySem.W.Frag} {mg : Str → Option Value} {base : Heap}
theorem oki_NoRoom (T : Txt K mg) : FnOk P w K mg base CX0 1 T.aI_NoRoom T.dI_NoRoom ["self", "work"] (spI K "work") :=
  init_ok T.FI_NoRoom ⟨rfl, rfl, rfl, by decide +kernel, rfl, by decide +kernel, by decide +kernel⟩ ⟨_, _, _, _, rfl⟩ (by rfl) (by rfl) (by decide) (by decide) (fun _ _ _ _ _ => rfl)
theorem exm_WishError (T : Txt K mg) : ∀ y C b, mtab y "WishError" = some b → PySem.W.nsIn K mainGlobals y = some (some (.ref C)) → PySem.W.exmOne K (.ref C) (.ref T.C_WishError) = some b :=
  mtab_all (fun C h => by rw [T.aC_TooMany] at h; cases h; exact T.em_TooMany_WishError) (fun C h => by rw [T.aC_NoPlan] at h; cases h; exact T.em_NoPlan_WishError) (fun C h => by rw [T.aC_NoRoom] at h; cases h; exact T.em_NoRoom_WishError) (fun C h => by rw [T.aC_NotEven] at h; cases h; exact T.em_NotEven_WishError) (fun C h => by rw [T.aC_NoDeed] at h; cases h; exact T.em_NoDeed_WishError) (fun C h => by rw [T.aC_NoText] at h; cases h; exact T.em_NoText_WishError)
theorem xk (T : Txt K mg) : XcK K := xk_all (fun C h => by rw [T.aC_TooMany] at h; cases h; exact T.xc_TooMany) (fun C h => by rw [T.aC_NoPlan] at h; cases h; exact T.xc_NoPlan) (fun C h => by rw [T.aC_NoRoom] at h; cases h; exact T.xc_NoRoom) (fun C h => by rw [T.aC_NotEven] at h; cases h; exact T.xc_NotEven) (fun C h => by rw [T.aC_NoDeed] at h; cases h; exact T.xc_NoDeed) (fun C h => by rw [T.aC_NoText] at h; cases h; exact T.xc_NoText)
theorem is_NoDeed (T : Txt K mg) : IsKX K (.ref T.C_NoDeed) (fun c => c == "NoDeed" || "NoDeed" == "WishError") := isk_all (fun C h => by rw [T.aC_TooMany] at h; cases h; exact T.ki_TooMany_NoDeed) (fun C h => by rw [T.aC_NoPlan] at h; cases h; exact T.ki_NoPlan_NoDeed) (fun C h => by rw [T.aC_NoRoom] at h; cases h; exact T.ki_NoRoom_NoDeed) (fun C h => by rw [T.aC_NotEven] at h; cases h; exact T.ki_NotEven_NoDeed) (fun C h => by rw [T.aC_NoDeed] at h; cases h; exact T.ki_NoDeed_NoDeed) (fun C h => by rw [T.aC_NoText] at h; cases h; exact T.ki_NoText_NoDeed)
theorem is_NoPlan (T : Txt K mg) : IsKX K (.ref T.C_NoPlan) (fun c => c == "NoPlan" || "NoPlan" == "WishError") := isk_all (fun C h => by rw [T.aC_TooMany] at h; cases h; exact T.ki_TooMany_NoPlan) (fun C h => by rw [T.aC_NoPlan] at h; cases h; exact T.ki_NoPlan_NoPlan) (fun C h => by rw [T.aC_NoRoom] at h; cases h; exact T.ki_NoRoom_NoPlan) (fun C h => by rw [T.aC_NotEven] at h; cases h; exact T.ki_NotEven_NoPlan) (fun C h => by rw [T.aC_NoDeed] at h; cases h; exact T.ki_NoDeed_NoPlan) (fun C h => by rw [T.aC_NoText] at h; cases h; exact T.ki_NoText_NoPlan)
theorem is_NoRoom (T : Txt K mg) : IsKX K (.ref T.C_NoRoom) (fun c => c == "NoRoom" || "NoRoom" == "WishError") := isk_all (fun C h => by rw [T.aC_TooMany] at h; cases h; exact T.ki_TooMany_NoRoom) (fun C h => by rw [T.aC_NoPlan] at h; cases h; exact T.ki_NoPlan_NoRoom) (fun C h => by rw [T.aC_NoRoom] at h; cases h; exact T.ki_NoRoom_NoRoom) (fun C h => by rw [T.aC_NotEven] at h; cases h; exact T.ki_NotEven_NoRoom) (fun C h => by rw [T.aC_NoDeed] at h; cases h; exact T.ki_NoDeed_NoRoom) (fun C h => by rw [T.aC_NoText] at h; cases h; exact T.ki_NoText_NoRoom)
theorem is_NoText (T : Txt K mg) : IsKX K (.ref T.C_NoText) (fun c => c == "NoText" || "NoText" == "WishError") := isk_all (fun C h => by rw [T.aC_TooMany] at h; cases h; exact T.ki_TooMany_NoText) (fun C h => by rw [T.aC_NoPlan] at h; cases h; exact T.ki_NoPlan_NoText) (fun C h => by rw [T.aC_NoRoom] at h; cases h; exact T.ki_NoRoom_NoText) (fun C h => by rw [T.aC_NotEven] at h; cases h; exact T.ki_NotEven_NoText) (fun C h => by rw [T.aC_NoDeed] at h; cases h; exact T.ki_NoDeed_NoText) (fun C h => by rw [T.aC_NoText] at h; cases h; exact T.ki_NoText_NoText)
theorem is_NotEven (T : Txt K mg) : IsKX K (.ref T.C_NotEven) (fun c => c == "NotEven" || "NotEven" == "WishError") := isk_all (fun C h => by rw [T.aC_TooMany] at h; cases h; exact T.ki_TooMany_NotEven) (fun C h => by rw [T.aC_NoPlan] at h; cases h; exact T.ki_NoPlan_NotEven) (fun C h => by rw [T.aC_NoRoom] at h; cases h; exact T.ki_NoRoom_NotEven) (fun C h => by rw [T.aC_NotEven] at h; cases h; exact T.ki_NotEven_NotEven) (fun C h => by rw [T.aC_NoDeed] at h; cases h; exact T.ki_NoDeed_NotEven) (fun C h => by rw [T.aC_NoText] at h; cases h; exact T.ki_NoText_NotEven)
theorem is_TooMany (T : Txt K mg) : IsKX K (.ref T.C_TooMany) (fun c => c == "TooMany" || "TooMany" == "WishError") := isk_all (fun C h => by rw [T.aC_TooMany] at h; cases h; exact T.ki_TooMany_TooMany) (fun C h => by rw [T.aC_NoPlan] at h; cases h; exact T.ki_NoPlan_TooMany) (fun C h => by rw [T.aC_NoRoom] at h; cases h; exact T.ki_NoRoom_TooMany) (fun C h => by rw [T.aC_NotEven] at h; cases h; exact T.ki_NotEven_TooMany) (fun C h => by rw [T.aC_NoDeed] at h; cases h; exact T.ki_NoDeed_TooMany) (fun C h => by rw [T.aC_NoText] at h; cases h; exact T.ki_NoText_TooMany)
theorem is_WishError (T : Txt K mg) : IsKX K (.ref T.C_WishError) (fun c => c == "WishError" || "WishError" == "WishError") := isk_all (fun C h => by rw [T.aC_TooMany] at h; cases h; exact T.ki_TooMany_WishError) (fun C h => by rw [T.aC_NoPlan] at h; cases h; exact T.ki_NoPlan_WishError) (fun C h => by rw [T.aC_NoRoom] at h; cases h; exact T.ki_NoRoom_WishError) (fun C h => by rw [T.aC_NotEven] at h; cases h; exact T.ki_NotEven_WishError) (fun C h => by rw [T.aC_NoDeed] at h; cases h; exact T.ki_NoDeed_WishError) (fun C h => by rw [T.aC_NoText] at h; cases h; exact T.ki_NoText_WishError)
theorem is_ValueError (T : Txt K mg) : IsKX K (.type "ValueError") (fun _ => ("ValueError" : String) == "ValueError") := isk_all (fun C h => by rw [T.aC_TooMany] at h; cases h; exact T.ki_TooMany_ValueError) (fun C h => by rw [T.aC_NoPlan] at h; cases h; exact T.ki_NoPlan_ValueError) (fun C h => by rw [T.aC_NoRoom] at h; cases h; exact T.ki_NoRoom_ValueError) (fun C h => by rw [T.aC_NotEven] at h; cases h; exact T.ki_NotEven_ValueError) (fun C h => by rw [T.aC_NoDeed] at h; cases h; exact T.ki_NoDeed_ValueError) (fun C h => by rw [T.aC_NoText] at h; cases h; exact T.ki_NoText_ValueError)
theorem ok_p_end_of (T : Txt K mg) : FnG P w K mg base CX0 1 T.a_p_end_of T.d_p_end_of ["system", "work", "way"] (spOf K S_p_end_of) := by
  refine fn_ok T.F_p_end_of sc_p_end_of rfl (fun cdv A outer s H E hr hgd => ?_) vc_p_end_of
  have nd := sc_p_end_of.nd
  exact wb_one (ws_ret (we_op op_addD z_add (we_ix (we_var (i := 2) rfl (.inl rfl)) (we_int)) (we_ix (we_ix (we_ix (we_var (i := 0) rfl (.inl rfl)) (we_int)) (we_var (i := 1) rfl (.inl rfl))) (we_int))))
theorem ok_f_law_deck (T : Txt K mg) : FnG P w K mg base CX0 1 T.a_f_law_deck T.d_f_law_deck ["_law_script"] (spOf K S_f_law_deck) := by
  refine fn_ok T.F_f_law_deck sc_f_law_deck rfl (fun cdv A outer s H E hr hgd => ?_) vc_f_law_deck
  have nd := sc_f_law_deck.nd
  exact wb_cons (ws_set (i := 1) nd rfl (.inl rfl) (we_lst (m := true) (wa_nil))) (wb_cons (ws_set (i := 2) nd rfl (.inl rfl) (we_lst (m := true) (wa_cons (we_callX z_len (fun h => pe_callB (CallR.or call_len_seq call_len_str) (by rfl) T.n_len bb_len h) (wa_cons (we_var (i := 0) rfl (.inl rfl)) (wa_nil))) (wa_nil)))) (wb_cons (ws_for PassesOwn.never rfl (wi_seq (we_sl (m := false) (we_var (i := 0) rfl (.inl rfl)) wo_none (wo_some (we_int)))) (wg_name (i := 3) nd rfl (.inl rfl)) (wb_cons (ws_set (i := 3) nd rfl (.inl rfl) (we_callX z_abs (fun h => pe_callB call_abs (by rfl) T.n_abs bb_abs h) (wa_cons (we_var (i := 3) rfl (.inl rfl)) (wa_nil)))) (wb_cons (ws_expr (we_m PySem.F.slot_list_append PySem.F.type_list_append mt_append z_append (we_var (i := 2) rfl (.inl rfl)) (wa_cons (we_op op_mod z_mod (we_var (i := 3) rfl (.inl rfl)) (we_int)) (wa_nil)) (fun h1 h2 => pe_bm PySem.F.plainAttrs_list PySem.F.slot_list_append PySem.F.type_list_append mt_append h1 h2))) (wb_one (ws_while PassesOwn.never ((ww_and (wt_cmp (op_geD hr.units0) z_ge (we_var (i := 3) rfl (.inl rfl)) (we_op op_pow z_pow (we_int) (we_int)) ((nomark _))) (ww_and1 (wt_cmp (op_ltD hr.units0) z_lt (we_callX z_len (fun h => pe_callB (CallR.or call_len_seq call_len_str) (by rfl) T.n_len bb_len h) (wa_cons (we_var (i := 1) rfl (.inl rfl)) (wa_nil))) (we_int) ((nomark _))))).wt) (wb_cons (ws_expr (we_m PySem.F.slot_list_append PySem.F.type_list_append mt_append z_append (we_var (i := 1) rfl (.inl rfl)) (wa_cons (we_op op_mod z_mod (we_var (i := 3) rfl (.inl rfl)) (we_int)) (wa_nil)) (fun h1 h2 => pe_bm PySem.F.plainAttrs_list PySem.F.slot_list_append PySem.F.type_list_append mt_append h1 h2))) (wb_one (ws_set (i := 3) nd rfl (.inl rfl) (we_op op_fdivW z_fdiv (we_var (i := 3) rfl (.inl rfl)) (we_int)))))))))) (wb_one (ws_ret (we_lst (m := true) (wa_cons (we_var (i := 1) rfl (.inl rfl)) (wa_cons (we_var (i := 2) rfl (.inl rfl)) (wa_cons (we_int) (wa_nil)))))))))
theorem ok_f_law_next (T : Txt K mg) : FnG P w K mg base CX0 1 T.a_f_law_next T.d_f_law_next ["_law_deck_here"] (spOf K S_f_law_next) := by
  refine fn_ok T.F_f_law_next sc_f_law_next rfl (fun cdv A outer s H E hr hgd => ?_) vc_f_law_next
  have nd := sc_f_law_next.nd
  exact wb_cons (ws_if (wt_cmp (op_neC hr.units) z_eqB (we_ix (we_var (i := 0) rfl (.inl rfl)) (we_int)) (we_lst (m := false) (wa_nil)) ((nomark _))) (wb_one (ws_ret (we_m PySem.F.slot_list_pop PySem.F.type_list_pop mt_popAt z_popAt (we_ix (we_var (i := 0) rfl (.inl rfl)) (we_int)) (wa_cons (we_int) (wa_nil)) (fun h1 h2 => pe_bm PySem.F.plainAttrs_list PySem.F.slot_list_pop PySem.F.type_list_pop mt_popAt h1 h2)))) (wb_nil)) (wb_cons (ws_set (i := 1) nd rfl (.inl rfl) (we_ix (we_var (i := 0) rfl (.inl rfl)) (we_int))) (wb_cons (ws_asg (we_op op_addD z_add (we_var (i := 1) rfl (.inl rfl)) (we_int)) (wg_sub (we_var (i := 0) rfl (.inl rfl)) (we_int))) (wb_cons (ws_set (i := 2) nd rfl (.inl rfl) (we_tup (wa_cons (we_int) (wa_cons (we_int) (wa_cons (we_int) (wa_cons (we_int) (wa_cons (we_int) (wa_cons (we_int) (wa_cons (we_int) (wa_cons (we_int) (wa_cons (we_int) (wa_cons (we_int) (wa_cons (we_int) (wa_cons (we_int) (wa_nil))))))))))))))) (wb_cons (ws_set (i := 3) nd rfl (.inl rfl) (we_op op_addD z_add (we_ix (we_ix (we_var (i := 0) rfl (.inl rfl)) (we_int)) (we_op op_mod z_mod (we_op op_addD z_add (we_var (i := 1) rfl (.inl rfl)) (we_int)) (we_callX z_len (fun h => pe_callB (CallR.or call_len_seq call_len_str) (by rfl) T.n_len bb_len h) (wa_cons (we_ix (we_var (i := 0) rfl (.inl rfl)) (we_int)) (wa_nil))))) (we_op op_mulD z_mul (we_int) (we_var (i := 1) rfl (.inl rfl))))) (wb_cons (ws_set (i := 4) nd rfl (.inl rfl) (we_op op_mod z_mod (we_op op_pow z_pow (we_op op_addD z_add (we_var (i := 3) rfl (.inl rfl)) (we_op op_mulD z_mul (we_ix (we_var (i := 2) rfl (.inl rfl)) (we_op op_mod z_mod (we_var (i := 1) rfl (.inl rfl)) (we_int))) (we_op op_addD z_add (we_var (i := 1) rfl (.inl rfl)) (we_int)))) (we_int)) (we_int))) (wb_one (ws_ret (we_op op_mod z_mod (we_op op_addD z_add (we_var (i := 4) rfl (.inl rfl)) (we_op op_mulD z_mul (we_ix (we_var (i := 2) rfl (.inl rfl)) (we_op op_mod z_mod (we_op op_addD z_add (we_var (i := 1) rfl (.inl rfl)) (we_int)) (we_int))) (we_var (i := 3) rfl (.inl rfl)))) (we_int)))))))))
theorem ok_f_law_put (T : Txt K mg) : FnG P w K mg base CX0 1 T.a_f_law_put T.d_f_law_put ["_law_row", "_law_at", "_law_thing"] (spOf K S_f_law_put) := by
  refine fn_ok T.F_f_law_put sc_f_law_put rfl (fun cdv A outer s H E hr hgd => ?_) vc_f_law_put
  have nd := sc_f_law_put.nd
  exact wb_one (ws_ret (we_op op_addD z_add (we_op op_addD z_add (we_sl (m := false) (we_var (i := 0) rfl (.inl rfl)) wo_none (wo_some (we_var (i := 1) rfl (.inl rfl)))) (we_tup (wa_cons (we_var (i := 2) rfl (.inl rfl)) (wa_nil)))) (we_sl (m := false) (we_var (i := 0) rfl (.inl rfl)) (wo_some (we_op op_addD z_add (we_var (i := 1) rfl (.inl rfl)) (we_int))) wo_none)))
theorem ok_f_law_same (T : Txt K mg) : FnG P w K mg base CX0 1 T.a_f_law_same T.d_f_law_same ["_law_found", "_law_due"] (spOf K S_f_law_same) := by
  refine fn_ok T.F_f_law_same sc_f_law_same rfl (fun cdv A outer s H E hr hgd => ?_) vc_f_law_same
  have nd := sc_f_law_same.nd
  exact wb_one (ws_ret (we_cmp (op_eqC hr.units) z_eqB (we_callX z_repr (fun h => pe_callB (call_reprD hgd hr.units) (by rfl) T.n_repr bb_repr h) (wa_cons (we_var (i := 0) rfl (.inl rfl)) (wa_nil))) (we_callX z_repr (fun h => pe_callB (call_reprD hgd hr.units) (by rfl) T.n_repr bb_repr h) (wa_cons (we_var (i := 1) rfl (.inl rfl)) (wa_nil))) ((nomark _))))
theorem ok_f_law_ways (T : Txt K mg) : FnG P w K mg base CX0 1 T.a_f_law_ways T.d_f_law_ways ["_law_system_here", "_law_work_here"] (spOf K S_f_law_ways) := by
  refine fn_okP T.F_f_law_ways sc_f_law_ways rfl (fun cdv A outer s H E hr hgd => ?_) vc_f_law_ways
  have nd := sc_f_law_ways.nd
  exact wb_cons (ws_asg (we_sl (m := false) (we_var (i := 0) rfl (.inl rfl)) wo_none (wo_some (we_int))) (wg_tup rfl (wgs_cons (wg_name (i := 2) nd rfl (.inl rfl)) (wgs_cons (wg_name (i := 3) nd rfl (.inl rfl)) (wgs_cons (wg_name (i := 4) nd rfl (.inl rfl)) (wgs_nil)))))) (wb_cons (ws_asg (we_ix (we_var (i := 4) rfl (.inl rfl)) (we_var (i := 1) rfl (.inl rfl))) (wg_tup rfl (wgs_cons (wg_name (i := 5) nd rfl (.inr rfl)) (wgs_cons (wg_name (i := 6) nd rfl (.inl rfl)) (wgs_cons (wg_name (i := 7) nd rfl (.inl rfl)) (wgs_nil)))))) (wb_cons (ws_set (i := 8) nd rfl (.inl rfl) (we_lst (m := true) (wa_nil))) (wb_cons (ws_for PassesOwn.never rfl (wi_range1 (by rfl) T.n_range (wa_cons (we_op op_addD z_add (we_op op_sub z_sub (we_var (i := 2) rfl (.inl rfl)) (we_var (i := 5) rfl (.inr (.inl rfl)))) (we_int)) (wa_nil))) (wg_name (i := 9) nd rfl (.inr rfl)) (wb_one (ws_for PassesOwn.never rfl (wi_seq (we_var (i := 7) rfl (.inl rfl))) (wg_name (i := 10) nd rfl (.inl rfl)) (wb_one (ws_if (wt_cmp (op_eqC hr.units) z_eqB (we_lc (m := false) (t := (.nm 11)) (own := [("_law_day", 11)]) rfl nd (wi_seq (we_ix (we_var (i := 3) rfl (.inl rfl)) (we_var (i := 10) rfl (.inl rfl)))) (blkOk_by (own := [("_law_day", 11)]) (N := N_f_law_ways) (by kernel_rfl)) (by simp [Tg.ix]) (fun _ _ _ _ _ => pg_name (i := 11) nd rfl (.inl rfl)) (fun _ _ _ _ _ => wts_one (wt_chain (op_leD hr.units0) z_le (op_ltD hr.units0) z_lt (we_var (i := 9) rfl (.inr (.inl rfl))) (we_var (i := 11) rfl (.inl rfl)) (we_op op_addD z_add (we_var (i := 9) rfl (.inr (.inl rfl))) (we_var (i := 5) rfl (.inr (.inl rfl)))))) (fun _ _ _ _ _ => we_var (i := 11) rfl (.inl rfl))) (we_lst (m := false) (wa_nil)) ((nomark _))) (wb_one (ws_expr (we_m PySem.F.slot_list_append PySem.F.type_list_append mt_append z_append (we_var (i := 8) rfl (.inl rfl)) (wa_cons (we_tup (wa_cons (we_var (i := 9) rfl (.inr (.inl rfl))) (wa_cons (we_var (i := 10) rfl (.inl rfl)) (wa_nil)))) (wa_nil)) (fun h1 h2 => pe_bm PySem.F.plainAttrs_list PySem.F.slot_list_append PySem.F.type_list_append mt_append h1 h2)))) (wb_nil)))))) (wb_one (ws_ret (we_callX z_tuple (fun h => pe_callTy call_tupleX (by rfl) T.n_tuple bb_tuple h) (wa_cons (we_var (i := 8) rfl (.inl rfl)) (wa_nil))))))))
theorem ok_f_law_clash (T : Txt K mg) : FnG P w K mg base CX0 1 T.a_f_law_clash T.d_f_law_clash ["_law_system_here", "_law_one", "_law_way", "_law_other", "_law_other_way"] (spOf K S_f_law_clash) := by
  refine fn_ok T.F_f_law_clash sc_f_law_clash rfl (fun cdv A outer s H E hr hgd => ?_) vc_f_law_clash
  have nd := sc_f_law_clash.nd
  exact wb_cons (ws_set (i := 5) nd rfl (.inl rfl) (we_op op_addD z_add (we_ix (we_var (i := 2) rfl (.inl rfl)) (we_int)) (we_ix (we_ix (we_ix (we_var (i := 0) rfl (.inl rfl)) (we_int)) (we_var (i := 1) rfl (.inl rfl))) (we_int)))) (wb_cons (ws_set (i := 6) nd rfl (.inl rfl) (we_op op_addD z_add (we_ix (we_var (i := 4) rfl (.inl rfl)) (we_int)) (we_ix (we_ix (we_ix (we_var (i := 0) rfl (.inl rfl)) (we_int)) (we_var (i := 3) rfl (.inl rfl))) (we_int)))) (wb_cons (ws_if ((ww_and (wt_cmp (op_eqC hr.units) z_eqB (we_ix (we_var (i := 2) rfl (.inl rfl)) (we_int)) (we_ix (we_var (i := 4) rfl (.inl rfl)) (we_int)) ((nomark _))) (ww_and (wt_cmp (op_ltD hr.units0) z_lt (we_ix (we_var (i := 2) rfl (.inl rfl)) (we_int)) (we_var (i := 6) rfl (.inl rfl)) ((nomark _))) (ww_and1 (wt_cmp (op_ltD hr.units0) z_lt (we_ix (we_var (i := 4) rfl (.inl rfl)) (we_int)) (we_var (i := 5) rfl (.inl rfl)) ((nomark _)))))).wt) (wb_one (ws_ret (we_bl))) (wb_nil)) (wb_cons (ws_if ((ww_and (wt_cmp (op_inB hr.units) z_inB (we_var (i := 1) rfl (.inl rfl)) (we_ix (we_ix (we_ix (we_var (i := 0) rfl (.inl rfl)) (we_int)) (we_var (i := 3) rfl (.inl rfl))) (we_int)) (by rfl)) (ww_and1 (wt_cmp (op_ltD hr.units0) z_lt (we_ix (we_var (i := 4) rfl (.inl rfl)) (we_int)) (we_var (i := 5) rfl (.inl rfl)) ((nomark _))))).wt) (wb_one (ws_ret (we_bl))) (wb_nil)) (wb_one (ws_ret (we_and (we_cmp (op_inB hr.units) z_inB (we_var (i := 3) rfl (.inl rfl)) (we_ix (we_ix (we_ix (we_var (i := 0) rfl (.inl rfl)) (we_int)) (we_var (i := 1) rfl (.inl rfl))) (we_int)) (by rfl)) (we_one (we_cmp (op_ltD hr.units0) z_lt (we_ix (we_var (i := 2) rfl (.inl rfl)) (we_int)) (we_var (i := 6) rfl (.inl rfl)) ((nomark _))))))))))
theorem ok_f_law_stands (T : Txt K mg) : FnG P w K mg base CX0 1 T.a_f_law_stands T.d_f_law_stands ["_law_system_here", "_law_found", "_law_work_here"] (spOf K S_f_law_stands) := by
  refine fn_ok T.F_f_law_stands sc_f_law_stands rfl (fun cdv A outer s H E hr hgd => ?_) vc_f_law_stands
  have nd := sc_f_law_stands.nd
  exact wb_cons (ws_set (i := 3) nd rfl (.inl rfl) (we_ix (we_ix (we_ix (we_var (i := 0) rfl (.inl rfl)) (we_int)) (we_var (i := 2) rfl (.inl rfl))) (we_int))) (wb_one (ws_ret (we_and (we_cmp (op_notInB hr.units) z_inB (we_var (i := 2) rfl (.inl rfl)) (we_var (i := 1) rfl (.inr (.inl rfl))) (by rfl)) (we_one (we_cmp (op_eqC hr.units) z_eqB (we_callX z_len (fun h => pe_callB (CallR.or call_len_seq call_len_str) (by rfl) T.n_len bb_len h) (wa_cons (we_lc (m := false) (t := (.nm 4)) (own := [("_law_one", 4)]) rfl nd (wi_seq (we_var (i := 3) rfl (.inl rfl))) (blkOk_by (own := [("_law_one", 4)]) (N := N_f_law_stands) (by kernel_rfl)) (by simp [Tg.ix]) (fun _ _ _ _ _ => pg_name (i := 4) nd rfl (.inl rfl)) (fun _ _ _ _ _ => wts_one (wt_cmp (op_inB hr.units) z_inB (we_var (i := 4) rfl (.inl rfl)) (we_var (i := 1) rfl (.inr (.inl rfl))) (by rfl))) (fun _ _ _ _ _ => we_var (i := 4) rfl (.inl rfl))) (wa_nil))) (we_callX z_len (fun h => pe_callB (CallR.or call_len_seq call_len_str) (by rfl) T.n_len bb_len h) (wa_cons (we_var (i := 3) rfl (.inl rfl)) (wa_nil))) ((nomark _)))))))
theorem okH_f_law_is_kind (T : Txt K mg) : FnX P w K mg base CX0 1 T.a_f_law_is_kind T.d_f_law_is_kind ["_law_error", "_law_at"] (spXP K S_f_law_is_kind) := by
  refine fn_okE T.F_f_law_is_kind sc_f_law_is_kind (fun _ _ => rfl) (fun cdv A outer s H E p e hr hgd hot hp => ?_) vc_f_law_is_kind
  have nd := sc_f_law_is_kind.nd
  exact wb_cons (ws_if ((ww_or (wt_not (wt_val (we_isPC hp (xk T) (is_WishError T) (by rfl) T.n_isinstance (by rfl) T.mC_WishError (we_var (i := 0) rfl (.inl rfl))))) (ww_or1 (wt_not (wt_val (we_isPT hp (xk T) (is_ValueError T) (by rfl) T.n_isinstance (by rfl) T.n_ValueError bb_ValueError (we_var (i := 0) rfl (.inl rfl))))))).wt) (wb_one (ws_ret (we_bl))) (wb_nil)) (wb_cons (ws_set (i := 2) nd rfl (.inl rfl) (we_lst (m := false) (wa_cons (we_isPC hp (xk T) (is_TooMany T) (by rfl) T.n_isinstance (by rfl) T.mC_TooMany (we_var (i := 0) rfl (.inl rfl))) (wa_cons (we_isPC hp (xk T) (is_NoPlan T) (by rfl) T.n_isinstance (by rfl) T.mC_NoPlan (we_var (i := 0) rfl (.inl rfl))) (wa_cons (we_isPC hp (xk T) (is_NoRoom T) (by rfl) T.n_isinstance (by rfl) T.mC_NoRoom (we_var (i := 0) rfl (.inl rfl))) (wa_nil)))))) (wb_cons (ws_set (i := 2) nd rfl (.inl rfl) (we_op op_addD z_add (we_var (i := 2) rfl (.inl rfl)) (we_lst (m := false) (wa_cons (we_isPC hp (xk T) (is_NotEven T) (by rfl) T.n_isinstance (by rfl) T.mC_NotEven (we_var (i := 0) rfl (.inl rfl))) (wa_cons (we_isPC hp (xk T) (is_NoDeed T) (by rfl) T.n_isinstance (by rfl) T.mC_NoDeed (we_var (i := 0) rfl (.inl rfl))) (wa_cons (we_isPC hp (xk T) (is_NoText T) (by rfl) T.n_isinstance (by rfl) T.mC_NoText (we_var (i := 0) rfl (.inl rfl))) (wa_nil))))))) (wb_one (ws_ret (we_cmp (op_eqC hr.units) z_eqB (we_var (i := 2) rfl (.inl rfl)) (we_lcH (m := false) (t := (.nm 3)) (own := [("_law_k", 3)]) hot nd (wi_range1H (by rfl) T.n_range (wa_cons (we_int) (wa_nil))) (blkOk_by (own := [("_law_k", 3)]) (N := N_f_law_is_kind) (by kernel_rfl)) (by simp [Tg.ix]) (fun _ _ _ _ _ _ hot => pg_name (i := 3) nd rfl (.inl rfl)) (fun _ _ _ _ _ _ hot => wts_nil) (fun _ _ _ _ _ _ hot => we_cmp (op_eqC hr.units) z_eqB (we_var (i := 3) rfl (.inl rfl)) (we_var (i := 1) rfl (.inr (.inl rfl))) ((nomark _)))) ((nomark _)))))))
theorem ok_p_is_behind (T : Txt K mg) : FnG P w K mg base CX0 2 T.a_p_is_behind T.d_p_is_behind ["system", "one", "way", "other", "other_way"] (spOf K S_p_is_behind) := by
  refine fn_ok T.F_p_is_behind sc_p_is_behind rfl (fun cdv A outer s H E hr hgd => ?_) vc_p_is_behind
  have nd := sc_p_is_behind.nd
  exact wb_one (ws_ret (we_and (we_cmp (op_inB hr.units) z_inB (we_var (i := 1) rfl (.inl rfl)) (we_ix (we_ix (we_ix (we_var (i := 0) rfl (.inl rfl)) (we_int)) (we_var (i := 3) rfl (.inl rfl))) (we_int)) (by rfl)) (we_one (we_cmp (op_ltD hr.units0) z_lt (we_ix (we_var (i := 4) rfl (.inl rfl)) (we_int)) (we_call (ok_p_end_of T) (hr.mono (by decide)) hgd (by rfl) T.m_p_end_of T.F_p_end_of.kp T.b_p_end_of (wa_cons (we_var (i := 0) rfl (.inl rfl)) (wa_cons (we_var (i := 1) rfl (.inl rfl)) (wa_cons (we_var (i := 2) rfl (.inl rfl)) (wa_nil))))) ((nomark _))))))
theorem ok_f_law_rows_of (T : Txt K mg) : FnG P w K mg base CX0 2 T.a_f_law_rows_of T.d_f_law_rows_of ["_law_deck_here", "_law_high", "_law_some"] (spOf K S_f_law_rows_of) := by
  refine fn_ok T.F_f_law_rows_of sc_f_law_rows_of rfl (fun cdv A outer s H E hr hgd => ?_) vc_f_law_rows_of
  have nd := sc_f_law_rows_of.nd
  exact wb_one (ws_ret (we_callX z_tuple (fun h => pe_callTy call_tupleX (by rfl) T.n_tuple bb_tuple h) (wa_cons (we_lc (m := false) (t := (.nm 3)) (own := [("_law_one", 3)]) rfl nd (wi_range1 (by rfl) T.n_range (wa_cons (we_op op_addD z_add (we_var (i := 1) rfl (.inl rfl)) (we_int)) (wa_nil))) (blkOk_by (own := [("_law_one", 3)]) (N := N_f_law_rows_of) (by kernel_rfl)) (by simp [Tg.ix]) (fun _ _ _ _ _ => pg_name (i := 3) nd rfl (.inl rfl)) (fun _ _ _ _ _ => wts_one (wt_cmp (op_eqC hr.units) z_eqB (we_op op_mod z_mod (we_call (ok_f_law_next T) (hr.mono (by decide)) hgd (by rfl) T.m_f_law_next T.F_f_law_next.kp T.b_f_law_next (wa_cons (we_var (i := 0) rfl (.inr (.inl rfl))) (wa_nil))) (we_var (i := 2) rfl (.inr (.inl rfl)))) (we_int) ((nomark _)))) (fun _ _ _ _ _ => we_var (i := 3) rfl (.inl rfl))) (wa_nil))))
theorem ok_f_law_wish (T : Txt K mg) : FnG P w K mg base CX0 2 T.a_f_law_wish T.d_f_law_wish ["_law_deck_here", "_law_works", "_law_days"] (spOf K S_f_law_wish) := by
  refine fn_ok T.F_f_law_wish sc_f_law_wish rfl (fun cdv A outer s H E hr hgd => ?_) vc_f_law_wish
  have nd := sc_f_law_wish.nd
  exact wb_cons (ws_set (i := 3) nd rfl (.inl rfl) (we_ix (we_lst (m := false) (wa_cons (we_int) (wa_cons (we_int) (wa_cons (we_int) (wa_nil))))) (we_op op_mod z_mod (we_call (ok_f_law_next T) (hr.mono (by decide)) hgd (by rfl) T.m_f_law_next T.F_f_law_next.kp T.b_f_law_next (wa_cons (we_var (i := 0) rfl (.inl rfl)) (wa_nil))) (we_int)))) (wb_cons (ws_set (i := 4) nd rfl (.inl rfl) (we_ix (we_lst (m := false) (wa_cons (we_op op_addD z_add (we_int) (we_op op_mod z_mod (we_call (ok_f_law_next T) (hr.mono (by decide)) hgd (by rfl) T.m_f_law_next T.F_f_law_next.kp T.b_f_law_next (wa_cons (we_var (i := 0) rfl (.inl rfl)) (wa_nil))) (we_int))) (wa_cons (we_op op_addD z_add (we_int) (we_op op_mod z_mod (we_call (ok_f_law_next T) (hr.mono (by decide)) hgd (by rfl) T.m_f_law_next T.F_f_law_next.kp T.b_f_law_next (wa_cons (we_var (i := 0) rfl (.inl rfl)) (wa_nil))) (we_int))) (wa_nil)))) (we_op op_mod z_mod (we_call (ok_f_law_next T) (hr.mono (by decide)) hgd (by rfl) T.m_f_law_next T.F_f_law_next.kp T.b_f_law_next (wa_cons (we_var (i := 0) rfl (.inl rfl)) (wa_nil))) (we_int)))) (wb_one (ws_ret (we_tup (wa_cons (we_op op_mod z_mod (we_call (ok_f_law_next T) (hr.mono (by decide)) hgd (by rfl) T.m_f_law_next T.F_f_law_next.kp T.b_f_law_next (wa_cons (we_var (i := 0) rfl (.inl rfl)) (wa_nil))) (we_var (i := 1) rfl (.inl rfl))) (wa_cons (we_op op_mod z_mod (we_call (ok_f_law_next T) (hr.mono (by decide)) hgd (by rfl) T.m_f_law_next T.F_f_law_next.kp T.b_f_law_next (wa_cons (we_var (i := 0) rfl (.inl rfl)) (wa_nil))) (we_int)) (wa_cons (we_op op_mod z_mod (we_call (ok_f_law_next T) (hr.mono (by decide)) hgd (by rfl) T.m_f_law_next T.F_f_law_next.kp T.b_f_law_next (wa_cons (we_var (i := 0) rfl (.inl rfl)) (wa_nil))) (we_op op_addD z_add (we_var (i := 2) rfl (.inl rfl)) (we_int))) (wa_cons (we_var (i := 4) rfl (.inl rfl)) (wa_cons (we_op op_mod z_mod (we_call (ok_f_law_next T) (hr.mono (by decide)) hgd (by rfl) T.m_f_law_next T.F_f_law_next.kp T.b_f_law_next (wa_cons (we_var (i := 0) rfl (.inl rfl)) (wa_nil))) (we_var (i := 3) rfl (.inl rfl))) (wa_nil))))))))))
theorem ok_f_law_whole (T : Txt K mg) : FnG P w K mg base CX0 2 T.a_f_law_whole T.d_f_law_whole ["_law_system_here"] (spOf K S_f_law_whole) := by
  refine fn_ok T.F_f_law_whole sc_f_law_whole rfl (fun cdv A outer s H E hr hgd => ?_) vc_f_law_whole
  have nd := sc_f_law_whole.nd
  exact wb_one (ws_ret (we_callX z_tuple (fun h => pe_callTy call_tupleX (by rfl) T.n_tuple bb_tuple h) (wa_cons (we_lc (m := false) (t := (.nm 1)) (own := [("_law_work_here", 1)]) rfl nd (wi_range1 (by rfl) T.n_range (wa_cons (we_callX z_len (fun h => pe_callB (CallR.or call_len_seq call_len_str) (by rfl) T.n_len bb_len h) (wa_cons (we_ix (we_var (i := 0) rfl (.inr (.inl rfl))) (we_int)) (wa_nil))) (wa_nil))) (blkOk_by (own := [("_law_work_here", 1)]) (N := N_f_law_whole) (by kernel_rfl)) (by simp [Tg.ix]) (fun _ _ _ _ _ => pg_name (i := 1) nd rfl (.inl rfl)) (fun _ _ _ _ _ => wts_nil) (fun _ _ _ _ _ => we_call (ok_f_law_ways T) (hr.mono (by decide)) hgd (by rfl) T.m_f_law_ways T.F_f_law_ways.kp T.b_f_law_ways (wa_cons (we_var (i := 0) rfl (.inr (.inl rfl))) (wa_cons (we_var (i := 1) rfl (.inl rfl)) (wa_nil))))) (wa_nil))))
theorem ok_f_law_order (T : Txt K mg) : FnG P w K mg base CX0 2 T.a_f_law_order T.d_f_law_order ["_law_deck_here", "_law_system_here"] (spOf K S_f_law_order) := by
  refine fn_okP T.F_f_law_order sc_f_law_order rfl (fun cdv A outer s H E hr hgd => ?_) vc_f_law_order
  have nd := sc_f_law_order.nd
  exact wb_cons (ws_set (i := 2) nd rfl (.inr rfl) (we_lst (m := true) (wa_nil))) (wb_cons (ws_while PassesOwn.never (wt_cmp (op_ltD hr.units0) z_lt (we_callX z_len (fun h => pe_callB (CallR.or call_len_seq call_len_str) (by rfl) T.n_len bb_len h) (wa_cons (we_var (i := 2) rfl (.inr (.inl rfl))) (wa_nil))) (we_callX z_len (fun h => pe_callB (CallR.or call_len_seq call_len_str) (by rfl) T.n_len bb_len h) (wa_cons (we_ix (we_var (i := 1) rfl (.inr (.inl rfl))) (we_int)) (wa_nil))) ((nomark _))) (wb_cons (ws_set (i := 3) nd rfl (.inl rfl) (we_call (ok_f_law_next T) (hr.mono (by decide)) hgd (by rfl) T.m_f_law_next T.F_f_law_next.kp T.b_f_law_next (wa_cons (we_var (i := 0) rfl (.inl rfl)) (wa_nil)))) (wb_cons (ws_setLc (m := false) (t := (.nm 5)) (i := 4) (own := [("_law_work_here", 5)]) rfl nd rfl rfl (sw_true rfl rfl rfl (by decide +kernel)) (wi_range1 (by rfl) T.n_range (wa_cons (we_callX z_len (fun h => pe_callB (CallR.or call_len_seq call_len_str) (by rfl) T.n_len bb_len h) (wa_cons (we_ix (we_var (i := 1) rfl (.inr (.inl rfl))) (we_int)) (wa_nil))) (wa_nil))) (blkOk_by (own := [("_law_work_here", 5)]) (N := N_f_law_order) (by kernel_rfl)) (by simp [Tg.ix]) (fun _ _ _ _ _ => pg_name (i := 5) nd rfl (.inl rfl)) (fun _ _ _ _ _ => wts_one (wt_val (we_call (ok_f_law_stands T) (hr.mono (by decide)) hgd (by rfl) T.m_f_law_stands T.F_f_law_stands.kp T.b_f_law_stands (wa_cons (we_var (i := 1) rfl (.inr (.inl rfl))) (wa_cons (we_var (i := 2) rfl (.inr (.inl rfl))) (wa_cons (we_var (i := 5) rfl (.inl rfl)) (wa_nil))))))) (fun _ _ _ _ _ => we_var (i := 5) rfl (.inl rfl))) (wb_one (ws_expr (we_m PySem.F.slot_list_append PySem.F.type_list_append mt_append z_append (we_var (i := 2) rfl (.inr (.inl rfl))) (wa_cons (we_ix (we_var (i := 4) rfl (.inl rfl)) (we_op op_mod z_mod (we_var (i := 3) rfl (.inl rfl)) (we_callX z_len (fun h => pe_callB (CallR.or call_len_seq call_len_str) (by rfl) T.n_len bb_len h) (wa_cons (we_var (i := 4) rfl (.inl rfl)) (wa_nil))))) (wa_nil)) (fun h1 h2 => pe_bm PySem.F.plainAttrs_list PySem.F.slot_list_append PySem.F.type_list_append mt_append h1 h2))))))) (wb_one (ws_ret (we_callX z_tuple (fun h => pe_callTy call_tupleX (by rfl) T.n_tuple bb_tuple h) (wa_cons (we_var (i := 2) rfl (.inr (.inl rfl))) (wa_nil))))))
theorem ok_f_law_fits (T : Txt K mg) : FnG P w K mg base CX0 2 T.a_f_law_fits T.d_f_law_fits ["_law_system_here", "_law_given", "_law_work_here", "_law_way"] (spOf K S_f_law_fits) := by
  refine fn_ok T.F_f_law_fits sc_f_law_fits rfl (fun cdv A outer s H E hr hgd => ?_) vc_f_law_fits
  have nd := sc_f_law_fits.nd
  exact wb_one (ws_ret (we_cmp (op_eqC hr.units) z_eqB (we_lc (m := false) (t := (.tp [4, 5])) (own := [("_law_other", 4), ("_law_other_way", 5)]) rfl nd (wi_seq (we_var (i := 1) rfl (.inl rfl))) (blkOk_by (own := [("_law_other", 4), ("_law_other_way", 5)]) (N := N_f_law_fits) (by kernel_rfl)) (by simp [Tg.ix]) (fun _ _ _ _ _ => pg_tup rfl (pgs_cons (pg_name (i := 4) nd rfl (.inl rfl)) (pgs_cons (pg_name (i := 5) nd rfl (.inl rfl)) (pgs_nil)))) (fun _ _ _ _ _ => wts_one (wt_val (we_call (ok_f_law_clash T) (hr.mono (by decide)) hgd (by rfl) T.m_f_law_clash T.F_f_law_clash.kp T.b_f_law_clash (wa_cons (we_var (i := 0) rfl (.inr (.inl rfl))) (wa_cons (we_var (i := 2) rfl (.inr (.inl rfl))) (wa_cons (we_var (i := 3) rfl (.inr (.inl rfl))) (wa_cons (we_var (i := 4) rfl (.inl rfl)) (wa_cons (we_var (i := 5) rfl (.inl rfl)) (wa_nil))))))))) (fun _ _ _ _ _ => we_int)) (we_lst (m := false) (wa_nil)) ((nomark _))))
theorem ok_p_clash (T : Txt K mg) : FnG P w K mg base CX0 3 T.a_p_clash T.d_p_clash ["system", "one", "way", "other", "other_way"] (spOf K S_p_clash) := by
  refine fn_ok T.F_p_clash sc_p_clash rfl (fun cdv A outer s H E hr hgd => ?_) vc_p_clash
  have nd := sc_p_clash.nd
  exact wb_cons (ws_if ((ww_and (wt_cmp (op_eqC hr.units) z_eqB (we_ix (we_var (i := 2) rfl (.inl rfl)) (we_int)) (we_ix (we_var (i := 4) rfl (.inl rfl)) (we_int)) ((nomark _))) (ww_and (wt_cmp (op_ltD hr.units0) z_lt (we_ix (we_var (i := 2) rfl (.inl rfl)) (we_int)) (we_call (ok_p_end_of T) (hr.mono (by decide)) hgd (by rfl) T.m_p_end_of T.F_p_end_of.kp T.b_p_end_of (wa_cons (we_var (i := 0) rfl (.inl rfl)) (wa_cons (we_var (i := 3) rfl (.inl rfl)) (wa_cons (we_var (i := 4) rfl (.inl rfl)) (wa_nil))))) ((nomark _))) (ww_and1 (wt_cmp (op_ltD hr.units0) z_lt (we_ix (we_var (i := 4) rfl (.inl rfl)) (we_int)) (we_call (ok_p_end_of T) (hr.mono (by decide)) hgd (by rfl) T.m_p_end_of T.F_p_end_of.kp T.b_p_end_of (wa_cons (we_var (i := 0) rfl (.inl rfl)) (wa_cons (we_var (i := 1) rfl (.inl rfl)) (wa_cons (we_var (i := 2) rfl (.inl rfl)) (wa_nil))))) ((nomark _)))))).wt) (wb_one (ws_ret (we_bl))) (wb_nil)) (wb_one (ws_ret (we_or (we_call (ok_p_is_behind T) (hr.mono (by decide)) hgd (by rfl) T.m_p_is_behind T.F_p_is_behind.kp T.b_p_is_behind (wa_cons (we_var (i := 0) rfl (.inl rfl)) (wa_cons (we_var (i := 1) rfl (.inl rfl)) (wa_cons (we_var (i := 2) rfl (.inl rfl)) (wa_cons (we_var (i := 3) rfl (.inl rfl)) (wa_cons (we_var (i := 4) rfl (.inl rfl)) (wa_nil))))))) (we_one (we_call (ok_p_is_behind T) (hr.mono (by decide)) hgd (by rfl) T.m_p_is_behind T.F_p_is_behind.kp T.b_p_is_behind (wa_cons (we_var (i := 0) rfl (.inl rfl)) (wa_cons (we_var (i := 3) rfl (.inl rfl)) (wa_cons (we_var (i := 4) rfl (.inl rfl)) (wa_cons (we_var (i := 1) rfl (.inl rfl)) (wa_cons (we_var (i := 2) rfl (.inl rfl)) (wa_nil)))))))))))
theorem ok_f_law_work (T : Txt K mg) : FnG P w K mg base CX0 3 T.a_f_law_work T.d_f_law_work ["_law_deck_here", "_law_number", "_law_hands", "_law_length"] (spOf K S_f_law_work) := by
  refine fn_ok T.F_f_law_work sc_f_law_work rfl (fun cdv A outer s H E hr hgd => ?_) vc_f_law_work
  have nd := sc_f_law_work.nd
  exact wb_cons (ws_set (i := 4) nd rfl (.inl rfl) (we_op op_addD z_add (we_int) (we_op op_mod z_mod (we_call (ok_f_law_next T) (hr.mono (by decide)) hgd (by rfl) T.m_f_law_next T.F_f_law_next.kp T.b_f_law_next (wa_cons (we_var (i := 0) rfl (.inr (.inl rfl))) (wa_nil))) (we_var (i := 3) rfl (.inl rfl))))) (wb_cons (ws_set (i := 5) nd rfl (.inl rfl) (we_call (ok_f_law_rows_of T) (hr.mono (by decide)) hgd (by rfl) T.m_f_law_rows_of T.F_f_law_rows_of.kp T.b_f_law_rows_of (wa_cons (we_var (i := 0) rfl (.inr (.inl rfl))) (wa_cons (we_op op_sub z_sub (we_var (i := 1) rfl (.inl rfl)) (we_int)) (wa_cons (we_ix (we_lst (m := false) (wa_cons (we_int) (wa_cons (we_int) (wa_cons (we_int) (wa_nil))))) (we_op op_mod z_mod (we_call (ok_f_law_next T) (hr.mono (by decide)) hgd (by rfl) T.m_f_law_next T.F_f_law_next.kp T.b_f_law_next (wa_cons (we_var (i := 0) rfl (.inr (.inl rfl))) (wa_nil))) (we_int))) (wa_nil)))))) (wb_cons (ws_set (i := 6) nd rfl (.inr rfl) (we_op op_mod z_mod (we_call (ok_f_law_next T) (hr.mono (by decide)) hgd (by rfl) T.m_f_law_next T.F_f_law_next.kp T.b_f_law_next (wa_cons (we_var (i := 0) rfl (.inr (.inl rfl))) (wa_nil))) (we_int))) (wb_cons (ws_set (i := 7) nd rfl (.inl rfl) (we_callX z_tuple (fun h => pe_callTy call_tupleX (by rfl) T.n_tuple bb_tuple h) (wa_cons (we_lc (m := false) (t := (.nm 8)) (own := [("_law_hand", 8)]) rfl nd (wi_range1 (by rfl) T.n_range (wa_cons (we_var (i := 2) rfl (.inl rfl)) (wa_nil))) (blkOk_by (own := [("_law_hand", 8)]) (N := N_f_law_work) (by kernel_rfl)) (by simp [Tg.ix]) (fun _ _ _ _ _ => pg_name (i := 8) nd rfl (.inl rfl)) (fun _ _ _ _ _ => wts_one ((ww_or (wt_cmp (op_eqC hr.units) z_eqB (we_var (i := 6) rfl (.inr (.inl rfl))) (we_int) ((nomark _))) (ww_or1 (wt_cmp (op_eqC hr.units) z_eqB (we_op op_mod z_mod (we_call (ok_f_law_next T) (hr.mono (by decide)) hgd (by rfl) T.m_f_law_next T.F_f_law_next.kp T.b_f_law_next (wa_cons (we_var (i := 0) rfl (.inr (.inl rfl))) (wa_nil))) (we_int)) (we_int) ((nomark _))))).wt)) (fun _ _ _ _ _ => we_var (i := 8) rfl (.inl rfl))) (wa_nil)))) (wb_cons (ws_if (wt_cmp (op_eqC hr.units) z_eqB (we_var (i := 7) rfl (.inl rfl)) (we_tup (wa_nil)) ((nomark _))) (wb_one (ws_set (i := 7) nd rfl (.inl rfl) (we_tup (wa_cons (we_op op_mod z_mod (we_call (ok_f_law_next T) (hr.mono (by decide)) hgd (by rfl) T.m_f_law_next T.F_f_law_next.kp T.b_f_law_next (wa_cons (we_var (i := 0) rfl (.inr (.inl rfl))) (wa_nil))) (we_var (i := 2) rfl (.inl rfl))) (wa_nil))))) (wb_nil)) (wb_one (ws_ret (we_tup (wa_cons (we_var (i := 4) rfl (.inl rfl)) (wa_cons (we_var (i := 5) rfl (.inl rfl)) (wa_cons (we_var (i := 7) rfl (.inl rfl)) (wa_nil)))))))))))
theorem ok_f_law_by (T : Txt K mg) : FnG P w K mg base CX0 3 T.a_f_law_by T.d_f_law_by ["_law_system_here", "_law_field", "_law_order_here"] (spOf K S_f_law_by) := by
  refine fn_okP T.F_f_law_by sc_f_law_by rfl (fun cdv A outer s H E hr hgd => ?_) vc_f_law_by
  have nd := sc_f_law_by.nd
  exact wb_cons (ws_set (i := 3) nd rfl (.inr rfl) (we_lst (m := true) (wa_nil))) (wb_cons (ws_for PassesOwn.never rfl (wi_seq (we_var (i := 2) rfl (.inl rfl))) (wg_name (i := 4) nd rfl (.inr rfl)) (wb_cons (ws_setLc (m := false) (t := (.nm 6)) (i := 5) (own := [("_law_way", 6)]) rfl nd rfl rfl (sw_true rfl rfl rfl (by decide +kernel)) (wi_seq (we_ix (we_var (i := 1) rfl (.inl rfl)) (we_var (i := 4) rfl (.inr (.inl rfl))))) (blkOk_by (own := [("_law_way", 6)]) (N := N_f_law_by) (by kernel_rfl)) (by simp [Tg.ix]) (fun _ _ _ _ _ => pg_name (i := 6) nd rfl (.inl rfl)) (fun _ _ _ _ _ => wts_one (wt_val (we_call (ok_f_law_fits T) (hr.mono (by decide)) hgd (by rfl) T.m_f_law_fits T.F_f_law_fits.kp T.b_f_law_fits (wa_cons (we_var (i := 0) rfl (.inr (.inl rfl))) (wa_cons (we_var (i := 3) rfl (.inr (.inl rfl))) (wa_cons (we_var (i := 4) rfl (.inr (.inl rfl))) (wa_cons (we_var (i := 6) rfl (.inl rfl)) (wa_nil)))))))) (fun _ _ _ _ _ => we_var (i := 6) rfl (.inl rfl))) (wb_cons (ws_if (wt_cmp (op_eqC hr.units) z_eqB (we_var (i := 5) rfl (.inl rfl)) (we_lst (m := false) (wa_nil)) ((nomark _))) (wb_one (ws_ret (we_tup (wa_cons (we_non) (wa_cons (we_var (i := 4) rfl (.inr (.inl rfl))) (wa_nil)))))) (wb_nil)) (wb_one (ws_expr (we_m PySem.F.slot_list_append PySem.F.type_list_append mt_append z_append (we_var (i := 3) rfl (.inr (.inl rfl))) (wa_cons (we_tup (wa_cons (we_var (i := 4) rfl (.inr (.inl rfl))) (wa_cons (we_ix (we_var (i := 5) rfl (.inl rfl)) (we_int)) (wa_nil)))) (wa_nil)) (fun h1 h2 => pe_bm PySem.F.plainAttrs_list PySem.F.slot_list_append PySem.F.type_list_append mt_append h1 h2))))))) (wb_one (ws_ret (we_tup (wa_cons (we_callX z_tuple (fun h => pe_callTy call_tupleX (by rfl) T.n_tuple bb_tuple h) (wa_cons (we_lc (m := false) (t := (.tp [4, 6])) (own := [("_law_work_here", 4), ("_law_way", 6)]) rfl nd (wi_seq (we_callX (z_sortK (m := false)) (fun h => pe_callB cr_sortedAll (by rfl) T.n_sorted bb_sorted h) (wa_cons (we_var (i := 3) rfl (.inr (.inl rfl))) (wa_nil)))) (blkOk_by (own := [("_law_work_here", 4), ("_law_way", 6)]) (N := N_f_law_by) (by kernel_rfl)) (by simp [Tg.ix]) (fun _ _ _ _ _ => pg_tup rfl (pgs_cons (pg_name (i := 4) nd rfl (.inl rfl)) (pgs_cons (pg_name (i := 6) nd rfl (.inl rfl)) (pgs_nil)))) (fun _ _ _ _ _ => wts_nil) (fun _ _ _ _ _ => we_var (i := 6) rfl (.inl rfl))) (wa_nil))) (wa_cons (we_non) (wa_nil)))))))
theorem ok_p_goes_with_orders (T : Txt K mg) : FnG P w K mg base CX0 4 T.a_p_goes_with_orders T.d_p_goes_with_orders ["system", "given", "work", "way"] (spOf K S_p_goes_with_orders) := by
  refine fn_ok T.F_p_goes_with_orders sc_p_goes_with_orders rfl (fun cdv A outer s H E hr hgd => ?_) vc_p_goes_with_orders
  have nd := sc_p_goes_with_orders.nd
  exact wb_cons (ws_for PassesOwn.never rfl (wi_enum (by rfl) T.n_enumerate (we_var (i := 1) rfl (.inl rfl))) (wg_tup rfl (wgs_cons (wg_name (i := 4) nd rfl (.inl rfl)) (wgs_cons (wg_name (i := 5) nd rfl (.inl rfl)) (wgs_nil)))) (wb_one (ws_if ((ww_and (wt_cmp (op_notN) (z_isN (f := fun b => !b)) (we_var (i := 5) rfl (.inl rfl)) (we_non) ((nomark _))) (ww_and1 (wt_val (we_call (ok_p_clash T) (hr.mono (by decide)) hgd (by rfl) T.m_p_clash T.F_p_clash.kp T.b_p_clash (wa_cons (we_var (i := 0) rfl (.inl rfl)) (wa_cons (we_var (i := 2) rfl (.inl rfl)) (wa_cons (we_var (i := 3) rfl (.inl rfl)) (wa_cons (we_var (i := 4) rfl (.inl rfl)) (wa_cons (we_var (i := 5) rfl (.inl rfl)) (wa_nil)))))))))).wt) (wb_one (ws_ret (we_bl))) (wb_nil)))) (wb_one (ws_ret (we_bl)))
theorem ok_f_law_system (T : Txt K mg) : FnG P w K mg base CX0 4 T.a_f_law_system T.d_f_law_system ["_law_deck_here", "_law_days", "_law_hands", "_law_works", "_law_length", "_law_wishes"] (spOf K S_f_law_system) := by
  refine fn_ok T.F_f_law_system sc_f_law_system rfl (fun cdv A outer s H E hr hgd => ?_) vc_f_law_system
  have nd := sc_f_law_system.nd
  exact wb_cons (ws_set (i := 6) nd rfl (.inr rfl) (we_op op_addD z_add (we_int) (we_op op_mod z_mod (we_call (ok_f_law_next T) (hr.mono (by decide)) hgd (by rfl) T.m_f_law_next T.F_f_law_next.kp T.b_f_law_next (wa_cons (we_var (i := 0) rfl (.inr (.inl rfl))) (wa_nil))) (we_var (i := 1) rfl (.inl rfl))))) (wb_cons (ws_set (i := 7) nd rfl (.inr rfl) (we_ix (we_lst (m := false) (wa_cons (we_int) (wa_cons (we_int) (wa_cons (we_int) (wa_nil))))) (we_op op_mod z_mod (we_call (ok_f_law_next T) (hr.mono (by decide)) hgd (by rfl) T.m_f_law_next T.F_f_law_next.kp T.b_f_law_next (wa_cons (we_var (i := 0) rfl (.inr (.inl rfl))) (wa_nil))) (we_int)))) (wb_cons (ws_set (i := 8) nd rfl (.inr rfl) (we_callX z_tuple (fun h => pe_callTy call_tupleX (by rfl) T.n_tuple bb_tuple h) (wa_cons (we_lc (m := false) (t := (.nm 13)) (own := [("_law_hand", 13)]) rfl nd (wi_range1 (by rfl) T.n_range (wa_cons (we_op op_addD z_add (we_int) (we_op op_mod z_mod (we_call (ok_f_law_next T) (hr.mono (by decide)) hgd (by rfl) T.m_f_law_next T.F_f_law_next.kp T.b_f_law_next (wa_cons (we_var (i := 0) rfl (.inr (.inl rfl))) (wa_nil))) (we_var (i := 2) rfl (.inl rfl)))) (wa_nil))) (blkOk_by (own := [("_law_hand", 13)]) (N := N_f_law_system) (by kernel_rfl)) (by simp [Tg.ix]) (fun _ _ _ _ _ => pg_name (i := 13) nd rfl (.inl rfl)) (fun _ _ _ _ _ => wts_nil) (fun _ _ _ _ _ => we_call (ok_f_law_rows_of T) (hr.mono (by decide)) hgd (by rfl) T.m_f_law_rows_of T.F_f_law_rows_of.kp T.b_f_law_rows_of (wa_cons (we_var (i := 0) rfl (.inr (.inl rfl))) (wa_cons (we_op op_sub z_sub (we_var (i := 6) rfl (.inr (.inl rfl))) (we_int)) (wa_cons (we_var (i := 7) rfl (.inr (.inl rfl))) (wa_nil)))))) (wa_nil)))) (wb_cons (ws_set (i := 9) nd rfl (.inr rfl) (we_op op_mod z_mod (we_call (ok_f_law_next T) (hr.mono (by decide)) hgd (by rfl) T.m_f_law_next T.F_f_law_next.kp T.b_f_law_next (wa_cons (we_var (i := 0) rfl (.inr (.inl rfl))) (wa_nil))) (we_op op_addD z_add (we_var (i := 3) rfl (.inl rfl)) (we_int)))) (wb_cons (ws_set (i := 10) nd rfl (.inr rfl) (we_ix (we_lst (m := false) (wa_cons (we_callX z_min2 (fun h => pe_callB (call_min2 rfl) (by rfl) T.n_min bb_min h) (wa_cons (we_var (i := 4) rfl (.inl rfl)) (wa_cons (we_var (i := 6) rfl (.inr (.inl rfl))) (wa_nil)))) (wa_cons (we_var (i := 4) rfl (.inl rfl)) (wa_nil)))) (we_callX z_int (fun h => pe_callTy call_int1 (by rfl) T.n_int bb_int h) (wa_cons (we_cmp (op_eqC hr.units) z_eqB (we_op op_mod z_mod (we_call (ok_f_law_next T) (hr.mono (by decide)) hgd (by rfl) T.m_f_law_next T.F_f_law_next.kp T.b_f_law_next (wa_cons (we_var (i := 0) rfl (.inr (.inl rfl))) (wa_nil))) (we_int)) (we_int) ((nomark _))) (wa_nil))))) (wb_cons (ws_set (i := 11) nd rfl (.inl rfl) (we_callX z_tuple (fun h => pe_callTy call_tupleX (by rfl) T.n_tuple bb_tuple h) (wa_cons (we_lc (m := false) (t := (.nm 14)) (own := [("_law_work_here", 14)]) rfl nd (wi_range1 (by rfl) T.n_range (wa_cons (we_var (i := 9) rfl (.inr (.inl rfl))) (wa_nil))) (blkOk_by (own := [("_law_work_here", 14)]) (N := N_f_law_system) (by kernel_rfl)) (by simp [Tg.ix]) (fun _ _ _ _ _ => pg_name (i := 14) nd rfl (.inl rfl)) (fun _ _ _ _ _ => wts_nil) (fun _ _ _ _ _ => we_call (ok_f_law_work T) (hr.mono (by decide)) hgd (by rfl) T.m_f_law_work T.F_f_law_work.kp T.b_f_law_work (wa_cons (we_var (i := 0) rfl (.inr (.inl rfl))) (wa_cons (we_var (i := 14) rfl (.inl rfl)) (wa_cons (we_callX z_len (fun h => pe_callB (CallR.or call_len_seq call_len_str) (by rfl) T.n_len bb_len h) (wa_cons (we_var (i := 8) rfl (.inr (.inl rfl))) (wa_nil))) (wa_cons (we_var (i := 10) rfl (.inr (.inl rfl))) (wa_nil))))))) (wa_nil)))) (wb_cons (ws_set (i := 12) nd rfl (.inl rfl) (we_op op_mulD z_mul (we_op op_mod z_mod (we_call (ok_f_law_next T) (hr.mono (by decide)) hgd (by rfl) T.m_f_law_next T.F_f_law_next.kp T.b_f_law_next (wa_cons (we_var (i := 0) rfl (.inr (.inl rfl))) (wa_nil))) (we_op op_addD z_add (we_var (i := 5) rfl (.inl rfl)) (we_int))) (we_callX z_int (fun h => pe_callTy call_int1 (by rfl) T.n_int bb_int h) (wa_cons (we_cmp (op_gtD hr.units0) z_gt (we_var (i := 9) rfl (.inr (.inl rfl))) (we_int) ((nomark _))) (wa_nil))))) (wb_one (ws_ret (we_tup (wa_cons (we_var (i := 6) rfl (.inr (.inl rfl))) (wa_cons (we_var (i := 8) rfl (.inr (.inl rfl))) (wa_cons (we_var (i := 11) rfl (.inl rfl)) (wa_cons (we_callX z_tuple (fun h => pe_callTy call_tupleX (by rfl) T.n_tuple bb_tuple h) (wa_cons (we_lc (m := false) (t := (.nm 15)) (own := [("_law_k", 15)]) rfl nd (wi_range1 (by rfl) T.n_range (wa_cons (we_var (i := 12) rfl (.inl rfl)) (wa_nil))) (blkOk_by (own := [("_law_k", 15)]) (N := N_f_law_system) (by kernel_rfl)) (by simp [Tg.ix]) (fun _ _ _ _ _ => pg_name (i := 15) nd rfl (.inl rfl)) (fun _ _ _ _ _ => wts_nil) (fun _ _ _ _ _ => we_call (ok_f_law_wish T) (hr.mono (by decide)) hgd (by rfl) T.m_f_law_wish T.F_f_law_wish.kp T.b_f_law_wish (wa_cons (we_var (i := 0) rfl (.inr (.inl rfl))) (wa_cons (we_var (i := 9) rfl (.inr (.inl rfl))) (wa_cons (we_var (i := 6) rfl (.inr (.inl rfl))) (wa_nil)))))) (wa_nil))) (wa_nil))))))))))))))
theorem ok_p_first_way (T : Txt K mg) : FnG P w K mg base CX0 5 T.a_p_first_way T.d_p_first_way ["system", "given", "work", "row"] (spOf K S_p_first_way) := by
  refine fn_ok T.F_p_first_way sc_p_first_way rfl (fun cdv A outer s H E hr hgd => ?_) vc_p_first_way
  have nd := sc_p_first_way.nd
  exact wb_cons (ws_for PassesOwn.never rfl (wi_seq (we_var (i := 3) rfl (.inl rfl))) (wg_name (i := 4) nd rfl (.inl rfl)) (wb_one (ws_if (wt_val (we_call (ok_p_goes_with_orders T) (hr.mono (by decide)) hgd (by rfl) T.m_p_goes_with_orders T.F_p_goes_with_orders.kp T.b_p_goes_with_orders (wa_cons (we_var (i := 0) rfl (.inl rfl)) (wa_cons (we_var (i := 1) rfl (.inl rfl)) (wa_cons (we_var (i := 2) rfl (.inl rfl)) (wa_cons (we_var (i := 4) rfl (.inl rfl)) (wa_nil))))))) (wb_one (ws_ret (we_var (i := 4) rfl (.inl rfl)))) (wb_nil)))) (wb_one (ws_ret (we_non)))
theorem okx_p_by_order (T : Txt K mg) : FnG P w K mg base (L2N.CX P w) 6 T.a_p_by_order T.d_p_by_order ["system", "field", "order"] (spX K X_p_by_order) := by
  refine fn_okXP (x := "by_order") T.F_p_by_order sc_p_by_order rfl (fun cdv A outer s H E R hr hgd tk => ?_) vcx_p_by_order
  have nd := sc_p_by_order.nd
  exact wb_cons (ws_set (i := 3) nd rfl (.inl rfl) (we_op op_mulD z_mulM (we_lst (m := false) (wa_cons (we_non) (wa_nil))) (we_callX z_len (fun h => pe_callB (CallR.or call_len_seq call_len_str) (by rfl) T.n_len bb_len h) (wa_cons (we_var (i := 2) rfl (.inl rfl)) (wa_nil))))) (wb_cons (ws_for passes_cx rfl (wi_seq (we_var (i := 2) rfl (.inl rfl))) (wg_name (i := 4) nd rfl (.inl rfl)) (wb_cons (ws_set (i := 5) nd rfl (.inl rfl) (we_call (ok_p_first_way T) (hr.mono (by decide)) hgd (by rfl) T.m_p_first_way T.F_p_first_way.kp T.b_p_first_way (wa_cons (we_var (i := 0) rfl (.inl rfl)) (wa_cons (we_var (i := 3) rfl (.inl rfl)) (wa_cons (we_var (i := 4) rfl (.inl rfl)) (wa_cons (we_ix (we_var (i := 1) rfl (.inl rfl)) (we_var (i := 4) rfl (.inl rfl))) (wa_nil))))))) (wb_cons (ws_if (wt_cmp (op_isN) (z_isN (f := fun b => b)) (we_var (i := 5) rfl (.inl rfl)) (we_non) ((nomark _))) (wb_one (ws_raiseF rfl tk T.e_NoRoom (oki_NoRoom T) (hr.mono (by decide)) T.bI_NoRoom T.mC_NoRoom (by rfl) (wa_cons (we_var (i := 4) rfl (.inl rfl)) (wa_nil)))) (wb_nil)) (wb_one (ws_asg (we_var (i := 5) rfl (.inl rfl)) (wg_sub (we_var (i := 3) rfl (.inl rfl)) (we_var (i := 4) rfl (.inl rfl)))))))) (wb_one (ws_ret (we_callX z_tuple (fun h => pe_callTy call_tupleX (by rfl) T.n_tuple bb_tuple h) (wa_cons (we_var (i := 3) rfl (.inl rfl)) (wa_nil))))))
theorem ok_f_law_refused (T : Txt K mg) : FnG P w K mg base CX0 7 T.a_f_law_refused T.d_f_law_refused ["_law_system_here", "_law_field", "_law_order_here"] (spOf K S_f_law_refused) := by
  refine fn_ok T.F_f_law_refused sc_f_law_refused rfl (fun cdv A outer s H E hr hgd => ?_) vc_f_law_refused
  have nd := sc_f_law_refused.nd
  exact wb_cons (ws_set (i := 3) nd rfl (.inl rfl) (we_non)) (wb_cons (ws_try rfl rfl tk_no (fun R pn xe tk hp => wb_one (ws_expr (we_callR tk (okx_p_by_order T) (hr.mono (by decide)) hgd (by rfl) T.m_p_by_order T.F_p_by_order.kp T.b_p_by_order (wa_cons (we_var (i := 0) rfl (.inl rfl)) (wa_cons (we_var (i := 1) rfl (.inl rfl)) (wa_cons (we_var (i := 2) rfl (.inl rfl)) (wa_nil))))))) (.consA (x := "WishError") (i := 4) rfl rfl nd rfl rfl ⟨by rfl, by decide, .inl T.mC_WishError⟩ (exm_WishError T) (fun a oe cls d e pn hz hf xr => by dsimp only; exact wb_cons (ws_set (i := 3) nd rfl (.inl rfl) (we_str)) (wb_one (ws_if (wt_val (we_callE (okH_f_law_is_kind T) ((roomS hr).mono (by decide)) hgd hz hf xr (by rfl) T.m_f_law_is_kind T.F_f_law_is_kind.kp T.b_f_law_is_kind (wa_cons (we_var (i := 4) rfl (.inl rfl)) (wa_cons (we_int) (wa_nil))))) (wb_one (ws_set (i := 3) nd rfl (.inl rfl) (we_exf T.aC_NoRoom T.xf_NoRoom T.no_NoRoom_work hz hf xr (we_var (i := 4) rfl (.inl rfl))))) (wb_nil)))) .nil)) (wb_one (ws_ret (we_var (i := 3) rfl (.inl rfl)))))
theorem ok_p_law (T : Txt K mg) : FnG P w K mg base CX0 8 T.a_p_law T.d_p_law ["_law_script"] (spOf K S_p_law) := by
  refine fn_ok T.F_p_law sc_p_law rfl (fun cdv A outer s H E hr hgd => ?_) vc_p_law
  have nd := sc_p_law.nd
  exact wb_cons (ws_set (i := 1) nd rfl (.inl rfl) (we_call (ok_f_law_deck T) (hr.mono (by decide)) hgd (by rfl) T.m_f_law_deck T.F_f_law_deck.kp T.b_f_law_deck (wa_cons (we_var (i := 0) rfl (.inl rfl)) (wa_nil)))) (wb_cons (ws_for PassesOwn.never rfl (wi_range1 (by rfl) T.n_range (wa_cons (we_int) (wa_nil))) (wg_name (i := 2) nd rfl (.inl rfl)) (wb_cons (ws_set (i := 3) nd rfl (.inl rfl) (we_call (ok_f_law_system T) (hr.mono (by decide)) hgd (by rfl) T.m_f_law_system T.F_f_law_system.kp T.b_f_law_system (wa_cons (we_var (i := 1) rfl (.inl rfl)) (wa_cons (we_int) (wa_cons (we_int) (wa_cons (we_int) (wa_cons (we_int) (wa_cons (we_int) (wa_nil))))))))) (wb_cons (ws_set (i := 4) nd rfl (.inl rfl) (we_call (ok_f_law_whole T) (hr.mono (by decide)) hgd (by rfl) T.m_f_law_whole T.F_f_law_whole.kp T.b_f_law_whole (wa_cons (we_var (i := 3) rfl (.inl rfl)) (wa_nil)))) (wb_cons (ws_set (i := 5) nd rfl (.inl rfl) (we_call (ok_f_law_next T) (hr.mono (by decide)) hgd (by rfl) T.m_f_law_next T.F_f_law_next.kp T.b_f_law_next (wa_cons (we_var (i := 1) rfl (.inl rfl)) (wa_nil)))) (wb_cons (ws_if ((ww_and (wt_cmp (op_eqC hr.units) z_eqB (we_op op_mod z_mod (we_var (i := 5) rfl (.inl rfl)) (we_int)) (we_int) ((nomark _))) (ww_and1 (wt_cmp (op_gtD hr.units0) z_gt (we_callX z_len (fun h => pe_callB (CallR.or call_len_seq call_len_str) (by rfl) T.n_len bb_len h) (wa_cons (we_var (i := 4) rfl (.inl rfl)) (wa_nil))) (we_int) ((nomark _))))).wt) (wb_one (ws_set (i := 4) nd rfl (.inl rfl) (we_call (ok_f_law_put T) (hr.mono (by decide)) hgd (by rfl) T.m_f_law_put T.F_f_law_put.kp T.b_f_law_put (wa_cons (we_var (i := 4) rfl (.inl rfl)) (wa_cons (we_op op_mod z_mod (we_op op_fdivW z_fdiv (we_var (i := 5) rfl (.inl rfl)) (we_int)) (we_callX z_len (fun h => pe_callB (CallR.or call_len_seq call_len_str) (by rfl) T.n_len bb_len h) (wa_cons (we_var (i := 4) rfl (.inl rfl)) (wa_nil)))) (wa_cons (we_tup (wa_nil)) (wa_nil))))))) (wb_nil)) (wb_one (ws_for PassesOwn.never rfl (wi_range1 (by rfl) T.n_range (wa_cons (we_int) (wa_nil))) (wg_name (i := 6) nd rfl (.inl rfl)) (wb_cons (ws_set (i := 7) nd rfl (.inl rfl) (we_call (ok_f_law_order T) (hr.mono (by decide)) hgd (by rfl) T.m_f_law_order T.F_f_law_order.kp T.b_f_law_order (wa_cons (we_var (i := 1) rfl (.inl rfl)) (wa_cons (we_var (i := 3) rfl (.inl rfl)) (wa_nil))))) (wb_one (ws_if (wt_not (wt_val (we_call (ok_f_law_same T) (hr.mono (by decide)) hgd (by rfl) T.m_f_law_same T.F_f_law_same.kp T.b_f_law_same (wa_cons (we_call (ok_f_law_refused T) (hr.mono (by decide)) hgd (by rfl) T.m_f_law_refused T.F_f_law_refused.kp T.b_f_law_refused (wa_cons (we_var (i := 3) rfl (.inl rfl)) (wa_cons (we_var (i := 4) rfl (.inl rfl)) (wa_cons (we_var (i := 7) rfl (.inl rfl)) (wa_nil))))) (wa_cons (we_ix (we_call (ok_f_law_by T) (hr.mono (by decide)) hgd (by rfl) T.m_f_law_by T.F_f_law_by.kp T.b_f_law_by (wa_cons (we_var (i := 3) rfl (.inl rfl)) (wa_cons (we_var (i := 4) rfl (.inl rfl)) (wa_cons (we_var (i := 7) rfl (.inl rfl)) (wa_nil))))) (we_int)) (wa_nil)))))) (wb_one (ws_ret (we_bl))) (wb_nil))))))))))) (wb_one (ws_ret (we_bl))))
end
theorem all_mk {l : PySem.W.OpenLaw} {w : World} {K : PySem.W.Frag} {h : Heap} {mg : Str → Option Value} {fa : Addr} (X : K.In h) (G : h.Ns mainGlobals mg) (hfa : mg "law" = some (.ref fa))
    {C_WishError : Addr}
    {C_TooMany : Addr}
    {C_NotEven : Addr}
    {C_NoText : Addr}
    {C_NoRoom : Addr}
    {C_NoPlan : Addr}
    {C_NoDeed : Addr}
    {f0 : Addr} {od0 an0 : Option Addr} {sl0 : Array (Option Value)} {oc0 kV0 dc0 pm0 cd0 ct0 : Value}
    {f1 : Addr} {od1 an1 : Option Addr} {sl1 : Array (Option Value)} {oc1 kV1 dc1 pm1 cd1 ct1 : Value}
    {f2 : Addr} {od2 an2 : Option Addr} {sl2 : Array (Option Value)} {oc2 kV2 dc2 pm2 cd2 ct2 : Value}
    {f3 : Addr} {od3 an3 : Option Addr} {sl3 : Array (Option Value)} {oc3 kV3 dc3 pm3 cd3 ct3 : Value}
    {f4 : Addr} {od4 an4 : Option Addr} {sl4 : Array (Option Value)} {oc4 kV4 dc4 pm4 cd4 ct4 : Value}
    {f5 : Addr} {od5 an5 : Option Addr} {sl5 : Array (Option Value)} {oc5 kV5 dc5 pm5 cd5 ct5 : Value}
    {f6 : Addr} {od6 an6 : Option Addr} {sl6 : Array (Option Value)} {oc6 kV6 dc6 pm6 cd6 ct6 : Value}
    {f7 : Addr} {od7 an7 : Option Addr} {sl7 : Array (Option Value)} {oc7 kV7 dc7 pm7 cd7 ct7 : Value}
    {f8 : Addr} {od8 an8 : Option Addr} {sl8 : Array (Option Value)} {oc8 kV8 dc8 pm8 cd8 ct8 : Value}
    {f9 : Addr} {od9 an9 : Option Addr} {sl9 : Array (Option Value)} {oc9 kV9 dc9 pm9 cd9 ct9 : Value}
    {f10 : Addr} {od10 an10 : Option Addr} {sl10 : Array (Option Value)} {oc10 kV10 dc10 pm10 cd10 ct10 : Value}
    {f11 : Addr} {od11 an11 : Option Addr} {sl11 : Array (Option Value)} {oc11 kV11 dc11 pm11 cd11 ct11 : Value}
    {f12 : Addr} {od12 an12 : Option Addr} {sl12 : Array (Option Value)} {oc12 kV12 dc12 pm12 cd12 ct12 : Value}
    {f13 : Addr} {od13 an13 : Option Addr} {sl13 : Array (Option Value)} {oc13 kV13 dc13 pm13 cd13 ct13 : Value}
    {f14 : Addr} {od14 an14 : Option Addr} {sl14 : Array (Option Value)} {oc14 kV14 dc14 pm14 cd14 ct14 : Value}
    {f15 : Addr} {od15 an15 : Option Addr} {sl15 : Array (Option Value)} {oc15 kV15 dc15 pm15 cd15 ct15 : Value}
    {f16 : Addr} {od16 an16 : Option Addr} {sl16 : Array (Option Value)} {oc16 kV16 dc16 pm16 cd16 ct16 : Value}
    {f17 : Addr} {od17 an17 : Option Addr} {sl17 : Array (Option Value)} {oc17 kV17 dc17 pm17 cd17 ct17 : Value}
    {f18 : Addr} {od18 an18 : Option Addr} {sl18 : Array (Option Value)} {oc18 kV18 dc18 pm18 cd18 ct18 : Value}
    {f19 : Addr} {od19 an19 : Option Addr} {sl19 : Array (Option Value)} {oc19 kV19 dc19 pm19 cd19 ct19 : Value}
    {f20 : Addr} {od20 an20 : Option Addr} {sl20 : Array (Option Value)} {oc20 kV20 dc20 pm20 cd20 ct20 : Value}
    {f21 : Addr} {od21 an21 : Option Addr} {sl21 : Array (Option Value)} {oc21 kV21 dc21 pm21 cd21 ct21 : Value}
    {f22 : Addr} {od22 an22 : Option Addr} {sl22 : Array (Option Value)} {oc22 kV22 dc22 pm22 cd22 ct22 : Value}
    {f23 : Addr} {od23 an23 : Option Addr} {sl23 : Array (Option Value)} {oc23 kV23 dc23 pm23 cd23 ct23 : Value}
    {fI_NoRoom : Addr} {odI_NoRoom anI_NoRoom : Option Addr} {slI_NoRoom : Array (Option Value)} {ocI_NoRoom kVI_NoRoom dcI_NoRoom pmI_NoRoom cdI_NoRoom ctI_NoRoom : Value}
    {nm_NoRoom : Str} {q_NoRoom : Str} {N_NoRoom : Addr} {bs_NoRoom : List Value} {bm_NoRoom : List Value} {sn_NoRoom : List Str} {sub_NoRoom : List Value} {ab_NoRoom : Bool} {col_NoRoom : Option Bool} {dd_NoRoom : Option Addr} {k0_NoRoom : Option Value} {k1_NoRoom : Option Value} {k2_NoRoom : Option Value} {k3_NoRoom : Option Value} {k5_NoRoom : Option Value}
    (aC_NoDeed : PySem.W.nsIn K mainGlobals "NoDeed" = some (some (.ref C_NoDeed)))
    (em_NoDeed_WishError : PySem.W.exmOne K (.ref C_NoDeed) (.ref C_WishError) = some true)
    (aC_NoPlan : PySem.W.nsIn K mainGlobals "NoPlan" = some (some (.ref C_NoPlan)))
    (em_NoPlan_WishError : PySem.W.exmOne K (.ref C_NoPlan) (.ref C_WishError) = some true)
    (aC_NoRoom : PySem.W.nsIn K mainGlobals "NoRoom" = some (some (.ref C_NoRoom)))
    (kE_NoRoom : PySem.W.keepIn K (.ref C_NoRoom) = true) (sE_NoRoom : PySem.W.subIn K (.ref C_NoRoom) (.type "BaseException") = some true) (tE_NoRoom : PySem.W.typeIn K (.ref C_NoRoom) = some (.type "type"))
    (xL_NoRoom : K.lookup C_NoRoom = some (PySem.excClassObj nm_NoRoom q_NoRoom C_NoRoom N_NoRoom bs_NoRoom bm_NoRoom true sn_NoRoom sub_NoRoom ab_NoRoom col_NoRoom dd_NoRoom k0_NoRoom k1_NoRoom k2_NoRoom k3_NoRoom k5_NoRoom "ValueError.__new__")) (xV_NoRoom : PySem.HandSPX.refsVE bm_NoRoom = true) (xS_NoRoom : PySem.W.findIn K (.ref C_NoRoom) "__setattr__" = some (some (.builtin "object.__setattr__")))
    (xI_NoRoom : PySem.W.findIn K (.ref C_NoRoom) "__init__" = some (some (.ref fI_NoRoom))) (xT_NoRoom : PySem.W.typeIn K (.ref fI_NoRoom) = some (.type "function")) (xN_NoRoom : PySem.W.findIn K (.ref C_NoRoom) "work" = some none)
    (xF_NoRoom : K.lookup fI_NoRoom = some ⟨ocI_NoRoom, odI_NoRoom, .func (PySem.W.fnOf "__init__" "NoRoom.__init__" (defArgs (inClass (topS 4) 0)) (defBody (inClass (topS 4) 0)) (defScope (inClass (topS 4) 0)) .none kVI_NoRoom dcI_NoRoom pmI_NoRoom anI_NoRoom cdI_NoRoom ctI_NoRoom), slI_NoRoom⟩) (xC_NoRoom : PySem.W.codeIn K cdI_NoRoom "NoRoom.__init__" = true) (xK_NoRoom : PySem.W.keepIn K (.ref fI_NoRoom) = true)
    (em_NoRoom_WishError : PySem.W.exmOne K (.ref C_NoRoom) (.ref C_WishError) = some true)
    (aC_NoText : PySem.W.nsIn K mainGlobals "NoText" = some (some (.ref C_NoText)))
    (em_NoText_WishError : PySem.W.exmOne K (.ref C_NoText) (.ref C_WishError) = some true)
    (aC_NotEven : PySem.W.nsIn K mainGlobals "NotEven" = some (some (.ref C_NotEven)))
    (em_NotEven_WishError : PySem.W.exmOne K (.ref C_NotEven) (.ref C_WishError) = some true)
    (aC_TooMany : PySem.W.nsIn K mainGlobals "TooMany" = some (some (.ref C_TooMany)))
    (em_TooMany_WishError : PySem.W.exmOne K (.ref C_TooMany) (.ref C_WishError) = some true)
    (aC_WishError : PySem.W.nsIn K mainGlobals "WishError" = some (some (.ref C_WishError)))
    (vS : PySem.W.specialIn K (.builtin "object.__class__") "__get__" = some (some (.builtin "getset_descriptor.__get__"))) (vT : PySem.W.takesIn K (.builtin "object.__class__") = some true)
    (vg_NoDeed : PySem.W.findIn K (.ref C_NoDeed) "__getattribute__" = some (some (.builtin "BaseException.__getattribute__"))) (vh_NoDeed : PySem.W.findIn K (.ref C_NoDeed) "__getattr__" = some none) (ve_NoDeed : PySem.W.subIn K (.ref C_NoDeed) (.type "BaseException") = some true) (vd_NoDeed : PySem.W.hasDictIn K C_NoDeed = true) (va_NoDeed : PySem.W.findIn K (.ref C_NoDeed) "__class__" = some (some (.builtin "object.__class__"))) (vm_NoDeed : PySem.W.mroIn K C_NoDeed (.type "object") = some true)
    (ki_NoDeed_NoDeed : PySem.W.kitOne K (.ref C_NoDeed) (.ref C_NoDeed) = some true)
    (ki_NoDeed_NoPlan : PySem.W.kitOne K (.ref C_NoDeed) (.ref C_NoPlan) = some false)
    (ki_NoDeed_NoRoom : PySem.W.kitOne K (.ref C_NoDeed) (.ref C_NoRoom) = some false)
    (ki_NoDeed_NoText : PySem.W.kitOne K (.ref C_NoDeed) (.ref C_NoText) = some false)
    (ki_NoDeed_NotEven : PySem.W.kitOne K (.ref C_NoDeed) (.ref C_NotEven) = some false)
    (ki_NoDeed_TooMany : PySem.W.kitOne K (.ref C_NoDeed) (.ref C_TooMany) = some false)
    (ki_NoDeed_WishError : PySem.W.kitOne K (.ref C_NoDeed) (.ref C_WishError) = some true)
    (ki_NoDeed_ValueError : PySem.W.kitOne K (.ref C_NoDeed) (.type "ValueError") = some true)
    (vg_NoPlan : PySem.W.findIn K (.ref C_NoPlan) "__getattribute__" = some (some (.builtin "BaseException.__getattribute__"))) (vh_NoPlan : PySem.W.findIn K (.ref C_NoPlan) "__getattr__" = some none) (ve_NoPlan : PySem.W.subIn K (.ref C_NoPlan) (.type "BaseException") = some true) (vd_NoPlan : PySem.W.hasDictIn K C_NoPlan = true) (va_NoPlan : PySem.W.findIn K (.ref C_NoPlan) "__class__" = some (some (.builtin "object.__class__"))) (vm_NoPlan : PySem.W.mroIn K C_NoPlan (.type "object") = some true)
    (ki_NoPlan_NoDeed : PySem.W.kitOne K (.ref C_NoPlan) (.ref C_NoDeed) = some false)
    (ki_NoPlan_NoPlan : PySem.W.kitOne K (.ref C_NoPlan) (.ref C_NoPlan) = some true)
    (ki_NoPlan_NoRoom : PySem.W.kitOne K (.ref C_NoPlan) (.ref C_NoRoom) = some false)
    (ki_NoPlan_NoText : PySem.W.kitOne K (.ref C_NoPlan) (.ref C_NoText) = some false)
    (ki_NoPlan_NotEven : PySem.W.kitOne K (.ref C_NoPlan) (.ref C_NotEven) = some false)
    (ki_NoPlan_TooMany : PySem.W.kitOne K (.ref C_NoPlan) (.ref C_TooMany) = some false)
    (ki_NoPlan_WishError : PySem.W.kitOne K (.ref C_NoPlan) (.ref C_WishError) = some true)
    (ki_NoPlan_ValueError : PySem.W.kitOne K (.ref C_NoPlan) (.type "ValueError") = some true)
    (vg_NoRoom : PySem.W.findIn K (.ref C_NoRoom) "__getattribute__" = some (some (.builtin "BaseException.__getattribute__"))) (vh_NoRoom : PySem.W.findIn K (.ref C_NoRoom) "__getattr__" = some none) (ve_NoRoom : PySem.W.subIn K (.ref C_NoRoom) (.type "BaseException") = some true) (vd_NoRoom : PySem.W.hasDictIn K C_NoRoom = true) (va_NoRoom : PySem.W.findIn K (.ref C_NoRoom) "__class__" = some (some (.builtin "object.__class__"))) (vm_NoRoom : PySem.W.mroIn K C_NoRoom (.type "object") = some true)
    (ki_NoRoom_NoDeed : PySem.W.kitOne K (.ref C_NoRoom) (.ref C_NoDeed) = some false)
    (ki_NoRoom_NoPlan : PySem.W.kitOne K (.ref C_NoRoom) (.ref C_NoPlan) = some false)
    (ki_NoRoom_NoRoom : PySem.W.kitOne K (.ref C_NoRoom) (.ref C_NoRoom) = some true)
    (ki_NoRoom_NoText : PySem.W.kitOne K (.ref C_NoRoom) (.ref C_NoText) = some false)
    (ki_NoRoom_NotEven : PySem.W.kitOne K (.ref C_NoRoom) (.ref C_NotEven) = some false)
    (ki_NoRoom_TooMany : PySem.W.kitOne K (.ref C_NoRoom) (.ref C_TooMany) = some false)
    (ki_NoRoom_WishError : PySem.W.kitOne K (.ref C_NoRoom) (.ref C_WishError) = some true)
    (ki_NoRoom_ValueError : PySem.W.kitOne K (.ref C_NoRoom) (.type "ValueError") = some true)
    (vg_NoText : PySem.W.findIn K (.ref C_NoText) "__getattribute__" = some (some (.builtin "BaseException.__getattribute__"))) (vh_NoText : PySem.W.findIn K (.ref C_NoText) "__getattr__" = some none) (ve_NoText : PySem.W.subIn K (.ref C_NoText) (.type "BaseException") = some true) (vd_NoText : PySem.W.hasDictIn K C_NoText = true) (va_NoText : PySem.W.findIn K (.ref C_NoText) "__class__" = some (some (.builtin "object.__class__"))) (vm_NoText : PySem.W.mroIn K C_NoText (.type "object") = some true)
    (ki_NoText_NoDeed : PySem.W.kitOne K (.ref C_NoText) (.ref C_NoDeed) = some false)
    (ki_NoText_NoPlan : PySem.W.kitOne K (.ref C_NoText) (.ref C_NoPlan) = some false)
    (ki_NoText_NoRoom : PySem.W.kitOne K (.ref C_NoText) (.ref C_NoRoom) = some false)
    (ki_NoText_NoText : PySem.W.kitOne K (.ref C_NoText) (.ref C_NoText) = some true)
    (ki_NoText_NotEven : PySem.W.kitOne K (.ref C_NoText) (.ref C_NotEven) = some false)
    (ki_NoText_TooMany : PySem.W.kitOne K (.ref C_NoText) (.ref C_TooMany) = some false)
    (ki_NoText_WishError : PySem.W.kitOne K (.ref C_NoText) (.ref C_WishError) = some true)
    (ki_NoText_ValueError : PySem.W.kitOne K (.ref C_NoText) (.type "ValueError") = some true)
    (vg_NotEven : PySem.W.findIn K (.ref C_NotEven) "__getattribute__" = some (some (.builtin "BaseException.__getattribute__"))) (vh_NotEven : PySem.W.findIn K (.ref C_NotEven) "__getattr__" = some none) (ve_NotEven : PySem.W.subIn K (.ref C_NotEven) (.type "BaseException") = some true) (vd_NotEven : PySem.W.hasDictIn K C_NotEven = true) (va_NotEven : PySem.W.findIn K (.ref C_NotEven) "__class__" = some (some (.builtin "object.__class__"))) (vm_NotEven : PySem.W.mroIn K C_NotEven (.type "object") = some true)
    (ki_NotEven_NoDeed : PySem.W.kitOne K (.ref C_NotEven) (.ref C_NoDeed) = some false)
    (ki_NotEven_NoPlan : PySem.W.kitOne K (.ref C_NotEven) (.ref C_NoPlan) = some false)
    (ki_NotEven_NoRoom : PySem.W.kitOne K (.ref C_NotEven) (.ref C_NoRoom) = some false)
    (ki_NotEven_NoText : PySem.W.kitOne K (.ref C_NotEven) (.ref C_NoText) = some false)
    (ki_NotEven_NotEven : PySem.W.kitOne K (.ref C_NotEven) (.ref C_NotEven) = some true)
    (ki_NotEven_TooMany : PySem.W.kitOne K (.ref C_NotEven) (.ref C_TooMany) = some false)
    (ki_NotEven_WishError : PySem.W.kitOne K (.ref C_NotEven) (.ref C_WishError) = some true)
    (ki_NotEven_ValueError : PySem.W.kitOne K (.ref C_NotEven) (.type "ValueError") = some true)
    (vg_TooMany : PySem.W.findIn K (.ref C_TooMany) "__getattribute__" = some (some (.builtin "BaseException.__getattribute__"))) (vh_TooMany : PySem.W.findIn K (.ref C_TooMany) "__getattr__" = some none) (ve_TooMany : PySem.W.subIn K (.ref C_TooMany) (.type "BaseException") = some true) (vd_TooMany : PySem.W.hasDictIn K C_TooMany = true) (va_TooMany : PySem.W.findIn K (.ref C_TooMany) "__class__" = some (some (.builtin "object.__class__"))) (vm_TooMany : PySem.W.mroIn K C_TooMany (.type "object") = some true)
    (ki_TooMany_NoDeed : PySem.W.kitOne K (.ref C_TooMany) (.ref C_NoDeed) = some false)
    (ki_TooMany_NoPlan : PySem.W.kitOne K (.ref C_TooMany) (.ref C_NoPlan) = some false)
    (ki_TooMany_NoRoom : PySem.W.kitOne K (.ref C_TooMany) (.ref C_NoRoom) = some false)
    (ki_TooMany_NoText : PySem.W.kitOne K (.ref C_TooMany) (.ref C_NoText) = some false)
    (ki_TooMany_NotEven : PySem.W.kitOne K (.ref C_TooMany) (.ref C_NotEven) = some false)
    (ki_TooMany_TooMany : PySem.W.kitOne K (.ref C_TooMany) (.ref C_TooMany) = some true)
    (ki_TooMany_WishError : PySem.W.kitOne K (.ref C_TooMany) (.ref C_WishError) = some true)
    (ki_TooMany_ValueError : PySem.W.kitOne K (.ref C_TooMany) (.type "ValueError") = some true)
    (kt_NoDeed : PySem.W.kitOne K (.type "tuple") (.ref C_NoDeed) = some false) (kn_NoDeed : PySem.W.kitOne K (.type "int") (.ref C_NoDeed) = some false)
    (kt_NoPlan : PySem.W.kitOne K (.type "tuple") (.ref C_NoPlan) = some false) (kn_NoPlan : PySem.W.kitOne K (.type "int") (.ref C_NoPlan) = some false)
    (kt_NoRoom : PySem.W.kitOne K (.type "tuple") (.ref C_NoRoom) = some false) (kn_NoRoom : PySem.W.kitOne K (.type "int") (.ref C_NoRoom) = some false)
    (kt_NoText : PySem.W.kitOne K (.type "tuple") (.ref C_NoText) = some false) (kn_NoText : PySem.W.kitOne K (.type "int") (.ref C_NoText) = some false)
    (kt_NotEven : PySem.W.kitOne K (.type "tuple") (.ref C_NotEven) = some false) (kn_NotEven : PySem.W.kitOne K (.type "int") (.ref C_NotEven) = some false)
    (kt_TooMany : PySem.W.kitOne K (.type "tuple") (.ref C_TooMany) = some false) (kn_TooMany : PySem.W.kitOne K (.type "int") (.ref C_TooMany) = some false)
    (kt_WishError : PySem.W.kitOne K (.type "tuple") (.ref C_WishError) = some false) (kn_WishError : PySem.W.kitOne K (.type "int") (.ref C_WishError) = some false)
    (xg_NoRoom : PySem.W.findIn K (.ref C_NoRoom) "__getattribute__" = some (some (.builtin "BaseException.__getattribute__"))) (xh_NoRoom : PySem.W.findIn K (.ref C_NoRoom) "__getattr__" = some none) (xe_NoRoom : PySem.W.subIn K (.ref C_NoRoom) (.type "BaseException") = some true) (xd_NoRoom : PySem.W.hasDictIn K C_NoRoom = true) (xn_NoRoom_work : PySem.W.findIn K (.ref C_NoRoom) "work" = some none)
    (a0 : PySem.W.nsIn K mainGlobals "end_of" = some (some (.ref f0))) (l0 : K.lookup f0 = some ⟨oc0, od0, .func (PySem.W.fnOf "end_of" "end_of" (defArgs s_p_end_of) (defBody s_p_end_of) (defScope s_p_end_of) .none kV0 dc0 pm0 an0 cd0 ct0), sl0⟩) (c0 : PySem.W.codeIn K cd0 "end_of" = true) (k0 : PySem.W.keepIn K (.ref f0) = true)
    (a1 : PySem.W.nsIn K mainGlobals "_law_deck" = some (some (.ref f1))) (l1 : K.lookup f1 = some ⟨oc1, od1, .func (PySem.W.fnOf "_law_deck" "_law_deck" (defArgs s_f_law_deck) (defBody s_f_law_deck) (defScope s_f_law_deck) .none kV1 dc1 pm1 an1 cd1 ct1), sl1⟩) (c1 : PySem.W.codeIn K cd1 "_law_deck" = true) (k1 : PySem.W.keepIn K (.ref f1) = true)
    (a2 : PySem.W.nsIn K mainGlobals "_law_next" = some (some (.ref f2))) (l2 : K.lookup f2 = some ⟨oc2, od2, .func (PySem.W.fnOf "_law_next" "_law_next" (defArgs s_f_law_next) (defBody s_f_law_next) (defScope s_f_law_next) .none kV2 dc2 pm2 an2 cd2 ct2), sl2⟩) (c2 : PySem.W.codeIn K cd2 "_law_next" = true) (k2 : PySem.W.keepIn K (.ref f2) = true)
    (a3 : PySem.W.nsIn K mainGlobals "_law_put" = some (some (.ref f3))) (l3 : K.lookup f3 = some ⟨oc3, od3, .func (PySem.W.fnOf "_law_put" "_law_put" (defArgs s_f_law_put) (defBody s_f_law_put) (defScope s_f_law_put) .none kV3 dc3 pm3 an3 cd3 ct3), sl3⟩) (c3 : PySem.W.codeIn K cd3 "_law_put" = true) (k3 : PySem.W.keepIn K (.ref f3) = true)
    (a4 : PySem.W.nsIn K mainGlobals "_law_same" = some (some (.ref f4))) (l4 : K.lookup f4 = some ⟨oc4, od4, .func (PySem.W.fnOf "_law_same" "_law_same" (defArgs s_f_law_same) (defBody s_f_law_same) (defScope s_f_law_same) .none kV4 dc4 pm4 an4 cd4 ct4), sl4⟩) (c4 : PySem.W.codeIn K cd4 "_law_same" = true) (k4 : PySem.W.keepIn K (.ref f4) = true)
    (a5 : PySem.W.nsIn K mainGlobals "_law_ways" = some (some (.ref f5))) (l5 : K.lookup f5 = some ⟨oc5, od5, .func (PySem.W.fnOf "_law_ways" "_law_ways" (defArgs s_f_law_ways) (defBody s_f_law_ways) (defScope s_f_law_ways) .none kV5 dc5 pm5 an5 cd5 ct5), sl5⟩) (c5 : PySem.W.codeIn K cd5 "_law_ways" = true) (k5 : PySem.W.keepIn K (.ref f5) = true)
    (a6 : PySem.W.nsIn K mainGlobals "_law_clash" = some (some (.ref f6))) (l6 : K.lookup f6 = some ⟨oc6, od6, .func (PySem.W.fnOf "_law_clash" "_law_clash" (defArgs s_f_law_clash) (defBody s_f_law_clash) (defScope s_f_law_clash) .none kV6 dc6 pm6 an6 cd6 ct6), sl6⟩) (c6 : PySem.W.codeIn K cd6 "_law_clash" = true) (k6 : PySem.W.keepIn K (.ref f6) = true)
    (a7 : PySem.W.nsIn K mainGlobals "_law_stands" = some (some (.ref f7))) (l7 : K.lookup f7 = some ⟨oc7, od7, .func (PySem.W.fnOf "_law_stands" "_law_stands" (defArgs s_f_law_stands) (defBody s_f_law_stands) (defScope s_f_law_stands) .none kV7 dc7 pm7 an7 cd7 ct7), sl7⟩) (c7 : PySem.W.codeIn K cd7 "_law_stands" = true) (k7 : PySem.W.keepIn K (.ref f7) = true)
    (a8 : PySem.W.nsIn K mainGlobals "_law_is_kind" = some (some (.ref f8))) (l8 : K.lookup f8 = some ⟨oc8, od8, .func (PySem.W.fnOf "_law_is_kind" "_law_is_kind" (defArgs s_f_law_is_kind) (defBody s_f_law_is_kind) (defScope s_f_law_is_kind) .none kV8 dc8 pm8 an8 cd8 ct8), sl8⟩) (c8 : PySem.W.codeIn K cd8 "_law_is_kind" = true) (k8 : PySem.W.keepIn K (.ref f8) = true)
    (a9 : PySem.W.nsIn K mainGlobals "is_behind" = some (some (.ref f9))) (l9 : K.lookup f9 = some ⟨oc9, od9, .func (PySem.W.fnOf "is_behind" "is_behind" (defArgs s_p_is_behind) (defBody s_p_is_behind) (defScope s_p_is_behind) .none kV9 dc9 pm9 an9 cd9 ct9), sl9⟩) (c9 : PySem.W.codeIn K cd9 "is_behind" = true) (k9 : PySem.W.keepIn K (.ref f9) = true)
    (a10 : PySem.W.nsIn K mainGlobals "_law_rows_of" = some (some (.ref f10))) (l10 : K.lookup f10 = some ⟨oc10, od10, .func (PySem.W.fnOf "_law_rows_of" "_law_rows_of" (defArgs s_f_law_rows_of) (defBody s_f_law_rows_of) (defScope s_f_law_rows_of) .none kV10 dc10 pm10 an10 cd10 ct10), sl10⟩) (c10 : PySem.W.codeIn K cd10 "_law_rows_of" = true) (k10 : PySem.W.keepIn K (.ref f10) = true)
    (a11 : PySem.W.nsIn K mainGlobals "_law_wish" = some (some (.ref f11))) (l11 : K.lookup f11 = some ⟨oc11, od11, .func (PySem.W.fnOf "_law_wish" "_law_wish" (defArgs s_f_law_wish) (defBody s_f_law_wish) (defScope s_f_law_wish) .none kV11 dc11 pm11 an11 cd11 ct11), sl11⟩) (c11 : PySem.W.codeIn K cd11 "_law_wish" = true) (k11 : PySem.W.keepIn K (.ref f11) = true)
    (a12 : PySem.W.nsIn K mainGlobals "_law_whole" = some (some (.ref f12))) (l12 : K.lookup f12 = some ⟨oc12, od12, .func (PySem.W.fnOf "_law_whole" "_law_whole" (defArgs s_f_law_whole) (defBody s_f_law_whole) (defScope s_f_law_whole) .none kV12 dc12 pm12 an12 cd12 ct12), sl12⟩) (c12 : PySem.W.codeIn K cd12 "_law_whole" = true) (k12 : PySem.W.keepIn K (.ref f12) = true)
    (a13 : PySem.W.nsIn K mainGlobals "_law_order" = some (some (.ref f13))) (l13 : K.lookup f13 = some ⟨oc13, od13, .func (PySem.W.fnOf "_law_order" "_law_order" (defArgs s_f_law_order) (defBody s_f_law_order) (defScope s_f_law_order) .none kV13 dc13 pm13 an13 cd13 ct13), sl13⟩) (c13 : PySem.W.codeIn K cd13 "_law_order" = true) (k13 : PySem.W.keepIn K (.ref f13) = true)
    (a14 : PySem.W.nsIn K mainGlobals "_law_fits" = some (some (.ref f14))) (l14 : K.lookup f14 = some ⟨oc14, od14, .func (PySem.W.fnOf "_law_fits" "_law_fits" (defArgs s_f_law_fits) (defBody s_f_law_fits) (defScope s_f_law_fits) .none kV14 dc14 pm14 an14 cd14 ct14), sl14⟩) (c14 : PySem.W.codeIn K cd14 "_law_fits" = true) (k14 : PySem.W.keepIn K (.ref f14) = true)
    (a15 : PySem.W.nsIn K mainGlobals "clash" = some (some (.ref f15))) (l15 : K.lookup f15 = some ⟨oc15, od15, .func (PySem.W.fnOf "clash" "clash" (defArgs s_p_clash) (defBody s_p_clash) (defScope s_p_clash) .none kV15 dc15 pm15 an15 cd15 ct15), sl15⟩) (c15 : PySem.W.codeIn K cd15 "clash" = true) (k15 : PySem.W.keepIn K (.ref f15) = true)
    (a16 : PySem.W.nsIn K mainGlobals "_law_work" = some (some (.ref f16))) (l16 : K.lookup f16 = some ⟨oc16, od16, .func (PySem.W.fnOf "_law_work" "_law_work" (defArgs s_f_law_work) (defBody s_f_law_work) (defScope s_f_law_work) .none kV16 dc16 pm16 an16 cd16 ct16), sl16⟩) (c16 : PySem.W.codeIn K cd16 "_law_work" = true) (k16 : PySem.W.keepIn K (.ref f16) = true)
    (a17 : PySem.W.nsIn K mainGlobals "_law_by" = some (some (.ref f17))) (l17 : K.lookup f17 = some ⟨oc17, od17, .func (PySem.W.fnOf "_law_by" "_law_by" (defArgs s_f_law_by) (defBody s_f_law_by) (defScope s_f_law_by) .none kV17 dc17 pm17 an17 cd17 ct17), sl17⟩) (c17 : PySem.W.codeIn K cd17 "_law_by" = true) (k17 : PySem.W.keepIn K (.ref f17) = true)
    (a18 : PySem.W.nsIn K mainGlobals "goes_with" = some (some (.ref f18))) (l18 : K.lookup f18 = some ⟨oc18, od18, .func (PySem.W.fnOf "goes_with" "goes_with" (defArgs s_p_goes_with_orders) (defBody s_p_goes_with_orders) (defScope s_p_goes_with_orders) .none kV18 dc18 pm18 an18 cd18 ct18), sl18⟩) (c18 : PySem.W.codeIn K cd18 "goes_with" = true) (k18 : PySem.W.keepIn K (.ref f18) = true)
    (a19 : PySem.W.nsIn K mainGlobals "_law_system" = some (some (.ref f19))) (l19 : K.lookup f19 = some ⟨oc19, od19, .func (PySem.W.fnOf "_law_system" "_law_system" (defArgs s_f_law_system) (defBody s_f_law_system) (defScope s_f_law_system) .none kV19 dc19 pm19 an19 cd19 ct19), sl19⟩) (c19 : PySem.W.codeIn K cd19 "_law_system" = true) (k19 : PySem.W.keepIn K (.ref f19) = true)
    (a20 : PySem.W.nsIn K mainGlobals "first_way" = some (some (.ref f20))) (l20 : K.lookup f20 = some ⟨oc20, od20, .func (PySem.W.fnOf "first_way" "first_way" (defArgs s_p_first_way) (defBody s_p_first_way) (defScope s_p_first_way) .none kV20 dc20 pm20 an20 cd20 ct20), sl20⟩) (c20 : PySem.W.codeIn K cd20 "first_way" = true) (k20 : PySem.W.keepIn K (.ref f20) = true)
    (a21 : PySem.W.nsIn K mainGlobals "by_order" = some (some (.ref f21))) (l21 : K.lookup f21 = some ⟨oc21, od21, .func (PySem.W.fnOf "by_order" "by_order" (defArgs s_p_by_order) (defBody s_p_by_order) (defScope s_p_by_order) .none kV21 dc21 pm21 an21 cd21 ct21), sl21⟩) (c21 : PySem.W.codeIn K cd21 "by_order" = true) (k21 : PySem.W.keepIn K (.ref f21) = true)
    (a22 : PySem.W.nsIn K mainGlobals "_law_refused" = some (some (.ref f22))) (l22 : K.lookup f22 = some ⟨oc22, od22, .func (PySem.W.fnOf "_law_refused" "_law_refused" (defArgs s_f_law_refused) (defBody s_f_law_refused) (defScope s_f_law_refused) .none kV22 dc22 pm22 an22 cd22 ct22), sl22⟩) (c22 : PySem.W.codeIn K cd22 "_law_refused" = true) (k22 : PySem.W.keepIn K (.ref f22) = true)
    (a23 : PySem.W.nsIn K mainGlobals "law" = some (some (.ref f23))) (l23 : K.lookup f23 = some ⟨oc23, od23, .func (PySem.W.fnOf "law" "law" (defArgs s_p_law) (defBody s_p_law) (defScope s_p_law) .none kV23 dc23 pm23 an23 cd23 ct23), sl23⟩) (c23 : PySem.W.codeIn K cd23 "law" = true) (k23 : PySem.W.keepIn K (.ref f23) = true)
    (z_ValueError : PySem.W.nsIn K mainGlobals "ValueError" = some none)
    (z_abs : PySem.W.nsIn K mainGlobals "abs" = some none)
    (z_enumerate : PySem.W.nsIn K mainGlobals "enumerate" = some none)
    (z_int : PySem.W.nsIn K mainGlobals "int" = some none)
    (z_isinstance : PySem.W.nsIn K mainGlobals "isinstance" = some none)
    (z_len : PySem.W.nsIn K mainGlobals "len" = some none)
    (z_min : PySem.W.nsIn K mainGlobals "min" = some none)
    (z_range : PySem.W.nsIn K mainGlobals "range" = some none)
    (z_repr : PySem.W.nsIn K mainGlobals "repr" = some none)
    (z_sorted : PySem.W.nsIn K mainGlobals "sorted" = some none)
    (z_tuple : PySem.W.nsIn K mainGlobals "tuple" = some none) :
    ∃ fd : FuncData, (∀ (s : Shared) (v : Value), BindsTo s fd ⟨[v], []⟩ [("_law_script", v)]) ∧ ∀ base : Heap, K.In base → base.Ns mainGlobals mg → (∀ p ∈ tabCs K, LamX.TabB base mg p.1 p.2) → FnG l.prog w K mg base CX0 8 fa fd ["_law_script"] (spOf K S_p_law) := by
  have e := hfa.symm.trans (PySem.W.mg_of X G a23)
  have e2 : f23 = fa := (Value.ref.inj (Option.some.inj e)).symm
  subst e2
  let T : Txt K mg := { a_p_end_of := f0, d_p_end_of := _, F_p_end_of := fun_mk (st := s_p_end_of) l0 c0 k0, b_p_end_of := (fun_mk (st := s_p_end_of) l0 c0 k0).binds (fun _ _ _ _ _ _ us hl => match us, hl with | [_, _, _], _ => rfl), m_p_end_of := PySem.W.mg_of X G a0, a_f_law_deck := f1, d_f_law_deck := _, F_f_law_deck := fun_mk (st := s_f_law_deck) l1 c1 k1, b_f_law_deck := (fun_mk (st := s_f_law_deck) l1 c1 k1).binds (fun _ _ _ _ _ _ us hl => match us, hl with | [_], _ => rfl), m_f_law_deck := PySem.W.mg_of X G a1, a_f_law_next := f2, d_f_law_next := _, F_f_law_next := fun_mk (st := s_f_law_next) l2 c2 k2, b_f_law_next := (fun_mk (st := s_f_law_next) l2 c2 k2).binds (fun _ _ _ _ _ _ us hl => match us, hl with | [_], _ => rfl), m_f_law_next := PySem.W.mg_of X G a2, a_f_law_put := f3, d_f_law_put := _, F_f_law_put := fun_mk (st := s_f_law_put) l3 c3 k3, b_f_law_put := (fun_mk (st := s_f_law_put) l3 c3 k3).binds (fun _ _ _ _ _ _ us hl => match us, hl with | [_, _, _], _ => rfl), m_f_law_put := PySem.W.mg_of X G a3, a_f_law_same := f4, d_f_law_same := _, F_f_law_same := fun_mk (st := s_f_law_same) l4 c4 k4, b_f_law_same := (fun_mk (st := s_f_law_same) l4 c4 k4).binds (fun _ _ _ _ _ _ us hl => match us, hl with | [_, _], _ => rfl), m_f_law_same := PySem.W.mg_of X G a4, a_f_law_ways := f5, d_f_law_ways := _, F_f_law_ways := fun_mk (st := s_f_law_ways) l5 c5 k5, b_f_law_ways := (fun_mk (st := s_f_law_ways) l5 c5 k5).binds (fun _ _ _ _ _ _ us hl => match us, hl with | [_, _], _ => rfl), m_f_law_ways := PySem.W.mg_of X G a5, a_f_law_clash := f6, d_f_law_clash := _, F_f_law_clash := fun_mk (st := s_f_law_clash) l6 c6 k6, b_f_law_clash := (fun_mk (st := s_f_law_clash) l6 c6 k6).binds (fun _ _ _ _ _ _ us hl => match us, hl with | [_, _, _, _, _], _ => rfl), m_f_law_clash := PySem.W.mg_of X G a6, a_f_law_stands := f7, d_f_law_stands := _, F_f_law_stands := fun_mk (st := s_f_law_stands) l7 c7 k7, b_f_law_stands := (fun_mk (st := s_f_law_stands) l7 c7 k7).binds (fun _ _ _ _ _ _ us hl => match us, hl with | [_, _, _], _ => rfl), m_f_law_stands := PySem.W.mg_of X G a7, a_f_law_is_kind := f8, d_f_law_is_kind := _, F_f_law_is_kind := fun_mk (st := s_f_law_is_kind) l8 c8 k8, b_f_law_is_kind := (fun_mk (st := s_f_law_is_kind) l8 c8 k8).binds (fun _ _ _ _ _ _ us hl => match us, hl with | [_, _], _ => rfl), m_f_law_is_kind := PySem.W.mg_of X G a8, a_p_is_behind := f9, d_p_is_behind := _, F_p_is_behind := fun_mk (st := s_p_is_behind) l9 c9 k9, b_p_is_behind := (fun_mk (st := s_p_is_behind) l9 c9 k9).binds (fun _ _ _ _ _ _ us hl => match us, hl with | [_, _, _, _, _], _ => rfl), m_p_is_behind := PySem.W.mg_of X G a9, a_f_law_rows_of := f10, d_f_law_rows_of := _, F_f_law_rows_of := fun_mk (st := s_f_law_rows_of) l10 c10 k10, b_f_law_rows_of := (fun_mk (st := s_f_law_rows_of) l10 c10 k10).binds (fun _ _ _ _ _ _ us hl => match us, hl with | [_, _, _], _ => rfl), m_f_law_rows_of := PySem.W.mg_of X G a10, a_f_law_wish := f11, d_f_law_wish := _, F_f_law_wish := fun_mk (st := s_f_law_wish) l11 c11 k11, b_f_law_wish := (fun_mk (st := s_f_law_wish) l11 c11 k11).binds (fun _ _ _ _ _ _ us hl => match us, hl with | [_, _, _], _ => rfl), m_f_law_wish := PySem.W.mg_of X G a11, a_f_law_whole := f12, d_f_law_whole := _, F_f_law_whole := fun_mk (st := s_f_law_whole) l12 c12 k12, b_f_law_whole := (fun_mk (st := s_f_law_whole) l12 c12 k12).binds (fun _ _ _ _ _ _ us hl => match us, hl with | [_], _ => rfl), m_f_law_whole := PySem.W.mg_of X G a12, a_f_law_order := f13, d_f_law_order := _, F_f_law_order := fun_mk (st := s_f_law_order) l13 c13 k13, b_f_law_order := (fun_mk (st := s_f_law_order) l13 c13 k13).binds (fun _ _ _ _ _ _ us hl => match us, hl with | [_, _], _ => rfl), m_f_law_order := PySem.W.mg_of X G a13, a_f_law_fits := f14, d_f_law_fits := _, F_f_law_fits := fun_mk (st := s_f_law_fits) l14 c14 k14, b_f_law_fits := (fun_mk (st := s_f_law_fits) l14 c14 k14).binds (fun _ _ _ _ _ _ us hl => match us, hl with | [_, _, _, _], _ => rfl), m_f_law_fits := PySem.W.mg_of X G a14, a_p_clash := f15, d_p_clash := _, F_p_clash := fun_mk (st := s_p_clash) l15 c15 k15, b_p_clash := (fun_mk (st := s_p_clash) l15 c15 k15).binds (fun _ _ _ _ _ _ us hl => match us, hl with | [_, _, _, _, _], _ => rfl), m_p_clash := PySem.W.mg_of X G a15, a_f_law_work := f16, d_f_law_work := _, F_f_law_work := fun_mk (st := s_f_law_work) l16 c16 k16, b_f_law_work := (fun_mk (st := s_f_law_work) l16 c16 k16).binds (fun _ _ _ _ _ _ us hl => match us, hl with | [_, _, _, _], _ => rfl), m_f_law_work := PySem.W.mg_of X G a16, a_f_law_by := f17, d_f_law_by := _, F_f_law_by := fun_mk (st := s_f_law_by) l17 c17 k17, b_f_law_by := (fun_mk (st := s_f_law_by) l17 c17 k17).binds (fun _ _ _ _ _ _ us hl => match us, hl with | [_, _, _], _ => rfl), m_f_law_by := PySem.W.mg_of X G a17, a_p_goes_with_orders := f18, d_p_goes_with_orders := _, F_p_goes_with_orders := fun_mk (st := s_p_goes_with_orders) l18 c18 k18, b_p_goes_with_orders := (fun_mk (st := s_p_goes_with_orders) l18 c18 k18).binds (fun _ _ _ _ _ _ us hl => match us, hl with | [_, _, _, _], _ => rfl), m_p_goes_with_orders := PySem.W.mg_of X G a18, a_f_law_system := f19, d_f_law_system := _, F_f_law_system := fun_mk (st := s_f_law_system) l19 c19 k19, b_f_law_system := (fun_mk (st := s_f_law_system) l19 c19 k19).binds (fun _ _ _ _ _ _ us hl => match us, hl with | [_, _, _, _, _, _], _ => rfl), m_f_law_system := PySem.W.mg_of X G a19, a_p_first_way := f20, d_p_first_way := _, F_p_first_way := fun_mk (st := s_p_first_way) l20 c20 k20, b_p_first_way := (fun_mk (st := s_p_first_way) l20 c20 k20).binds (fun _ _ _ _ _ _ us hl => match us, hl with | [_, _, _, _], _ => rfl), m_p_first_way := PySem.W.mg_of X G a20, a_p_by_order := f21, d_p_by_order := _, F_p_by_order := fun_mk (st := s_p_by_order) l21 c21 k21, b_p_by_order := (fun_mk (st := s_p_by_order) l21 c21 k21).binds (fun _ _ _ _ _ _ us hl => match us, hl with | [_, _, _], _ => rfl), m_p_by_order := PySem.W.mg_of X G a21, a_f_law_refused := f22, d_f_law_refused := _, F_f_law_refused := fun_mk (st := s_f_law_refused) l22 c22 k22, b_f_law_refused := (fun_mk (st := s_f_law_refused) l22 c22 k22).binds (fun _ _ _ _ _ _ us hl => match us, hl with | [_, _, _], _ => rfl), m_f_law_refused := PySem.W.mg_of X G a22, a_p_law := f23, d_p_law := _, F_p_law := fun_mk (st := s_p_law) l23 c23 k23, b_p_law := (fun_mk (st := s_p_law) l23 c23 k23).binds (fun _ _ _ _ _ _ us hl => match us, hl with | [_], _ => rfl), m_p_law := PySem.W.mg_of X G a23, C_NoDeed := C_NoDeed, aC_NoDeed := aC_NoDeed, mC_NoDeed := PySem.W.mg_of X G aC_NoDeed, em_NoDeed_WishError := em_NoDeed_WishError, C_NoPlan := C_NoPlan, aC_NoPlan := aC_NoPlan, mC_NoPlan := PySem.W.mg_of X G aC_NoPlan, em_NoPlan_WishError := em_NoPlan_WishError, C_NoRoom := C_NoRoom, aC_NoRoom := aC_NoRoom, mC_NoRoom := PySem.W.mg_of X G aC_NoRoom, aI_NoRoom := fI_NoRoom, dI_NoRoom := _, FI_NoRoom := fun_mk (st := inClass (topS 4) 0) xF_NoRoom xC_NoRoom xK_NoRoom, bI_NoRoom := (fun_mk (st := inClass (topS 4) 0) xF_NoRoom xC_NoRoom xK_NoRoom).binds (fun _ _ _ _ _ _ us hl => match us, hl with | [_, _], _ => rfl), e_NoRoom := ⟨aC_NoRoom, ⟨⟨_, _, _, _, _, _, _, _, _, _, _, _, _, _, _, xL_NoRoom, xV_NoRoom⟩, xS_NoRoom, sE_NoRoom, tE_NoRoom, kE_NoRoom⟩, xI_NoRoom, xT_NoRoom, xN_NoRoom⟩, em_NoRoom_WishError := em_NoRoom_WishError, C_NoText := C_NoText, aC_NoText := aC_NoText, mC_NoText := PySem.W.mg_of X G aC_NoText, em_NoText_WishError := em_NoText_WishError, C_NotEven := C_NotEven, aC_NotEven := aC_NotEven, mC_NotEven := PySem.W.mg_of X G aC_NotEven, em_NotEven_WishError := em_NotEven_WishError, C_TooMany := C_TooMany, aC_TooMany := aC_TooMany, mC_TooMany := PySem.W.mg_of X G aC_TooMany, em_TooMany_WishError := em_TooMany_WishError, C_WishError := C_WishError, aC_WishError := aC_WishError, mC_WishError := PySem.W.mg_of X G aC_WishError, vS := vS, vT := vT, xc_NoDeed := ⟨vg_NoDeed, vh_NoDeed, ve_NoDeed, vd_NoDeed, va_NoDeed, vS, vT, vm_NoDeed⟩, ki_NoDeed_NoDeed := ki_NoDeed_NoDeed, ki_NoDeed_NoPlan := ki_NoDeed_NoPlan, ki_NoDeed_NoRoom := ki_NoDeed_NoRoom, ki_NoDeed_NoText := ki_NoDeed_NoText, ki_NoDeed_NotEven := ki_NoDeed_NotEven, ki_NoDeed_TooMany := ki_NoDeed_TooMany, ki_NoDeed_WishError := ki_NoDeed_WishError, ki_NoDeed_ValueError := ki_NoDeed_ValueError, xc_NoPlan := ⟨vg_NoPlan, vh_NoPlan, ve_NoPlan, vd_NoPlan, va_NoPlan, vS, vT, vm_NoPlan⟩, ki_NoPlan_NoDeed := ki_NoPlan_NoDeed, ki_NoPlan_NoPlan := ki_NoPlan_NoPlan, ki_NoPlan_NoRoom := ki_NoPlan_NoRoom, ki_NoPlan_NoText := ki_NoPlan_NoText, ki_NoPlan_NotEven := ki_NoPlan_NotEven, ki_NoPlan_TooMany := ki_NoPlan_TooMany, ki_NoPlan_WishError := ki_NoPlan_WishError, ki_NoPlan_ValueError := ki_NoPlan_ValueError, xc_NoRoom := ⟨vg_NoRoom, vh_NoRoom, ve_NoRoom, vd_NoRoom, va_NoRoom, vS, vT, vm_NoRoom⟩, ki_NoRoom_NoDeed := ki_NoRoom_NoDeed, ki_NoRoom_NoPlan := ki_NoRoom_NoPlan, ki_NoRoom_NoRoom := ki_NoRoom_NoRoom, ki_NoRoom_NoText := ki_NoRoom_NoText, ki_NoRoom_NotEven := ki_NoRoom_NotEven, ki_NoRoom_TooMany := ki_NoRoom_TooMany, ki_NoRoom_WishError := ki_NoRoom_WishError, ki_NoRoom_ValueError := ki_NoRoom_ValueError, xc_NoText := ⟨vg_NoText, vh_NoText, ve_NoText, vd_NoText, va_NoText, vS, vT, vm_NoText⟩, ki_NoText_NoDeed := ki_NoText_NoDeed, ki_NoText_NoPlan := ki_NoText_NoPlan, ki_NoText_NoRoom := ki_NoText_NoRoom, ki_NoText_NoText := ki_NoText_NoText, ki_NoText_NotEven := ki_NoText_NotEven, ki_NoText_TooMany := ki_NoText_TooMany, ki_NoText_WishError := ki_NoText_WishError, ki_NoText_ValueError := ki_NoText_ValueError, xc_NotEven := ⟨vg_NotEven, vh_NotEven, ve_NotEven, vd_NotEven, va_NotEven, vS, vT, vm_NotEven⟩, ki_NotEven_NoDeed := ki_NotEven_NoDeed, ki_NotEven_NoPlan := ki_NotEven_NoPlan, ki_NotEven_NoRoom := ki_NotEven_NoRoom, ki_NotEven_NoText := ki_NotEven_NoText, ki_NotEven_NotEven := ki_NotEven_NotEven, ki_NotEven_TooMany := ki_NotEven_TooMany, ki_NotEven_WishError := ki_NotEven_WishError, ki_NotEven_ValueError := ki_NotEven_ValueError, xc_TooMany := ⟨vg_TooMany, vh_TooMany, ve_TooMany, vd_TooMany, va_TooMany, vS, vT, vm_TooMany⟩, ki_TooMany_NoDeed := ki_TooMany_NoDeed, ki_TooMany_NoPlan := ki_TooMany_NoPlan, ki_TooMany_NoRoom := ki_TooMany_NoRoom, ki_TooMany_NoText := ki_TooMany_NoText, ki_TooMany_NotEven := ki_TooMany_NotEven, ki_TooMany_TooMany := ki_TooMany_TooMany, ki_TooMany_WishError := ki_TooMany_WishError, ki_TooMany_ValueError := ki_TooMany_ValueError, kt_NoDeed := kt_NoDeed, kn_NoDeed := kn_NoDeed, kt_NoPlan := kt_NoPlan, kn_NoPlan := kn_NoPlan, kt_NoRoom := kt_NoRoom, kn_NoRoom := kn_NoRoom, kt_NoText := kt_NoText, kn_NoText := kn_NoText, kt_NotEven := kt_NotEven, kn_NotEven := kn_NotEven, kt_TooMany := kt_TooMany, kn_TooMany := kn_TooMany, kt_WishError := kt_WishError, kn_WishError := kn_WishError, xf_NoRoom := ⟨xg_NoRoom, xh_NoRoom, xe_NoRoom, xd_NoRoom⟩, no_NoRoom_work := xn_NoRoom_work, n_ValueError := PySem.W.mg_none_of X G z_ValueError, n_abs := PySem.W.mg_none_of X G z_abs, n_enumerate := PySem.W.mg_none_of X G z_enumerate, n_int := PySem.W.mg_none_of X G z_int, n_isinstance := PySem.W.mg_none_of X G z_isinstance, n_len := PySem.W.mg_none_of X G z_len, n_min := PySem.W.mg_none_of X G z_min, n_range := PySem.W.mg_none_of X G z_range, n_repr := PySem.W.mg_none_of X G z_repr, n_sorted := PySem.W.mg_none_of X G z_sorted, n_tuple := PySem.W.mg_none_of X G z_tuple }
  exact ⟨T.d_p_law, fun s v => .of_eq rfl, fun base _ _ _ => ok_p_law T⟩
end DL.M
namespace DL
namespace HeadF
open PySem PySem.Spec PyProof.Rows L2
theorem facts {w : World} {K : PySem.W.Frag} {h : Heap} {mg : Str → Option Value} {fa : Addr} (X : K.In h) (G : h.Ns mainGlobals mg) (hfa : mg "law" = some (.ref fa)) (c : SaysW dfs (fun K => exs.all fun f => f K) h K) :
    ∃ fd : FuncData, (∀ (s : Shared) (v : Value), BindsTo s fd ⟨[v], []⟩ [("_law_script", v)]) ∧ ∀ base : Heap, K.In base → base.Ns mainGlobals mg → (∀ p ∈ tabCs K, LamX.TabB base mg p.1 p.2) → FnG PySem.Challenge.rw_workwishes_k36_no_room.prog w K mg base CX0 8 fa fd ["_law_script"] (spOf K DL.M.S_p_law) := by
  obtain ⟨_, _, _, _, _, _, _, _, _, _, _, _, _, _, _, xL_NoRoom, xV_NoRoom⟩ := oexB_ok (exs_at c.ex 8 (f := fun K => oexB K (He.ga K "NoRoom")) rfl)
  obtain ⟨_, _, _, _, _, _, _, _, _, xF_NoRoom, xC_NoRoom, xK_NoRoom⟩ := def_at c.d 24 (d := d_init_NoRoom) rfl rfl
  obtain ⟨_, _, _, _, _, _, _, _, _, l0, c0, k0⟩ := def_at c.d 0 (d := d_p_end_of) rfl rfl
  obtain ⟨_, _, _, _, _, _, _, _, _, l1, c1, k1⟩ := def_at c.d 1 (d := d_f_law_deck) rfl rfl
  obtain ⟨_, _, _, _, _, _, _, _, _, l2, c2, k2⟩ := def_at c.d 2 (d := d_f_law_next) rfl rfl
  obtain ⟨_, _, _, _, _, _, _, _, _, l3, c3, k3⟩ := def_at c.d 3 (d := d_f_law_put) rfl rfl
  obtain ⟨_, _, _, _, _, _, _, _, _, l4, c4, k4⟩ := def_at c.d 4 (d := d_f_law_same) rfl rfl
  obtain ⟨_, _, _, _, _, _, _, _, _, l5, c5, k5⟩ := def_at c.d 5 (d := d_f_law_ways) rfl rfl
  obtain ⟨_, _, _, _, _, _, _, _, _, l6, c6, k6⟩ := def_at c.d 6 (d := d_f_law_clash) rfl rfl
  obtain ⟨_, _, _, _, _, _, _, _, _, l7, c7, k7⟩ := def_at c.d 7 (d := d_f_law_stands) rfl rfl
  obtain ⟨_, _, _, _, _, _, _, _, _, l8, c8, k8⟩ := def_at c.d 8 (d := d_f_law_is_kind) rfl rfl
  obtain ⟨_, _, _, _, _, _, _, _, _, l9, c9, k9⟩ := def_at c.d 9 (d := d_p_is_behind) rfl rfl
  obtain ⟨_, _, _, _, _, _, _, _, _, l10, c10, k10⟩ := def_at c.d 10 (d := d_f_law_rows_of) rfl rfl
  obtain ⟨_, _, _, _, _, _, _, _, _, l11, c11, k11⟩ := def_at c.d 11 (d := d_f_law_wish) rfl rfl
  obtain ⟨_, _, _, _, _, _, _, _, _, l12, c12, k12⟩ := def_at c.d 12 (d := d_f_law_whole) rfl rfl
  obtain ⟨_, _, _, _, _, _, _, _, _, l13, c13, k13⟩ := def_at c.d 13 (d := d_f_law_order) rfl rfl
  obtain ⟨_, _, _, _, _, _, _, _, _, l14, c14, k14⟩ := def_at c.d 14 (d := d_f_law_fits) rfl rfl
  obtain ⟨_, _, _, _, _, _, _, _, _, l15, c15, k15⟩ := def_at c.d 15 (d := d_p_clash) rfl rfl
  obtain ⟨_, _, _, _, _, _, _, _, _, l16, c16, k16⟩ := def_at c.d 16 (d := d_f_law_work) rfl rfl
  obtain ⟨_, _, _, _, _, _, _, _, _, l17, c17, k17⟩ := def_at c.d 17 (d := d_f_law_by) rfl rfl
  obtain ⟨_, _, _, _, _, _, _, _, _, l18, c18, k18⟩ := def_at c.d 18 (d := d_p_goes_with_orders) rfl rfl
  obtain ⟨_, _, _, _, _, _, _, _, _, l19, c19, k19⟩ := def_at c.d 19 (d := d_f_law_system) rfl rfl
  obtain ⟨_, _, _, _, _, _, _, _, _, l20, c20, k20⟩ := def_at c.d 20 (d := d_p_first_way) rfl rfl
  obtain ⟨_, _, _, _, _, _, _, _, _, l21, c21, k21⟩ := def_at c.d 21 (d := d_p_by_order) rfl rfl
  obtain ⟨_, _, _, _, _, _, _, _, _, l22, c22, k22⟩ := def_at c.d 22 (d := d_f_law_refused) rfl rfl
  obtain ⟨_, _, _, _, _, _, _, _, _, l23, c23, k23⟩ := def_at c.d 23 (d := d_p_law) rfl rfl
  exact DL.M.all_mk (l := PySem.Challenge.rw_workwishes_k36_no_room) X G hfa (of_decide_eq_true (exs_at c.ex 0 (f := fun K => decide (PySem.W.nsIn K mainGlobals "NoDeed" = some (some (.ref (He.ga K "NoDeed"))))) rfl)) (of_decide_eq_true (exs_at c.ex 1 (f := fun K => decide (PySem.W.exmOne K (.ref (He.ga K "NoDeed")) (.ref (He.ga K "WishError")) = some true)) rfl)) (of_decide_eq_true (exs_at c.ex 2 (f := fun K => decide (PySem.W.nsIn K mainGlobals "NoPlan" = some (some (.ref (He.ga K "NoPlan"))))) rfl)) (of_decide_eq_true (exs_at c.ex 3 (f := fun K => decide (PySem.W.exmOne K (.ref (He.ga K "NoPlan")) (.ref (He.ga K "WishError")) = some true)) rfl)) (of_decide_eq_true (exs_at c.ex 4 (f := fun K => decide (PySem.W.nsIn K mainGlobals "NoRoom" = some (some (.ref (He.ga K "NoRoom"))))) rfl)) (of_decide_eq_true (exs_at c.ex 5 (f := fun K => decide (PySem.W.keepIn K (.ref (He.ga K "NoRoom")) = true)) rfl)) (of_decide_eq_true (exs_at c.ex 6 (f := fun K => decide (PySem.W.subIn K (.ref (He.ga K "NoRoom")) (.type "BaseException") = some true)) rfl)) (of_decide_eq_true (exs_at c.ex 7 (f := fun K => decide (PySem.W.typeIn K (.ref (He.ga K "NoRoom")) = some (.type "type"))) rfl)) xL_NoRoom xV_NoRoom (of_decide_eq_true (exs_at c.ex 9 (f := fun K => decide (PySem.W.findIn K (.ref (He.ga K "NoRoom")) "__setattr__" = some (some (.builtin "object.__setattr__")))) rfl)) (of_decide_eq_true (exs_at c.ex 10 (f := fun K => decide (PySem.W.findIn K (.ref (He.ga K "NoRoom")) "__init__" = some (some (.ref (He.fAd K d_init_NoRoom.at_))))) rfl)) (of_decide_eq_true (exs_at c.ex 11 (f := fun K => decide (PySem.W.typeIn K (.ref (He.fAd K d_init_NoRoom.at_)) = some (.type "function"))) rfl)) (of_decide_eq_true (exs_at c.ex 12 (f := fun K => decide (PySem.W.findIn K (.ref (He.ga K "NoRoom")) "work" = some none)) rfl)) xF_NoRoom xC_NoRoom xK_NoRoom (of_decide_eq_true (exs_at c.ex 13 (f := fun K => decide (PySem.W.exmOne K (.ref (He.ga K "NoRoom")) (.ref (He.ga K "WishError")) = some true)) rfl)) (of_decide_eq_true (exs_at c.ex 14 (f := fun K => decide (PySem.W.nsIn K mainGlobals "NoText" = some (some (.ref (He.ga K "NoText"))))) rfl)) (of_decide_eq_true (exs_at c.ex 15 (f := fun K => decide (PySem.W.exmOne K (.ref (He.ga K "NoText")) (.ref (He.ga K "WishError")) = some true)) rfl)) (of_decide_eq_true (exs_at c.ex 16 (f := fun K => decide (PySem.W.nsIn K mainGlobals "NotEven" = some (some (.ref (He.ga K "NotEven"))))) rfl)) (of_decide_eq_true (exs_at c.ex 17 (f := fun K => decide (PySem.W.exmOne K (.ref (He.ga K "NotEven")) (.ref (He.ga K "WishError")) = some true)) rfl)) (of_decide_eq_true (exs_at c.ex 18 (f := fun K => decide (PySem.W.nsIn K mainGlobals "TooMany" = some (some (.ref (He.ga K "TooMany"))))) rfl)) (of_decide_eq_true (exs_at c.ex 19 (f := fun K => decide (PySem.W.exmOne K (.ref (He.ga K "TooMany")) (.ref (He.ga K "WishError")) = some true)) rfl)) (of_decide_eq_true (exs_at c.ex 20 (f := fun K => decide (PySem.W.nsIn K mainGlobals "WishError" = some (some (.ref (He.ga K "WishError"))))) rfl)) (of_decide_eq_true (exs_at c.ex 21 (f := fun K => decide (PySem.W.specialIn K (.builtin "object.__class__") "__get__" = some (some (.builtin "getset_descriptor.__get__")))) rfl)) (of_decide_eq_true (exs_at c.ex 22 (f := fun K => decide (PySem.W.takesIn K (.builtin "object.__class__") = some true)) rfl)) (of_decide_eq_true (exs_at c.ex 23 (f := fun K => decide (PySem.W.findIn K (.ref (He.ga K "NoDeed")) "__getattribute__" = some (some (.builtin "BaseException.__getattribute__")))) rfl)) (of_decide_eq_true (exs_at c.ex 24 (f := fun K => decide (PySem.W.findIn K (.ref (He.ga K "NoDeed")) "__getattr__" = some none)) rfl)) (of_decide_eq_true (exs_at c.ex 25 (f := fun K => decide (PySem.W.subIn K (.ref (He.ga K "NoDeed")) (.type "BaseException") = some true)) rfl)) (of_decide_eq_true (exs_at c.ex 26 (f := fun K => decide (PySem.W.hasDictIn K (He.ga K "NoDeed") = true)) rfl)) (of_decide_eq_true (exs_at c.ex 27 (f := fun K => decide (PySem.W.findIn K (.ref (He.ga K "NoDeed")) "__class__" = some (some (.builtin "object.__class__")))) rfl)) (of_decide_eq_true (exs_at c.ex 28 (f := fun K => decide (PySem.W.mroIn K (He.ga K "NoDeed") (.type "object") = some true)) rfl)) (of_decide_eq_true (exs_at c.ex 29 (f := fun K => decide (PySem.W.kitOne K (.ref (He.ga K "NoDeed")) (.ref (He.ga K "NoDeed")) = some true)) rfl)) (of_decide_eq_true (exs_at c.ex 30 (f := fun K => decide (PySem.W.kitOne K (.ref (He.ga K "NoDeed")) (.ref (He.ga K "NoPlan")) = some false)) rfl)) (of_decide_eq_true (exs_at c.ex 31 (f := fun K => decide (PySem.W.kitOne K (.ref (He.ga K "NoDeed")) (.ref (He.ga K "NoRoom")) = some false)) rfl)) (of_decide_eq_true (exs_at c.ex 32 (f := fun K => decide (PySem.W.kitOne K (.ref (He.ga K "NoDeed")) (.ref (He.ga K "NoText")) = some false)) rfl)) (of_decide_eq_true (exs_at c.ex 33 (f := fun K => decide (PySem.W.kitOne K (.ref (He.ga K "NoDeed")) (.ref (He.ga K "NotEven")) = some false)) rfl)) (of_decide_eq_true (exs_at c.ex 34 (f := fun K => decide (PySem.W.kitOne K (.ref (He.ga K "NoDeed")) (.ref (He.ga K "TooMany")) = some false)) rfl)) (of_decide_eq_true (exs_at c.ex 35 (f := fun K => decide (PySem.W.kitOne K (.ref (He.ga K "NoDeed")) (.ref (He.ga K "WishError")) = some true)) rfl)) (of_decide_eq_true (exs_at c.ex 36 (f := fun K => decide (PySem.W.kitOne K (.ref (He.ga K "NoDeed")) (.type "ValueError") = some true)) rfl)) (of_decide_eq_true (exs_at c.ex 37 (f := fun K => decide (PySem.W.findIn K (.ref (He.ga K "NoPlan")) "__getattribute__" = some (some (.builtin "BaseException.__getattribute__")))) rfl)) (of_decide_eq_true (exs_at c.ex 38 (f := fun K => decide (PySem.W.findIn K (.ref (He.ga K "NoPlan")) "__getattr__" = some none)) rfl)) (of_decide_eq_true (exs_at c.ex 39 (f := fun K => decide (PySem.W.subIn K (.ref (He.ga K "NoPlan")) (.type "BaseException") = some true)) rfl)) (of_decide_eq_true (exs_at c.ex 40 (f := fun K => decide (PySem.W.hasDictIn K (He.ga K "NoPlan") = true)) rfl)) (of_decide_eq_true (exs_at c.ex 41 (f := fun K => decide (PySem.W.findIn K (.ref (He.ga K "NoPlan")) "__class__" = some (some (.builtin "object.__class__")))) rfl)) (of_decide_eq_true (exs_at c.ex 42 (f := fun K => decide (PySem.W.mroIn K (He.ga K "NoPlan") (.type "object") = some true)) rfl)) (of_decide_eq_true (exs_at c.ex 43 (f := fun K => decide (PySem.W.kitOne K (.ref (He.ga K "NoPlan")) (.ref (He.ga K "NoDeed")) = some false)) rfl)) (of_decide_eq_true (exs_at c.ex 44 (f := fun K => decide (PySem.W.kitOne K (.ref (He.ga K "NoPlan")) (.ref (He.ga K "NoPlan")) = some true)) rfl)) (of_decide_eq_true (exs_at c.ex 45 (f := fun K => decide (PySem.W.kitOne K (.ref (He.ga K "NoPlan")) (.ref (He.ga K "NoRoom")) = some false)) rfl)) (of_decide_eq_true (exs_at c.ex 46 (f := fun K => decide (PySem.W.kitOne K (.ref (He.ga K "NoPlan")) (.ref (He.ga K "NoText")) = some false)) rfl)) (of_decide_eq_true (exs_at c.ex 47 (f := fun K => decide (PySem.W.kitOne K (.ref (He.ga K "NoPlan")) (.ref (He.ga K "NotEven")) = some false)) rfl)) (of_decide_eq_true (exs_at c.ex 48 (f := fun K => decide (PySem.W.kitOne K (.ref (He.ga K "NoPlan")) (.ref (He.ga K "TooMany")) = some false)) rfl)) (of_decide_eq_true (exs_at c.ex 49 (f := fun K => decide (PySem.W.kitOne K (.ref (He.ga K "NoPlan")) (.ref (He.ga K "WishError")) = some true)) rfl)) (of_decide_eq_true (exs_at c.ex 50 (f := fun K => decide (PySem.W.kitOne K (.ref (He.ga K "NoPlan")) (.type "ValueError") = some true)) rfl)) (of_decide_eq_true (exs_at c.ex 51 (f := fun K => decide (PySem.W.findIn K (.ref (He.ga K "NoRoom")) "__getattribute__" = some (some (.builtin "BaseException.__getattribute__")))) rfl)) (of_decide_eq_true (exs_at c.ex 52 (f := fun K => decide (PySem.W.findIn K (.ref (He.ga K "NoRoom")) "__getattr__" = some none)) rfl)) (of_decide_eq_true (exs_at c.ex 53 (f := fun K => decide (PySem.W.subIn K (.ref (He.ga K "NoRoom")) (.type "BaseException") = some true)) rfl)) (of_decide_eq_true (exs_at c.ex 54 (f := fun K => decide (PySem.W.hasDictIn K (He.ga K "NoRoom") = true)) rfl)) (of_decide_eq_true (exs_at c.ex 55 (f := fun K => decide (PySem.W.findIn K (.ref (He.ga K "NoRoom")) "__class__" = some (some (.builtin "object.__class__")))) rfl)) (of_decide_eq_true (exs_at c.ex 56 (f := fun K => decide (PySem.W.mroIn K (He.ga K "NoRoom") (.type "object") = some true)) rfl)) (of_decide_eq_true (exs_at c.ex 57 (f := fun K => decide (PySem.W.kitOne K (.ref (He.ga K "NoRoom")) (.ref (He.ga K "NoDeed")) = some false)) rfl)) (of_decide_eq_true (exs_at c.ex 58 (f := fun K => decide (PySem.W.kitOne K (.ref (He.ga K "NoRoom")) (.ref (He.ga K "NoPlan")) = some false)) rfl)) (of_decide_eq_true (exs_at c.ex 59 (f := fun K => decide (PySem.W.kitOne K (.ref (He.ga K "NoRoom")) (.ref (He.ga K "NoRoom")) = some true)) rfl)) (of_decide_eq_true (exs_at c.ex 60 (f := fun K => decide (PySem.W.kitOne K (.ref (He.ga K "NoRoom")) (.ref (He.ga K "NoText")) = some false)) rfl)) (of_decide_eq_true (exs_at c.ex 61 (f := fun K => decide (PySem.W.kitOne K (.ref (He.ga K "NoRoom")) (.ref (He.ga K "NotEven")) = some false)) rfl)) (of_decide_eq_true (exs_at c.ex 62 (f := fun K => decide (PySem.W.kitOne K (.ref (He.ga K "NoRoom")) (.ref (He.ga K "TooMany")) = some false)) rfl)) (of_decide_eq_true (exs_at c.ex 63 (f := fun K => decide (PySem.W.kitOne K (.ref (He.ga K "NoRoom")) (.ref (He.ga K "WishError")) = some true)) rfl)) (of_decide_eq_true (exs_at c.ex 64 (f := fun K => decide (PySem.W.kitOne K (.ref (He.ga K "NoRoom")) (.type "ValueError") = some true)) rfl)) (of_decide_eq_true (exs_at c.ex 65 (f := fun K => decide (PySem.W.findIn K (.ref (He.ga K "NoText")) "__getattribute__" = some (some (.builtin "BaseException.__getattribute__")))) rfl)) (of_decide_eq_true (exs_at c.ex 66 (f := fun K => decide (PySem.W.findIn K (.ref (He.ga K "NoText")) "__getattr__" = some none)) rfl)) (of_decide_eq_true (exs_at c.ex 67 (f := fun K => decide (PySem.W.subIn K (.ref (He.ga K "NoText")) (.type "BaseException") = some true)) rfl)) (of_decide_eq_true (exs_at c.ex 68 (f := fun K => decide (PySem.W.hasDictIn K (He.ga K "NoText") = true)) rfl)) (of_decide_eq_true (exs_at c.ex 69 (f := fun K => decide (PySem.W.findIn K (.ref (He.ga K "NoText")) "__class__" = some (some (.builtin "object.__class__")))) rfl)) (of_decide_eq_true (exs_at c.ex 70 (f := fun K => decide (PySem.W.mroIn K (He.ga K "NoText") (.type "object") = some true)) rfl)) (of_decide_eq_true (exs_at c.ex 71 (f := fun K => decide (PySem.W.kitOne K (.ref (He.ga K "NoText")) (.ref (He.ga K "NoDeed")) = some false)) rfl)) (of_decide_eq_true (exs_at c.ex 72 (f := fun K => decide (PySem.W.kitOne K (.ref (He.ga K "NoText")) (.ref (He.ga K "NoPlan")) = some false)) rfl)) (of_decide_eq_true (exs_at c.ex 73 (f := fun K => decide (PySem.W.kitOne K (.ref (He.ga K "NoText")) (.ref (He.ga K "NoRoom")) = some false)) rfl)) (of_decide_eq_true (exs_at c.ex 74 (f := fun K => decide (PySem.W.kitOne K (.ref (He.ga K "NoText")) (.ref (He.ga K "NoText")) = some true)) rfl)) (of_decide_eq_true (exs_at c.ex 75 (f := fun K => decide (PySem.W.kitOne K (.ref (He.ga K "NoText")) (.ref (He.ga K "NotEven")) = some false)) rfl)) (of_decide_eq_true (exs_at c.ex 76 (f := fun K => decide (PySem.W.kitOne K (.ref (He.ga K "NoText")) (.ref (He.ga K "TooMany")) = some false)) rfl)) (of_decide_eq_true (exs_at c.ex 77 (f := fun K => decide (PySem.W.kitOne K (.ref (He.ga K "NoText")) (.ref (He.ga K "WishError")) = some true)) rfl)) (of_decide_eq_true (exs_at c.ex 78 (f := fun K => decide (PySem.W.kitOne K (.ref (He.ga K "NoText")) (.type "ValueError") = some true)) rfl)) (of_decide_eq_true (exs_at c.ex 79 (f := fun K => decide (PySem.W.findIn K (.ref (He.ga K "NotEven")) "__getattribute__" = some (some (.builtin "BaseException.__getattribute__")))) rfl)) (of_decide_eq_true (exs_at c.ex 80 (f := fun K => decide (PySem.W.findIn K (.ref (He.ga K "NotEven")) "__getattr__" = some none)) rfl)) (of_decide_eq_true (exs_at c.ex 81 (f := fun K => decide (PySem.W.subIn K (.ref (He.ga K "NotEven")) (.type "BaseException") = some true)) rfl)) (of_decide_eq_true (exs_at c.ex 82 (f := fun K => decide (PySem.W.hasDictIn K (He.ga K "NotEven") = true)) rfl)) (of_decide_eq_true (exs_at c.ex 83 (f := fun K => decide (PySem.W.findIn K (.ref (He.ga K "NotEven")) "__class__" = some (some (.builtin "object.__class__")))) rfl)) (of_decide_eq_true (exs_at c.ex 84 (f := fun K => decide (PySem.W.mroIn K (He.ga K "NotEven") (.type "object") = some true)) rfl)) (of_decide_eq_true (exs_at c.ex 85 (f := fun K => decide (PySem.W.kitOne K (.ref (He.ga K "NotEven")) (.ref (He.ga K "NoDeed")) = some false)) rfl)) (of_decide_eq_true (exs_at c.ex 86 (f := fun K => decide (PySem.W.kitOne K (.ref (He.ga K "NotEven")) (.ref (He.ga K "NoPlan")) = some false)) rfl)) (of_decide_eq_true (exs_at c.ex 87 (f := fun K => decide (PySem.W.kitOne K (.ref (He.ga K "NotEven")) (.ref (He.ga K "NoRoom")) = some false)) rfl)) (of_decide_eq_true (exs_at c.ex 88 (f := fun K => decide (PySem.W.kitOne K (.ref (He.ga K "NotEven")) (.ref (He.ga K "NoText")) = some false)) rfl)) (of_decide_eq_true (exs_at c.ex 89 (f := fun K => decide (PySem.W.kitOne K (.ref (He.ga K "NotEven")) (.ref (He.ga K "NotEven")) = some true)) rfl)) (of_decide_eq_true (exs_at c.ex 90 (f := fun K => decide (PySem.W.kitOne K (.ref (He.ga K "NotEven")) (.ref (He.ga K "TooMany")) = some false)) rfl)) (of_decide_eq_true (exs_at c.ex 91 (f := fun K => decide (PySem.W.kitOne K (.ref (He.ga K "NotEven")) (.ref (He.ga K "WishError")) = some true)) rfl)) (of_decide_eq_true (exs_at c.ex 92 (f := fun K => decide (PySem.W.kitOne K (.ref (He.ga K "NotEven")) (.type "ValueError") = some true)) rfl)) (of_decide_eq_true (exs_at c.ex 93 (f := fun K => decide (PySem.W.findIn K (.ref (He.ga K "TooMany")) "__getattribute__" = some (some (.builtin "BaseException.__getattribute__")))) rfl)) (of_decide_eq_true (exs_at c.ex 94 (f := fun K => decide (PySem.W.findIn K (.ref (He.ga K "TooMany")) "__getattr__" = some none)) rfl)) (of_decide_eq_true (exs_at c.ex 95 (f := fun K => decide (PySem.W.subIn K (.ref (He.ga K "TooMany")) (.type "BaseException") = some true)) rfl)) (of_decide_eq_true (exs_at c.ex 96 (f := fun K => decide (PySem.W.hasDictIn K (He.ga K "TooMany") = true)) rfl)) (of_decide_eq_true (exs_at c.ex 97 (f := fun K => decide (PySem.W.findIn K (.ref (He.ga K "TooMany")) "__class__" = some (some (.builtin "object.__class__")))) rfl)) (of_decide_eq_true (exs_at c.ex 98 (f := fun K => decide (PySem.W.mroIn K (He.ga K "TooMany") (.type "object") = some true)) rfl)) (of_decide_eq_true (exs_at c.ex 99 (f := fun K => decide (PySem.W.kitOne K (.ref (He.ga K "TooMany")) (.ref (He.ga K "NoDeed")) = some false)) rfl)) (of_decide_eq_true (exs_at c.ex 100 (f := fun K => decide (PySem.W.kitOne K (.ref (He.ga K "TooMany")) (.ref (He.ga K "NoPlan")) = some false)) rfl)) (of_decide_eq_true (exs_at c.ex 101 (f := fun K => decide (PySem.W.kitOne K (.ref (He.ga K "TooMany")) (.ref (He.ga K "NoRoom")) = some false)) rfl)) (of_decide_eq_true (exs_at c.ex 102 (f := fun K => decide (PySem.W.kitOne K (.ref (He.ga K "TooMany")) (.ref (He.ga K "NoText")) = some false)) rfl)) (of_decide_eq_true (exs_at c.ex 103 (f := fun K => decide (PySem.W.kitOne K (.ref (He.ga K "TooMany")) (.ref (He.ga K "NotEven")) = some false)) rfl)) (of_decide_eq_true (exs_at c.ex 104 (f := fun K => decide (PySem.W.kitOne K (.ref (He.ga K "TooMany")) (.ref (He.ga K "TooMany")) = some true)) rfl)) (of_decide_eq_true (exs_at c.ex 105 (f := fun K => decide (PySem.W.kitOne K (.ref (He.ga K "TooMany")) (.ref (He.ga K "WishError")) = some true)) rfl)) (of_decide_eq_true (exs_at c.ex 106 (f := fun K => decide (PySem.W.kitOne K (.ref (He.ga K "TooMany")) (.type "ValueError") = some true)) rfl)) (of_decide_eq_true (exs_at c.ex 107 (f := fun K => decide (PySem.W.kitOne K (.type "tuple") (.ref (He.ga K "NoDeed")) = some false)) rfl)) (of_decide_eq_true (exs_at c.ex 108 (f := fun K => decide (PySem.W.kitOne K (.type "int") (.ref (He.ga K "NoDeed")) = some false)) rfl)) (of_decide_eq_true (exs_at c.ex 109 (f := fun K => decide (PySem.W.kitOne K (.type "tuple") (.ref (He.ga K "NoPlan")) = some false)) rfl)) (of_decide_eq_true (exs_at c.ex 110 (f := fun K => decide (PySem.W.kitOne K (.type "int") (.ref (He.ga K "NoPlan")) = some false)) rfl)) (of_decide_eq_true (exs_at c.ex 111 (f := fun K => decide (PySem.W.kitOne K (.type "tuple") (.ref (He.ga K "NoRoom")) = some false)) rfl)) (of_decide_eq_true (exs_at c.ex 112 (f := fun K => decide (PySem.W.kitOne K (.type "int") (.ref (He.ga K "NoRoom")) = some false)) rfl)) (of_decide_eq_true (exs_at c.ex 113 (f := fun K => decide (PySem.W.kitOne K (.type "tuple") (.ref (He.ga K "NoText")) = some false)) rfl)) (of_decide_eq_true (exs_at c.ex 114 (f := fun K => decide (PySem.W.kitOne K (.type "int") (.ref (He.ga K "NoText")) = some false)) rfl)) (of_decide_eq_true (exs_at c.ex 115 (f := fun K => decide (PySem.W.kitOne K (.type "tuple") (.ref (He.ga K "NotEven")) = some false)) rfl)) (of_decide_eq_true (exs_at c.ex 116 (f := fun K => decide (PySem.W.kitOne K (.type "int") (.ref (He.ga K "NotEven")) = some false)) rfl)) (of_decide_eq_true (exs_at c.ex 117 (f := fun K => decide (PySem.W.kitOne K (.type "tuple") (.ref (He.ga K "TooMany")) = some false)) rfl)) (of_decide_eq_true (exs_at c.ex 118 (f := fun K => decide (PySem.W.kitOne K (.type "int") (.ref (He.ga K "TooMany")) = some false)) rfl)) (of_decide_eq_true (exs_at c.ex 119 (f := fun K => decide (PySem.W.kitOne K (.type "tuple") (.ref (He.ga K "WishError")) = some false)) rfl)) (of_decide_eq_true (exs_at c.ex 120 (f := fun K => decide (PySem.W.kitOne K (.type "int") (.ref (He.ga K "WishError")) = some false)) rfl)) (of_decide_eq_true (exs_at c.ex 121 (f := fun K => decide (PySem.W.findIn K (.ref (He.ga K "NoRoom")) "__getattribute__" = some (some (.builtin "BaseException.__getattribute__")))) rfl)) (of_decide_eq_true (exs_at c.ex 122 (f := fun K => decide (PySem.W.findIn K (.ref (He.ga K "NoRoom")) "__getattr__" = some none)) rfl)) (of_decide_eq_true (exs_at c.ex 123 (f := fun K => decide (PySem.W.subIn K (.ref (He.ga K "NoRoom")) (.type "BaseException") = some true)) rfl)) (of_decide_eq_true (exs_at c.ex 124 (f := fun K => decide (PySem.W.hasDictIn K (He.ga K "NoRoom") = true)) rfl)) (of_decide_eq_true (exs_at c.ex 125 (f := fun K => decide (PySem.W.findIn K (.ref (He.ga K "NoRoom")) "work" = some none)) rfl)) (of_decide_eq_true (exs_at c.ex 126 (f := fun K => decide (PySem.W.nsIn K mainGlobals "end_of" = some (some (.ref (He.fAd K d_p_end_of.at_))))) rfl)) l0 c0 k0 (of_decide_eq_true (exs_at c.ex 127 (f := fun K => decide (PySem.W.nsIn K mainGlobals "_law_deck" = some (some (.ref (He.fAd K d_f_law_deck.at_))))) rfl)) l1 c1 k1 (of_decide_eq_true (exs_at c.ex 128 (f := fun K => decide (PySem.W.nsIn K mainGlobals "_law_next" = some (some (.ref (He.fAd K d_f_law_next.at_))))) rfl)) l2 c2 k2 (of_decide_eq_true (exs_at c.ex 129 (f := fun K => decide (PySem.W.nsIn K mainGlobals "_law_put" = some (some (.ref (He.fAd K d_f_law_put.at_))))) rfl)) l3 c3 k3 (of_decide_eq_true (exs_at c.ex 130 (f := fun K => decide (PySem.W.nsIn K mainGlobals "_law_same" = some (some (.ref (He.fAd K d_f_law_same.at_))))) rfl)) l4 c4 k4 (of_decide_eq_true (exs_at c.ex 131 (f := fun K => decide (PySem.W.nsIn K mainGlobals "_law_ways" = some (some (.ref (He.fAd K d_f_law_ways.at_))))) rfl)) l5 c5 k5 (of_decide_eq_true (exs_at c.ex 132 (f := fun K => decide (PySem.W.nsIn K mainGlobals "_law_clash" = some (some (.ref (He.fAd K d_f_law_clash.at_))))) rfl)) l6 c6 k6 (of_decide_eq_true (exs_at c.ex 133 (f := fun K => decide (PySem.W.nsIn K mainGlobals "_law_stands" = some (some (.ref (He.fAd K d_f_law_stands.at_))))) rfl)) l7 c7 k7 (of_decide_eq_true (exs_at c.ex 134 (f := fun K => decide (PySem.W.nsIn K mainGlobals "_law_is_kind" = some (some (.ref (He.fAd K d_f_law_is_kind.at_))))) rfl)) l8 c8 k8 (of_decide_eq_true (exs_at c.ex 135 (f := fun K => decide (PySem.W.nsIn K mainGlobals "is_behind" = some (some (.ref (He.fAd K d_p_is_behind.at_))))) rfl)) l9 c9 k9 (of_decide_eq_true (exs_at c.ex 136 (f := fun K => decide (PySem.W.nsIn K mainGlobals "_law_rows_of" = some (some (.ref (He.fAd K d_f_law_rows_of.at_))))) rfl)) l10 c10 k10 (of_decide_eq_true (exs_at c.ex 137 (f := fun K => decide (PySem.W.nsIn K mainGlobals "_law_wish" = some (some (.ref (He.fAd K d_f_law_wish.at_))))) rfl)) l11 c11 k11 (of_decide_eq_true (exs_at c.ex 138 (f := fun K => decide (PySem.W.nsIn K mainGlobals "_law_whole" = some (some (.ref (He.fAd K d_f_law_whole.at_))))) rfl)) l12 c12 k12 (of_decide_eq_true (exs_at c.ex 139 (f := fun K => decide (PySem.W.nsIn K mainGlobals "_law_order" = some (some (.ref (He.fAd K d_f_law_order.at_))))) rfl)) l13 c13 k13 (of_decide_eq_true (exs_at c.ex 140 (f := fun K => decide (PySem.W.nsIn K mainGlobals "_law_fits" = some (some (.ref (He.fAd K d_f_law_fits.at_))))) rfl)) l14 c14 k14 (of_decide_eq_true (exs_at c.ex 141 (f := fun K => decide (PySem.W.nsIn K mainGlobals "clash" = some (some (.ref (He.fAd K d_p_clash.at_))))) rfl)) l15 c15 k15 (of_decide_eq_true (exs_at c.ex 142 (f := fun K => decide (PySem.W.nsIn K mainGlobals "_law_work" = some (some (.ref (He.fAd K d_f_law_work.at_))))) rfl)) l16 c16 k16 (of_decide_eq_true (exs_at c.ex 143 (f := fun K => decide (PySem.W.nsIn K mainGlobals "_law_by" = some (some (.ref (He.fAd K d_f_law_by.at_))))) rfl)) l17 c17 k17 (of_decide_eq_true (exs_at c.ex 144 (f := fun K => decide (PySem.W.nsIn K mainGlobals "goes_with" = some (some (.ref (He.fAd K d_p_goes_with_orders.at_))))) rfl)) l18 c18 k18 (of_decide_eq_true (exs_at c.ex 145 (f := fun K => decide (PySem.W.nsIn K mainGlobals "_law_system" = some (some (.ref (He.fAd K d_f_law_system.at_))))) rfl)) l19 c19 k19 (of_decide_eq_true (exs_at c.ex 146 (f := fun K => decide (PySem.W.nsIn K mainGlobals "first_way" = some (some (.ref (He.fAd K d_p_first_way.at_))))) rfl)) l20 c20 k20 (of_decide_eq_true (exs_at c.ex 147 (f := fun K => decide (PySem.W.nsIn K mainGlobals "by_order" = some (some (.ref (He.fAd K d_p_by_order.at_))))) rfl)) l21 c21 k21 (of_decide_eq_true (exs_at c.ex 148 (f := fun K => decide (PySem.W.nsIn K mainGlobals "_law_refused" = some (some (.ref (He.fAd K d_f_law_refused.at_))))) rfl)) l22 c22 k22 (of_decide_eq_true (exs_at c.ex 149 (f := fun K => decide (PySem.W.nsIn K mainGlobals "law" = some (some (.ref (He.fAd K d_p_law.at_))))) rfl)) l23 c23 k23 (of_decide_eq_true (exs_at c.ex 150 (f := fun K => decide (PySem.W.nsIn K mainGlobals "ValueError" = some none)) rfl)) (of_decide_eq_true (exs_at c.ex 151 (f := fun K => decide (PySem.W.nsIn K mainGlobals "abs" = some none)) rfl)) (of_decide_eq_true (exs_at c.ex 152 (f := fun K => decide (PySem.W.nsIn K mainGlobals "enumerate" = some none)) rfl)) (of_decide_eq_true (exs_at c.ex 153 (f := fun K => decide (PySem.W.nsIn K mainGlobals "int" = some none)) rfl)) (of_decide_eq_true (exs_at c.ex 154 (f := fun K => decide (PySem.W.nsIn K mainGlobals "isinstance" = some none)) rfl)) (of_decide_eq_true (exs_at c.ex 155 (f := fun K => decide (PySem.W.nsIn K mainGlobals "len" = some none)) rfl)) (of_decide_eq_true (exs_at c.ex 156 (f := fun K => decide (PySem.W.nsIn K mainGlobals "min" = some none)) rfl)) (of_decide_eq_true (exs_at c.ex 157 (f := fun K => decide (PySem.W.nsIn K mainGlobals "range" = some none)) rfl)) (of_decide_eq_true (exs_at c.ex 158 (f := fun K => decide (PySem.W.nsIn K mainGlobals "repr" = some none)) rfl)) (of_decide_eq_true (exs_at c.ex 159 (f := fun K => decide (PySem.W.nsIn K mainGlobals "sorted" = some none)) rfl)) (of_decide_eq_true (exs_at c.ex 160 (f := fun K => decide (PySem.W.nsIn K mainGlobals "tuple" = some none)) rfl))
end HeadF
end DL
open PySem PySem.W PySem.Calls PyProof.Rows
set_option maxHeartbeats 0 in
theorem PySem.Challenge.cw_workwishes_k36_no_room_holds : PySem.Challenge.rw_workwishes_k36_no_room.Holds := by
  w_on; o_law
  refine HandSHeadRun.head_any (r := OpenLaw.row PySem.Challenge.rw_workwishes_k36_no_room) (q := view (OpenLaw.row PySem.Challenge.rw_workwishes_k36_no_room).prog [34]) (H := DL.HeadF.hk) (ob := DL.HeadF.ob) (M := 40000) (loose := DL.HeadF.loose) (d := HandSHeadRun.topDef (OpenLaw.row PySem.Challenge.rw_workwishes_k36_no_room).prog 34) (kwd := []) DL.HeadF.ob_eq (by kernel_rfl) (fun s => by kernel_rfl) DL.HeadF.run (by kernel_rfl) (by kernel_rfl) (by kernel_rfl) (by rfl) (by first | assumption | decide +kernel) (by decide +kernel) ⟨rfl, rfl, rfl, rfl, rfl, by decide +kernel⟩ ?hw ?hc
  case hw => w_witness2
  case hc =>
    refine DL.walk_TE (l := PySem.Challenge.rw_workwishes_k36_no_room) (n := 63) (k := 8) (x := "_law_script") (sp := fun K => DL.spOf K DL.M.S_p_law) rfl (by decide) (by kernel_rfl) ⟨rfl, by decide, by decide⟩ ?F (fun K H a ns hl hT hS => DL.law_end (S := DL.M.S_p_law) rfl (fun ns => ns) (fun _ => rfl) (fun ns h => ⟨h, rfl⟩) (fun _ _ _ _ h => h) H a ns hl hT hS)
    intro w mg fa h Y G hmg0
    obtain ⟨K, KX, c⟩ := Y
    have hmg : mg ("law" : PySem.Str) = some (.ref fa) := by
      have e : (HandSHeadRun.topDef (OpenLaw.row PySem.Challenge.rw_workwishes_k36_no_room).prog 34).name = ("law" : PySem.Str) := by kernel_rfl
      rw [← e]
      exact hmg0
    exact ⟨K, KX, DL.tabs_ok KX c, DL.HeadF.facts KX G hmg c⟩
