import PyProof.Rows.All
import Wide.All
import OpenK.AllK
import Wide.FinOn
import HandS.Base
import HandS.Call
import HandS.List
import HandS.Comp
import HandS.Dict
import HandS.Iter
import HandS.Ends
import HandS.Words
import HandS.Lambda
import HandS.EndTab
import HandS.Exc
import HandS.TupAny
import HandS.TupMul
import HandS.Conv
import HandS.Zip
import KE.GoesEnum
import KE.GoesMore
import KE.GoesZip
import HandS.Head0
import HandS.Head1
import HandS.Head2
import HandS.HeadHook4
import HandS.Walk
import HandS.TupLe
import HandS.Wide
import HandS.Style
import HandS.Deep
import HandS.IsInst
import HandS.Text
import HandS.RaiseMore
import PyProof.StrOps2
import HandS.Set
import HandS.SetFor
import HandS.SetTxt0
import HandS.Strs
import HandS.SortOrd
import HandS.SortRule
import HandS.SortInts
import KE.KNestM
import HandS.ExcOwn
import HandS.ExcField
import HandS.ExcInit
import HandS.TryMany
import HandS.Small
import KE.DataMinMax
import KE.SortData
import PySem.Challenge.RW_workwishes_k45_whole_none_keeps_more
set_option Elab.async false
set_option linter.all false
set_option maxRecDepth 100000
set_option maxHeartbeats 4000000
namespace DL
open PySem PySem.Spec PyProof.Rows L2
inductive D where
  | non | bl (b : Bool) | int (i : Int) | str (s : Str) | tup (ds : List D) | lst (ds : List D) | scr (ds : List D) | dct (kvs : List (Key × Key)) | ref (n : Nat) | fn (a : Addr) (io : List Addr) (F : Hp) | exc (c : Str) (ns : List Str) (ds : List D)
inductive Cel where
  | lst (ds : List D) | dead | ins (C : Str) (fs : List (Str × D)) | dct (l : Option Obj) (kvs : List (Key × Key))
abbrev Sto := List Cel
abbrev En := List (Option D)
/-- a tuple whose object is known to have no dict -/
def SqE (K : PySem.W.Frag) (F : Hp) (a : Addr) (xs : List V) : Prop := (∃ o, F a = some (.frz o (.tup xs)) ∧ o.dict = none) ∨
  ∃ (o : Obj) (its : Array Value) (n : Nat), K.lookup a = some o ∧ o.cls = .type "tuple" ∧ o.data = .seq its n ∧ its.size ≤ sizeLine ∧ Vals xs its.toList ∧ o.dict = none
theorem SqE.t {K : PySem.W.Frag} {F : Hp} {a : Addr} {xs : List V} (s : SqE K F a xs) : SqT K F a xs := by
  rcases s with ⟨o, s, _⟩ | ⟨o, its, n, h1, h2, h3, h4, h5, _⟩
  · exact .inl (.inr ⟨o, s⟩)
  · exact .inr ⟨o, its, n, h1, h2, h3, h4, h5⟩
theorem SqE.mono {K : PySem.W.Frag} {F F' : Hp} {a : Addr} {xs : List V} (h : ∀ a o, F a = some o → F' a = some o) (s : SqE K F a xs) : SqE K F' a xs := by
  rcases s with ⟨o, s, d⟩ | s
  · exact .inl ⟨o, h _ _ s, d⟩
  · exact .inr s
/-- an exception's object at a, its class, its dict -/
def exV (C : Addr) (d : Option Addr) (a : Addr) : HO := .ext fun h => ∃ (oe : Obj) (vs : Array Value), h.get? a = some oe ∧ Zc (.ref C) d oe ∧ oe.data = .fields vs
def ExD (F : Hp) (d : Option Addr) (fv : List (Str × V)) : Prop := (d = none ∧ fv = []) ∨ ∃ dd, d = some dd ∧ F dd = some (.xd fv)
theorem ExD.mono {F F' : Hp} {d : Option Addr} {fv : List (Str × V)} (h : ∀ a o, F a = some o → F' a = some o) (x : ExD F d fv) : ExD F' d fv := by
  rcases x with x | ⟨dd, e, z⟩
  · exact .inl x
  · exact .inr ⟨dd, e, h _ _ z⟩
mutual
inductive Den (K : PySem.W.Frag) (io : List Addr) (F : Hp) : V → D → Prop
  | non : Den K io F .non .non
  | bl (b : Bool) : Den K io F (.bl b) (.bl b)
  | int (i : Int) : Den K io F (.int i) (.int i)
  | str (x : Str) : Den K io F (.str x) (.str x)
  | tup {a : Addr} {xs : List V} {ds : List D} : SqE K F a xs → DenL K io F xs ds → ds.length ≤ sizeLine → Den K io F (.ref a) (.tup ds)
  | lst {a : Addr} {xs : List V} {ds : List D} : F a = some (.lst xs) → DenL K io F xs ds → ds.length ≤ sizeLine → Den K io F (.ref a) (.lst ds)
  | scr {a : Addr} {xs : List V} {ds : List D} : SqL K F a xs → DenL K io F xs ds → ds.length ≤ sizeLine → Den K io F (.ref a) (.scr ds)
  | dct {a : Addr} {kvs : List (Key × Key)} : F a = some (.dK (kvs.map fun p => (p.1, kV p.2))) → Den K io F (.ref a) (.dct kvs)
  | ref {a : Addr} {n : Nat} : io[n]? = some a → Den K io F (.ref a) (.ref n)
  | fn {a : Addr} {io0 : List Addr} {F0 : Hp} : (∀ (n : Nat) b, io0[n]? = some b → io[n]? = some b) → (∀ b o, F0 b = some o → F b = some o) → Den K io F (.ref a) (.fn a io0 F0)
  | exc {a C : Addr} {c : Str} {d : Option Addr} {fv : List (Str × V)} {ns : List Str} {vs : List V} {ds : List D} : PySem.W.nsIn K mainGlobals c = some (some (.ref C)) → F a = some (exV C d a) → ExD F d fv → ns = fv.map (·.1) → vs = fv.map (·.2) → DenL K io F vs ds → Den K io F (.ref a) (.exc c ns ds)
inductive DenL (K : PySem.W.Frag) (io : List Addr) (F : Hp) : List V → List D → Prop
  | nil : DenL K io F [] []
  | cons {v : V} {vs : List V} {d : D} {ds : List D} : Den K io F v d → DenL K io F vs ds → DenL K io F (v :: vs) (d :: ds)
end
section
variable {K : PySem.W.Frag} {io io' : List Addr} {F F' : Hp}
theorem SqT_mono {a : Addr} {xs : List V} (h : ∀ a o, F a = some o → F' a = some o) (s : SqT K F a xs) : SqT K F' a xs := by
  rcases s with (s | ⟨o, s⟩) | s
  · exact .inl (.inl (h _ _ s))
  · exact .inl (.inr ⟨o, h _ _ s⟩)
  · exact .inr s
theorem SqL_mono {a : Addr} {xs : List V} (h : ∀ a o, F a = some o → F' a = some o) (s : SqL K F a xs) : SqL K F' a xs := by
  rcases s with (s | ⟨o, s⟩) | s
  · exact .inl (.inl (h _ _ s))
  · exact .inl (.inr ⟨o, h _ _ s⟩)
  · exact .inr s
mutual
theorem Den.mono (hi : ∀ (n : Nat) a, io[n]? = some a → io'[n]? = some a) (h : ∀ a o, F a = some o → F' a = some o) : ∀ {v : V} {d : D}, Den K io F v d → Den K io' F' v d
  | _, _, .non => .non
  | _, _, .bl b => .bl b
  | _, _, .int i => .int i
  | _, _, .str x => .str x
  | _, _, .tup s r z => .tup (s.mono h) (DenL.mono hi h r) z
  | _, _, .lst s r z => .lst (h _ _ s) (DenL.mono hi h r) z
  | _, _, .scr s r z => .scr (SqL_mono h s) (DenL.mono hi h r) z
  | _, _, .dct e => .dct (h _ _ e)
  | _, _, .ref e => .ref (hi _ _ e)
  | _, _, .fn a b => .fn (fun n c e => hi n c (a n c e)) (fun c o e => h c o (b c o e))
  | _, _, .exc n e x a b r => .exc n (h _ _ e) (x.mono h) a b (DenL.mono hi h r)
theorem DenL.mono (hi : ∀ (n : Nat) a, io[n]? = some a → io'[n]? = some a) (h : ∀ a o, F a = some o → F' a = some o) : ∀ {vs : List V} {ds : List D}, DenL K io F vs ds → DenL K io' F' vs ds
  | _, _, .nil => .nil
  | _, _, .cons a b => .cons (Den.mono hi h a) (DenL.mono hi h b)
end
theorem DenL.length : ∀ {vs : List V} {ds : List D}, DenL K io F vs ds → vs.length = ds.length
  | _, _, .nil => rfl
  | _, _, .cons _ r => by rw [List.length_cons, List.length_cons, r.length]
theorem DenL.get : ∀ {vs : List V} {ds : List D} {i : Nat} {d : D}, DenL K io F vs ds → ds[i]? = some d → ∃ v, vs[i]? = some v ∧ Den K io F v d
  | _, _, _, _, .nil, e => by simp at e
  | _, _, 0, _, .cons r _, e => by simp at e; subst e; exact ⟨_, rfl, r⟩
  | _, _, i + 1, d, .cons _ t, e => by
    obtain ⟨u, h1, h2⟩ := DenL.get (i := i) (d := d) t (by simpa using e)
    exact ⟨u, by simpa using h1, h2⟩
theorem DenL.append : ∀ {vs ws : List V} {ds es : List D}, DenL K io F vs ds → DenL K io F ws es → DenL K io F (vs ++ ws) (ds ++ es)
  | _, _, _, _, .nil, s => s
  | _, _, _, _, .cons r t, s => .cons r (DenL.append t s)
theorem DenL.take : ∀ {vs : List V} {ds : List D} (n : Nat), DenL K io F vs ds → DenL K io F (vs.take n) (ds.take n)
  | _, _, 0, _ => by rw [List.take_zero, List.take_zero]; exact .nil
  | _, _, _ + 1, .nil => .nil
  | _, _, n + 1, .cons r t => .cons r (DenL.take n t)
theorem DenL.drop : ∀ {vs : List V} {ds : List D} (n : Nat), DenL K io F vs ds → DenL K io F (vs.drop n) (ds.drop n)
  | _, _, 0, r => r
  | _, _, _ + 1, .nil => .nil
  | _, _, n + 1, .cons _ t => DenL.drop n t
theorem DenL.rev : ∀ {vs : List V} {ds : List D}, DenL K io F vs ds → DenL K io F vs.reverse ds.reverse
  | _, _, .nil => .nil
  | _, _, .cons r t => by rw [List.reverse_cons, List.reverse_cons]; exact (DenL.rev t).append (.cons r .nil)
theorem DenL.setAt : ∀ {vs : List V} {ds : List D} (i : Nat) {v : V} {d : D}, Den K io F v d → DenL K io F vs ds → DenL K io F (vs.set i v) (ds.set i d)
  | _, _, _, _, _, _, .nil => .nil
  | _, _, 0, _, _, q, .cons _ t => .cons q t
  | _, _, i + 1, _, _, q, .cons r t => .cons r (DenL.setAt i q t)
theorem DenL.erase : ∀ {vs : List V} {ds : List D} (i : Nat), DenL K io F vs ds → DenL K io F (vs.eraseIdx i) (ds.eraseIdx i)
  | _, _, _, .nil => .nil
  | _, _, 0, .cons _ t => t
  | _, _, i + 1, .cons r t => .cons r (DenL.erase i t)
theorem DenL.none_of {vs : List V} {ds : List D} {i : Nat} (r : DenL K io F vs ds) (e : ds[i]? = none) : vs[i]? = none := by
  have h := r.length
  have h2 := List.getElem?_eq_none_iff.mp e
  exact List.getElem?_eq_none_iff.mpr (by omega)
theorem DenL.replicate {v : V} {d : D} (h : Den K io F v d) : ∀ n : Nat, DenL K io F (List.replicate n v) (List.replicate n d)
  | 0 => .nil
  | n + 1 => by rw [List.replicate_succ, List.replicate_succ]; exact .cons h (DenL.replicate h n)
theorem DenL.flat {vs : List V} {ds : List D} (h : DenL K io F vs ds) : ∀ n : Nat, DenL K io F (List.replicate n vs).flatten (List.replicate n ds).flatten
  | 0 => .nil
  | n + 1 => by rw [List.replicate_succ, List.replicate_succ, List.flatten_cons, List.flatten_cons]; exact h.append (DenL.flat h n)
end
def lamNames : List Str := ["weights_of", "hoped_weights"]
def lamQ (x : Str) : Str := x ++ ".<locals>." ++ "<lambda>"
def tabsOf (K : PySem.W.Frag) : List (Addr × Str) := lamNames.filterMap fun x => (PySem.W.tabIn K x).map fun p => (p.2, lamQ x)
abbrev DenF (K : PySem.W.Frag) (io : List Addr) (F : Hp) : List (Str × V) → List (Str × D) → Prop := Paired fun p q => p.1 = q.1 ∧ Den K io F p.2 q.2
/-- a dict of one's own: open, or locked while it is walked -/
def DLk (l : Option Obj) (kvs : List (Key × Key)) (u : HO) : Prop := (l = none ∧ u = .dK (kvs.map fun p => (p.1, kV p.2))) ∨ ∃ o, l = some o ∧ u = .frz o (.dK (kvs.map fun p => (p.1, kV p.2)))
def CelOk (K : PySem.W.Frag) (H : Hp) (io : List Addr) (F : Hp) (a : Addr) : Cel → Prop
  | .lst ds => F a = none ∧ ds.length ≤ sizeLine ∧ ∃ vs, H a = some (.lst vs) ∧ DenL K io F vs ds
  | .dead => True
  | .ins C fs => F a = none ∧ ∃ cc dx fv, PySem.W.nsIn K mainGlobals C = some (some (.ref cc)) ∧ H a = some (.ins cc dx fv) ∧ DenF K io F fv fs
  | .dct b kvs => F a = none ∧ kvs.length ≤ sizeLine ∧ ∃ u, H a = some u ∧ DLk b kvs u
structure RelH (K : PySem.W.Frag) (H : Hp) (io : List Addr) (F : Hp) (st : Sto) : Prop where
  sub : ∀ a o, F a = some o → H a = some o
  len : io.length = st.length
  nd : io.Nodup
  there : ∀ a ∈ io, ∃ o, H a = some o
  cel : ∀ (n : Nat) c a, st[n]? = some c → io[n]? = some a → CelOk K H io F a c
  tab : ∀ p ∈ tabsOf K, F p.1 = none ∧ p.1 ∉ io ∧ ∃ ps, H p.1 = some (.tbl ps) ∧ TriplesOk ps.toList ∧ ∀ (pos : Pos) (cv : Value), codeAmong pos ps.toList = some cv → ∃ c, cv = .ref c ∧ F c = some (LamX.CodeO c p.2)
/-- from one state to a later one -/
structure Stp (H : Hp) (io : List Addr) (F H' : Hp) (io' : List Addr) (F' : Hp) : Prop where
  ext : ∃ more, io' = io ++ more ∧ ∀ a ∈ more, H a = none
  fr : ∀ a o, F a = some o → F' a = some o
  keep : ∀ a o, H a = some o → (∀ ps, o ≠ .tbl ps) → a ∉ io → H' a = some o
  dom : ∀ a o, H a = some o → ∃ o', H' a = some o'
  fnw : ∀ a o, F' a = some o → F a = some o ∨ H a = none ∨ a ∈ io
/-- whence an exception's wish looks on: the state at a def's, a try's or a suite's start -/
class Bs where
  H : Hp
  io : List Addr
  F : Hp
structure Rel [B : Bs] (K : PySem.W.Frag) (σ : L2.St) (H : Hp) (env : En) (io : List Addr) (F : Hp) (st : Sto) : Prop extends RelH K H io F st where
  sl : σ.length = env.length
  slot : ∀ (i : Nat) d, env[i]? = some (some d) → ∃ v, σ[i]? = some (some v) ∧ Den K io F v d
  bs : Stp B.H B.io B.F H io F
section
variable {K : PySem.W.Frag} {io io' io1 io2 : List Addr} {F F' F1 F2 H H' H1 H2 : Hp} {st st' : Sto} {σ : L2.St} {env : En}
theorem Stp.ix (s : Stp H io F H' io' F') (n : Nat) (a : Addr) (h : io[n]? = some a) : io'[n]? = some a := by
  obtain ⟨more, e, _⟩ := s.ext
  subst e
  rw [List.getElem?_append_left (List.getElem?_eq_some_iff.mp h).1]
  exact h
theorem Stp.den (s : Stp H io F H' io' F') {v : V} {d : D} (h : Den K io F v d) : Den K io' F' v d := h.mono s.ix s.fr
theorem Stp.denL (s : Stp H io F H' io' F') {v : List V} {d : List D} (h : DenL K io F v d) : DenL K io' F' v d := h.mono s.ix s.fr
theorem Stp.refl : Stp H io F H io F := ⟨⟨[], by simp, fun _ h => by cases h⟩, fun _ _ h => h, fun _ _ h _ _ => h, fun _ o h => ⟨o, h⟩, fun _ _ h => .inl h⟩
theorem Stp.none_of (s : Stp H io F H' io' F') {a : Addr} (h : H' a = none) : H a = none := by
  cases e : H a with
  | none => rfl
  | some o =>
    obtain ⟨o', h'⟩ := s.dom a o e
    rw [h] at h'; cases h'
theorem Stp.trans (s : Stp H io F H1 io1 F1) (t : Stp H1 io1 F1 H2 io2 F2) : Stp H io F H2 io2 F2 := by
  obtain ⟨m1, e1, n1⟩ := s.ext
  obtain ⟨m2, e2, n2⟩ := t.ext
  refine ⟨⟨m1 ++ m2, by rw [e2, e1, List.append_assoc], fun a ha => ?_⟩, fun a o h => t.fr _ _ (s.fr _ _ h), fun a o h hn ho => ?_, fun a o h => ?_, fun a o h => ?_⟩
  · rcases List.mem_append.mp ha with h | h
    · exact n1 a h
    · exact s.none_of (n2 a h)
  · have h1 := s.keep a o h hn ho
    refine t.keep a o h1 hn fun hm => ?_
    rw [e1] at hm
    rcases List.mem_append.mp hm with h2 | h2
    · exact ho h2
    · have := n1 a h2
      rw [h] at this; cases this
  · obtain ⟨o1, h1⟩ := s.dom a o h
    exact t.dom a o1 h1
  · rcases t.fnw a o h with h1 | h1 | h1
    · exact s.fnw a o h1
    · exact .inr (.inl (s.none_of h1))
    · rw [e1] at h1
      rcases List.mem_append.mp h1 with h2 | h2
      · exact .inr (.inr h2)
      · exact .inr (.inl (n1 a h2))
/-- an object beside frozen ones and the store stays beside, as it is -/
theorem Stp.beside (s : Stp H io F H' io' F') {p : Addr} {o : HO} (h : H p = some o) (hn : ∀ ps, o ≠ .tbl ps) (hF : F p = none) (hio : p ∉ io) : H' p = some o ∧ F' p = none ∧ p ∉ io' := by
  refine ⟨s.keep p o h hn hio, ?_, fun hm => ?_⟩
  · cases e : F' p with
    | none => rfl
    | some u =>
      rcases s.fnw p u e with h1 | h1 | h1
      · rw [hF] at h1; cases h1
      · rw [h] at h1; cases h1
      · exact absurd h1 hio
  · obtain ⟨more, e, n⟩ := s.ext
    rw [e] at hm
    rcases List.mem_append.mp hm with h1 | h1
    · exact hio h1
    · have := n p h1
      rw [h] at this; cases this
/-- an object that was not there at first may change -/
theorem Stp.own (s : Stp H io F H' io' F') {p : Addr} {o : HO} (h : H p = none) : Stp H io F (upd H' p o) io' F' :=
  ⟨s.ext, s.fr, fun a u e hn ho => by rw [upd_ne (fun z => by subst z; rw [h] at e; cases e)]; exact s.keep a u e hn ho, fun a u e => by
    by_cases z : a = p
    · subst z; exact ⟨o, upd_same⟩
    · rw [upd_ne z]; exact s.dom a u e, s.fnw⟩
/-- .. and be frozen -/
theorem Stp.frz (s : Stp H io F H' io' F') {p : Addr} {o : HO} (h : H p = none) (hF : F' p = none) : Stp H io F H' io' (upd F' p o) :=
  ⟨s.ext, fun a u e => by
    have := s.fr a u e
    rw [upd_ne (fun z => by subst z; rw [hF] at this; cases this)]
    exact this, s.keep, s.dom, fun a u e => by
    by_cases z : a = p
    · subst z; exact .inr (.inl h)
    · rw [upd_ne z] at e; exact s.fnw a u e⟩
/-- .. or a cell -/
theorem Stp.cell (s : Stp H io F H' io' F') {p : Addr} (h : H p = none) : Stp H io F H' (io' ++ [p]) F' := by
  obtain ⟨more, e, n⟩ := s.ext
  refine ⟨⟨more ++ [p], by rw [e, List.append_assoc], fun a ha => ?_⟩, s.fr, s.keep, s.dom, s.fnw⟩
  rcases List.mem_append.mp ha with h1 | h1
  · exact n a h1
  · simp at h1; subst h1; exact h
theorem Rel.next [Bs] (R : Rel K σ H env io F st) (s : Stp H io F H' io' F') (r : RelH K H' io' F' st') : Rel K σ H' env io' F' st' :=
  { r with sl := R.sl, bs := R.bs.trans s, slot := fun i d e => let ⟨v, h1, h2⟩ := R.slot i d e; ⟨v, h1, s.den h2⟩ }
theorem RelH.notF (R : RelH K H io F st) {a : Addr} (h : H a = none) : F a = none := by
  cases e : F a with
  | none => rfl
  | some o => have := R.sub _ _ e; rw [h] at this; cases this
theorem RelH.notIo (R : RelH K H io F st) {a : Addr} (h : H a = none) : a ∉ io := fun hm => by
  obtain ⟨o, e⟩ := R.there a hm
  rw [h] at e; cases e
theorem CelOk.next {a : Addr} {c : Cel} (s : Stp H io F H' io' F') (e : H' a = H a) (hf : F a = none → F' a = none) (h : CelOk K H io F a c) : CelOk K H' io' F' a c := by
  cases c with
  | lst ds =>
    obtain ⟨h1, h2, vs, h3, h4⟩ := h
    exact ⟨hf h1, h2, vs, by rw [e]; exact h3, s.denL h4⟩
  | dead => trivial
  | ins C fs =>
    obtain ⟨h1, cc, dx, fv, hc, h3, h4⟩ := h
    exact ⟨hf h1, cc, dx, fv, hc, by rw [e]; exact h3, Paired.mapP h4 fun p q z => ⟨z.1, s.den z.2⟩⟩
  | dct b kvs =>
    obtain ⟨h1, h2, u, h3, h4⟩ := h
    exact ⟨hf h1, h2, u, by rw [e]; exact h3, h4⟩
theorem same_upd {p : Addr} {o : HO} (h : H p = none) : ∀ a u, H a = some u → upd H p o a = some u := fun b x e => by
  rw [upd_ne (ne_of_none e h)]
  exact e
/-- a new frozen object -/
theorem Stp.laid {p : Addr} {o : HO} (h : H p = none) (hF : ∀ a o, F a = some o → H a = some o) : Stp H io F (upd H p o) io (upd F p o) :=
  ⟨⟨[], by simp, fun _ h => by cases h⟩, fun a u e => by rw [upd_ne (fun z => by subst z; have := hF _ _ e; rw [h] at this; cases this)]; exact e, fun a u e _ _ => same_upd h a u e, fun a u e => ⟨u, same_upd h a u e⟩, fun a u e => by
    by_cases z : a = p
    · subst z; exact .inr (.inl h)
    · rw [upd_ne z] at e; exact .inl e⟩
theorem RelH.laid (R : RelH K H io F st) {p : Addr} {o : HO} (h : H p = none) : RelH K (upd H p o) io (upd F p o) st := by
  refine ⟨fun a u e => ?_, R.len, R.nd, fun a ha => ?_, fun n c a h1 h2 => ?_, fun q hq => ?_⟩
  rotate_right
  · obtain ⟨t1, t2, ps, t3, t4, t5⟩ := R.tab q hq
    have ne : q.1 ≠ p := fun z => by rw [z, h] at t3; cases t3
    refine ⟨by rw [upd_ne ne]; exact t1, t2, ps, by rw [upd_ne ne]; exact t3, t4, fun pos cv hc => ?_⟩
    obtain ⟨c, e1, e2⟩ := t5 pos cv hc
    refine ⟨c, e1, ?_⟩
    rw [upd_ne (fun z => by have := R.sub _ _ e2; rw [z, h] at this; cases this)]
    exact e2
  · by_cases z : a = p
    · subst z; rw [upd_same] at e ⊢; exact e
    · rw [upd_ne z] at e ⊢; exact R.sub _ _ e
  · obtain ⟨u, e⟩ := R.there a ha
    exact ⟨u, same_upd h a u e⟩
  · have ne : a ≠ p := fun z => by subst z; exact R.notIo h (List.mem_of_getElem? h2)
    exact (R.cel n c a h1 h2).next (Stp.laid h R.sub) (upd_ne ne) fun hf => by rw [upd_ne ne]; exact hf
/-- a new tracked object that is neither frozen nor in the store -/
theorem Stp.aside {p : Addr} {o : HO} (h : H p = none) : Stp H io F (upd H p o) io F :=
  ⟨⟨[], by simp, fun _ h => by cases h⟩, fun a u e => e, fun a u e _ _ => same_upd h a u e, fun a u e => ⟨u, same_upd h a u e⟩, fun _ _ e => .inl e⟩
theorem RelH.aside (R : RelH K H io F st) {p : Addr} {o : HO} (h : H p = none) : RelH K (upd H p o) io F st := by
  refine ⟨fun a u e => same_upd h _ _ (R.sub _ _ e), R.len, R.nd, fun a ha => ?_, fun n c a h1 h2 => ?_, fun q hq => ?_⟩
  rotate_right
  · obtain ⟨t1, t2, ps, t3, t4, t5⟩ := R.tab q hq
    exact ⟨t1, t2, ps, same_upd h _ _ t3, t4, t5⟩
  · obtain ⟨u, e⟩ := R.there a ha
    exact ⟨u, same_upd h a u e⟩
  · have ne : a ≠ p := fun z => by subst z; exact R.notIo h (List.mem_of_getElem? h2)
    exact (R.cel n c a h1 h2).next (Stp.aside h) (upd_ne ne) fun hf => hf
/-- a tracked object beside the store changes -/
theorem RelH.side (R : RelH K H io F st) {p : Addr} {o o0 : HO} (hp : H p = some o0) (hn : ∀ ps, o0 ≠ .tbl ps) (hf : F p = none) (hio : p ∉ io) : RelH K (upd H p o) io F st := by
  refine ⟨fun a u e => ?_, R.len, R.nd, fun a ha => ?_, fun n c a h1 h2 => ?_, fun q hq => ?_⟩
  rotate_right
  · obtain ⟨t1, t2, ps, t3, t4, t5⟩ := R.tab q hq
    exact ⟨t1, t2, ps, by rw [upd_ne (fun z => by rw [z, hp] at t3; cases t3; exact hn _ rfl)]; exact t3, t4, t5⟩
  · rw [upd_ne (fun z => by subst z; rw [hf] at e; cases e)]
    exact R.sub _ _ e
  · rw [upd_ne (fun z => by subst z; exact hio ha)]
    exact R.there a ha
  · have ne : a ≠ p := fun z => by subst z; exact hio (List.mem_of_getElem? h2)
    have := R.cel n c a h1 h2
    cases c with
    | lst ds => obtain ⟨q1, q2, vs, q3, q4⟩ := this; exact ⟨q1, q2, vs, by rw [upd_ne ne]; exact q3, q4⟩
    | dead => trivial
    | ins C fs => obtain ⟨q1, cc, dx, fv, qc, q3, q4⟩ := this; exact ⟨q1, cc, dx, fv, qc, by rw [upd_ne ne]; exact q3, q4⟩
    | dct b kvs => obtain ⟨q1, q2, u, q3, q4⟩ := this; exact ⟨q1, q2, u, by rw [upd_ne ne]; exact q3, q4⟩
/-- a tracked object beside the store is frozen -/
theorem RelH.frz (R : RelH K H io F st) {p : Addr} {o : HO} (hp : H p = some o) (hn : ∀ ps, o ≠ .tbl ps) (hf : F p = none) (hio : p ∉ io) : RelH K H io (upd F p o) st := by
  have fr : ∀ a u, F a = some u → upd F p o a = some u := fun a u e => by
    rw [upd_ne (fun z => by subst z; rw [hf] at e; cases e)]; exact e
  refine ⟨fun a u e => ?_, R.len, R.nd, R.there, fun n c a h1 h2 => ?_, fun q hq => ?_⟩
  rotate_right
  · obtain ⟨t1, t2, ps, t3, t4, t5⟩ := R.tab q hq
    refine ⟨by rw [upd_ne (fun z => by rw [z, hp] at t3; cases t3; exact hn _ rfl)]; exact t1, t2, ps, t3, t4, fun pos cv hc => ?_⟩
    obtain ⟨c, e1, e2⟩ := t5 pos cv hc
    exact ⟨c, e1, fr _ _ e2⟩
  · by_cases z : a = p
    · subst z; rw [upd_same] at e; cases e; exact hp
    · rw [upd_ne z] at e; exact R.sub _ _ e
  · have ne : a ≠ p := fun z => by subst z; exact hio (List.mem_of_getElem? h2)
    have := R.cel n c a h1 h2
    cases c with
    | lst ds => obtain ⟨q1, q2, vs, q3, q4⟩ := this; exact ⟨by rw [upd_ne ne]; exact q1, q2, vs, q3, q4.mono (fun _ _ h => h) fr⟩
    | dead => trivial
    | ins C fs => obtain ⟨q1, cc, dx, fv, qc, q3, q4⟩ := this; exact ⟨by rw [upd_ne ne]; exact q1, cc, dx, fv, qc, q3, Paired.mapP q4 fun _ _ z => ⟨z.1, z.2.mono (fun _ _ h => h) fr⟩⟩
    | dct b kvs => obtain ⟨q1, q2, u, q3, q4⟩ := this; exact ⟨by rw [upd_ne ne]; exact q1, q2, u, q3, q4⟩
/-- .. becomes a cell -/
theorem RelH.adopt (R : RelH K H io F st) {p : Addr} {c : Cel} (hp : ∃ o, H p = some o ∧ ∀ ps, o ≠ .tbl ps) (hio : p ∉ io) (hc : CelOk K H (io ++ [p]) F p c) : RelH K H (io ++ [p]) F (st ++ [c]) := by
  have ix : ∀ (n : Nat) a, io[n]? = some a → (io ++ [p])[n]? = some a := fun n a h => by
    rw [List.getElem?_append_left (List.getElem?_eq_some_iff.mp h).1]; exact h
  refine ⟨R.sub, by rw [List.length_append, List.length_append, R.len]; rfl, List.nodup_append.mpr ⟨R.nd, by simp, fun a ha b hb => ?_⟩, fun a ha => ?_, fun n d a h1 h2 => ?_, fun q hq => ?_⟩
  rotate_right
  · obtain ⟨t1, t2, ps, t3, t4, t5⟩ := R.tab q hq
    refine ⟨t1, fun hm => ?_, ps, t3, t4, t5⟩
    rcases List.mem_append.mp hm with h | h
    · exact t2 h
    · simp at h
      obtain ⟨o, h1, h2⟩ := hp
      rw [← h, t3] at h1
      cases h1
      exact h2 _ rfl
  · simp at hb
    subst hb
    intro e
    subst e
    exact hio ha
  · rcases List.mem_append.mp ha with h | h
    · exact R.there a h
    · simp at h
      subst h
      obtain ⟨o, h1, _⟩ := hp
      exact ⟨o, h1⟩
  · by_cases hn : n < st.length
    · rw [List.getElem?_append_left hn] at h1
      rw [List.getElem?_append_left (by rw [R.len]; exact hn)] at h2
      have := R.cel n d a h1 h2
      cases d with
      | lst ds => obtain ⟨q1, q2, vs, q3, q4⟩ := this; exact ⟨q1, q2, vs, q3, q4.mono ix fun _ _ h => h⟩
      | dead => trivial
      | ins C fs => obtain ⟨q1, cc, dx, fv, qc, q3, q4⟩ := this; exact ⟨q1, cc, dx, fv, qc, q3, Paired.mapP q4 fun _ _ z => ⟨z.1, z.2.mono ix fun _ _ h => h⟩⟩
      | dct b kvs => obtain ⟨q1, q2, u, q3, q4⟩ := this; exact ⟨q1, q2, u, q3, q4⟩
    · have e : n = st.length := by
        have := (List.getElem?_eq_some_iff.mp h1).1
        rw [List.length_append, List.length_singleton] at this
        omega
      subst e
      rw [List.getElem?_append_right (Nat.le_refl _), Nat.sub_self] at h1
      rw [← R.len, List.getElem?_append_right (Nat.le_refl _), Nat.sub_self] at h2
      cases h1
      cases h2
      exact hc
theorem RelH.newRef (R : RelH K H io F st) {p : Addr} : Den K (io ++ [p]) F (.ref p) (.ref st.length) := .ref (by rw [← R.len, List.getElem?_append_right (Nat.le_refl _), Nat.sub_self]; rfl)
end
end DL
namespace DL
open PySem PySem.Spec PyProof.Rows L2
abbrev tobj (its : List Value) : Obj := { cls := .type "tuple", data := .seq its.toArray }
abbrev XtK (H : Hp) (Q : VK) (vs : List V) : Prop := ∀ (p : Addr) (o : Obj), H p = none → o.dict = none → Q (.ref p) (upd H p (.frz o (.tup vs)))
section
variable {X : Cx} {pins : List (Addr × Obj)} {σ : L2.St} {H : Hp} {s : Shared} {xs : List V} {its : List Value} {Q : VK}
theorem new_tup (I : Inv X pins σ H s) (z : xs.length ≤ sizeLine) (r : Vals xs its) (q : XtK H Q xs) : EP X pins σ Q (.ref s.heap.objs.size) { s with heap := s.heap.push (tobj its) } :=
  ⟨.ref s.heap.objs.size, upd H s.heap.objs.size (.frz (tobj its) (.tup xs)), I.laid (t' := s.toks) (fun _ _ e => Heap.get?_push_of_some _ e) (Nat.le_refl _) ⟨Heap.get?_push_size _ rfl, z, its, r, IsTup.new _ _⟩, rfl, q _ _ (I.hok.fresh (Nat.le_refl _)) rfl⟩
def tTupX (t : TA) : TE := fun σ H Q => t σ H fun xs H1 => xs.length ≤ sizeLine ∧ XtK H1 Q xs
theorem pe_tupX {es : List Expr} {t : TA} {k} {pos : Pos} (h : PA X es t) : PE X (.Tuple es k pos) (tTupX t) :=
  ⟨fun pins s σ H Q I hq => wpAny_Tuple_spliced (thn (h.run pos pins s σ H _ I hq) fun us s1 ⟨xs, H1, I1, r, z, q⟩ => ⟨by rw [← r.length]; exact z, new_tup I1 z r q⟩)⟩
def rCatX (K : PySem.W.Frag) : V → V → Hp → VK → Prop := fun x y H Q => ∃ a b xs ys, x = .ref a ∧ y = .ref b ∧ SqT K H a xs ∧ SqT K H b ys ∧ xs.length + ys.length ≤ sizeLine ∧
  (xs = [] → Q (.ref b) H) ∧ (xs ≠ [] → ys = [] → Q (.ref a) H) ∧ (xs ≠ [] → ys ≠ [] → XtK H Q (xs ++ ys))
theorem op_catX : OpR X (binaryOp .Add) (rCatX X.K) := fun pins s σ H x y v u Q I rx ry h => by
  obtain ⟨a, b, xs, ys, rfl, rfl, ha, hb, hz, q0, q1, q2⟩ := h
  cases rx; cases ry
  obtain ⟨t1, r1, p1, _⟩ := I.tuple ha; obtain ⟨t2, r2, p2, _⟩ := I.tuple hb
  cases xs with
  | nil => cases r1; exact cat_tup0 p1 p2 ⟨.ref b, H, I, rfl, q0 rfl⟩
  | cons x xs =>
    have n1 : t1 ≠ [] := fun e => nomatch (r1.nil_iff.mp e)
    refine HT.cat_tup p1 p2 n1 (fun z => ⟨.ref a, H, I, rfl, q1 (fun e => nomatch e) (r2.nil_iff.mp z)⟩) (fun z => new_tup I (by rw [List.length_append]; exact hz) (r1.append r2) (q2 (fun e => nomatch e) fun w => z (r2.nil_iff.mpr w))) ?_
    rw [← r1.length, ← r2.length]; exact hz
def rSlX (K : PySem.W.Frag) : V → Option Int → Option Int → Hp → VK → Prop := fun x lo hi H Q => ∃ a xs, x = .ref a ∧ SqT K H a xs ∧
  (HT.sIx xs.length 0 lo = 0 ∧ HT.sIx xs.length xs.length hi = xs.length → Q (.ref a) H) ∧ (¬ (HT.sIx xs.length 0 lo = 0 ∧ HT.sIx xs.length xs.length hi = xs.length) → XtK H Q (cutV xs lo hi))
theorem sl_tupX : SlR X (rSlX X.K) := fun pins s σ H x v vl vu lo hi sl Q I rx hs pl pu h => by
  obtain ⟨a, xs, rfl, hx, q1, q2⟩ := h
  cases rx
  obtain ⟨its, r, ht, hz⟩ := I.tuple hx
  have hl : its.toArray.size = xs.length := r.length.symm
  by_cases hw : HT.sIx xs.length 0 lo = 0 ∧ HT.sIx xs.length xs.length hi = xs.length
  · exact ⟨"tuple", _, PyProof.Rows.slot_tuple_getitem.lookup, ht.typeIs, getItem_tuple_whole ht hs pl pu (by rw [hl]; exact hw) ⟨.ref a, H, I, rfl, q1 hw⟩⟩
  · refine ⟨"tuple", _, PyProof.Rows.slot_tuple_getitem.lookup, ht.typeIs, HT.getItem_tuple_cut ht hs pl pu (by rw [hl]; exact hw) ?_ (by rw [hl]; exact hz)⟩
    rw [hl]
    exact new_tup I (Nat.le_trans (cutV_length xs lo hi) hz) ((r.drop (HT.sIx xs.length 0 lo)).take (HT.sIx xs.length xs.length hi - HT.sIx xs.length 0 lo)) (q2 hw)
theorem call_tupleX : CallR X (.type "tuple") (fun xs H Q => ∃ p ys, xs = [.ref p] ∧ ((SqL X.K H p ys ∧ XtK H Q ys) ∨ (SqT X.K H p ys ∧ Q (.ref p) H))) := fun pins s σ H xs us Q I r h => by
  obtain ⟨p, ys, rfl, h⟩ := h
  obtain ⟨u, rfl, rx⟩ := vals1 r
  cases rx
  rcases h with ⟨hq, q⟩ | ⟨hq, q⟩
  · obtain ⟨its, r2, pl, hz⟩ := I.list hq
    have hl := r2.length
    exact call_tuple_list pl.isList (fun h' kp => new_tup (I.kept (t' := s.toks) kp) hz r2 q) (by simp only [List.size_toArray] <;> omega)
  · obtain ⟨its, r2, pl, hz⟩ := I.tuple hq
    exact call_tuple_same pl ⟨.ref p, H, I, rfl, q⟩
def tTupRgX (te : L2.St → Hp → (Int → Int → Hp → Prop) → Prop) : TE := fun σ H Q => te σ H fun a b H1 => RgOk a b ∧ XtK H1 Q (rgV a b)
theorem pe_tupRgX {e : Expr} {te : L2.St → Hp → (Int → Int → Hp → Prop) → Prop} {p pos : Pos} (hc : X.calm = true) (hg : Gl X "tuple") (hm : X.mg "tuple" = none) (he : PRg X e te) (na : starEach [e] X.env = (false, eval e X.env) :: starEach [] X.env := by rfl) : PE X (.Call (.Name "tuple" p) [e] [] pos) (tTupRgX te) := by
  refine ⟨fun pins s σ H Q I h => Call_ (ld_blt I hg hm boot_tuple (PyProof.Rows.callWith_type1 (args_cons (thn (he pins s σ H _ I h) fun x s1 ⟨r, a, b, t, u, v, H1, ex, hr, I1, ⟨⟨b1, b2, b3, b4, b5⟩, q⟩⟩ => args_nil ?_) na) na))⟩
  subst ex
  refine call_tuple_range (n := (b - a).toNat) (I1.ok.hd hc) hr (small_one b1 b2 b3 b4) (rangeSize_nat a b) b5 fun h' tk acc hk hi => ?_
  have I2 : Inv X pins σ H1 { s1 with heap := h', toks := tk } := I1.kept hk
  obtain ⟨l, rfl⟩ : ∃ l : List Value, acc = l.toArray := ⟨acc.toList, by simp⟩
  exact new_tup I2 (xs := rgV a b) (its := l) (by rw [rgV_length, sizeLine_eq]; omega) (by simpa using vals_rg hi) q
end
structure SrcG (K : PySem.W.Frag) (S : Hp → Addr → List V → Prop) (Is : Heap → Addr → Array Value → Prop) (It1 : Heap → Addr → Addr → Nat → Prop) : Prop where
  get : ∀ {X : Cx} {pins : List (Addr × Obj)} {σ : L2.St} {H : Hp} {s : Shared} {a : Addr} {xs : List V}, X.K = K → Inv X pins σ H s → S H a xs → ∃ its : List Value, Vals xs its ∧ Is s.heap a its.toArray
  inj : ∀ {X : Cx} {pins : List (Addr × Obj)} {σ : L2.St} {H : Hp} {s : Shared} {a : Addr} {xs ys : List V}, X.K = K → Inv X pins σ H s → S H a xs → S H a ys → xs = ys
  dr : ∀ {prog : Program} {w : World} {A : Around} (it a : Addr) (items : Array Value), A.handled = none → a ≠ it → Draws prog w A it [it, a] items.size (fun i v => items[i]? = some v) (fun i h => It1 h it a i ∧ Is h a items)
  ob : ∀ {h : Heap} {it a : Addr} {i : Nat}, It1 h it a i → ∃ o, h.get? it = some o ∧ ∀ v, o.data ≠ .cell v
  at_ : ∀ {h h' : Heap} {it a : Addr} {i : Nat}, It1 h it a i → (∀ o, h.get? it = some o → h'.get? it = some o) → It1 h' it a i
theorem srcL (K : PySem.W.Frag) : SrcG K (SqL K) Heap.IsList Heap.IsListIter where
  get := fun e I h => by subst e; obtain ⟨its, r, p, _⟩ := I.list h; exact ⟨its, r, p.isList⟩
  inj := fun e I h h' => by subst e; exact I.list_inj h h'
  dr := fun it a items hh ne => Draws.list hh it a ne items
  ob := fun ⟨o, e, _, d⟩ => ⟨o, e, fun v q => by rw [d] at q; cases q⟩
  at_ := fun h k => h.at k
theorem srcT (K : PySem.W.Frag) : SrcG K (SqT K) Heap.IsTuple Heap.IsTupleIter where
  get := fun e I h => by subst e; obtain ⟨its, r, p, _⟩ := I.tuple h; exact ⟨its, r, p⟩
  inj := fun e I h h' => by subst e; exact I.tuple_inj h h'
  dr := fun it a items hh ne => Draws.tuple hh it a ne items
  ob := fun ⟨o, e, _, d⟩ => ⟨o, e, fun v q => by rw [d] at q; cases q⟩
  at_ := fun h k => h.at k
def IteX (S : Hp → Addr → List V → Prop) (a : Addr) : It :=
  ⟨fun i H => ∃ (xs : List V) (x : V), S H a xs ∧ xs[i]? = some x, fun i H v H' => ∃ T x o, v = .ref T ∧ H T = none ∧ o.dict = none ∧ H' = upd H T (.frz o (.tup [.int (i : Nat), x])) ∧ ∀ xs, S H a xs → xs[i]? = some x, fun i H => ∃ xs : List V, S H a xs ∧ xs.length = i⟩
theorem pair_ok {P : Program} {w : World} {H : Hp} {h : Heap} {T : Addr} {x y : V} {u v : Value} (e : h.get? T = some (tobj [u, v])) (ru : RelV x u) (rv : RelV y v) : ObjOk P w H h T (.frz (tobj [u, v]) (.tup [x, y])) :=
  ⟨e, by show 2 ≤ sizeLine; decide, [u, v], .cons ru (.cons rv .nil), ⟨_, e, rfl, _, rfl⟩⟩
theorem turn_enumX {P : Program} {w : World} {K : PySem.W.Frag} {elts : List Expr} {kk : Nat} {tpos : Pos} {S : Hp → Addr → List V → Prop} {Is : Heap → Addr → Array Value → Prop} {It1 : Heap → Addr → Addr → Nat → Prop} (G : SrcG K S Is It1) (a e it : Addr) :
    Turn P w K (.Tuple elts kk tpos) (IteX S a) [e, it] e (fun i h => (∃ old, IsEnum h e it ((i : Nat) : Int) old) ∧ It1 h it a i ∧ e ≠ it ∧ a ≠ it ∧ e ≠ a) where
  mem := List.mem_cons_self
  obj := fun i h ⟨⟨old, he⟩, hi, _⟩ b hb => by
    rcases List.mem_cons.mp hb with rfl | hb
    · exact ⟨_, he, fun v q => nomatch q⟩
    · rw [List.mem_singleton] at hb; subst hb; exact G.ob hi
  keep := fun i h h' ⟨⟨old, he⟩, hi, hne⟩ k => ⟨⟨old, k e List.mem_cons_self _ he⟩, G.at_ hi fun o q => k it (List.mem_cons_of_mem _ List.mem_cons_self) o q, hne⟩
  item := by
    intro X hP hw hK hc i pins s σ H E I hf st hg
    subst hP hw
    obtain ⟨⟨old, he⟩, hit, hne, hai, hea⟩ := st
    obtain ⟨xs, x, hq, hx⟩ := hg
    obtain ⟨its, rv, p⟩ := G.get hK I hq
    obtain ⟨u, hu, ru⟩ := rv.get hx
    have hu' : its.toArray[i]? = some u := by simpa using hu
    have Dr := G.dr (prog := X.prog) (w := X.w) (A := X.A.in1) it a its.toArray (I.ok.hd hc) hai
    have hel := Heap.lt_size he
    obtain ⟨oi, hoi, _⟩ := G.ob hit
    refine wpAny_pyNext_enum_itemD Dr he ⟨hit, p⟩ (Array.getElem?_eq_some_iff.mp hu').1 hne (by simp [hne, hea]) fun u2 h1 tk hP ho hit1 hT hsz hk => ?_
    have hP : its.toArray[i]? = some u2 := hP
    rw [hu'] at hP
    cases hP
    refine ⟨_, rfl, wpAny_letOwnedTupleGo_enum (s := { s with heap := h1, toks := tk + 1 }) ho fun h2 he2 sb => ?_⟩
    have hT2 : h2.get? s.heap.objs.size = some (tobj [.int i tk, u]) := (sb.2 _ (Nat.ne_of_gt hel)).trans hT
    have I1 : Inv X pins σ (upd H s.heap.objs.size (.frz (tobj [.int i tk, u]) (.tup [.int (i : Nat), x]))) { s with heap := h2, toks := tk + 1 } :=
      I.turnedNew (ch := [e, it]) (fun b ob hb q => (sb.2 b (fun z => hb (by simp [z]))).trans (hk b ob (fun z => hb (by simp [z])) (fun z => hb (by simp [z])) q)) hf (Nat.le_refl _) (pair_ok hT2 ⟨_, rfl⟩ ru)
    refine ⟨.ref s.heap.objs.size, _, I1, rfl, ⟨_, x, _, rfl, I.hok.fresh (Nat.le_refl _), rfl, rfl, fun ys hy => by rw [G.inj hK I hy hq]; exact hx⟩, ⟨⟨u, ?_⟩, G.at_ hit1.1 fun o q => (sb.2 it (Ne.symm hne)).trans q, hne, hai, hea⟩, fun b hb => ?_⟩
    · rw [show ((i + 1 : Nat) : Int) = (i : Int) + 1 by omega]; exact he2
    · have hb' : b < s.heap.objs.size := by
        rcases List.mem_cons.mp hb with rfl | hb
        · exact hel
        · rw [List.mem_singleton] at hb; subst hb; exact Heap.lt_size hoi
      rw [upd_ne (Nat.ne_of_lt hb')]; exact (hf b hb).1
  done := by
    intro X hP hw hK hc i pins s σ H E I hf st hg
    subst hP hw
    obtain ⟨⟨old, he⟩, hit, hne, hai, hea⟩ := st
    obtain ⟨xs, hq, hx⟩ := hg
    obtain ⟨its, rv, p⟩ := G.get hK I hq
    obtain ⟨f0, f1, f2, f3, f4, f5⟩ := hf it (by simp)
    have en : i = its.toArray.size := by rw [← hx, rv.length]; rfl
    subst en
    exact wpAny_pyNext_enum_endD (G.dr (prog := X.prog) (w := X.w) (A := X.A.in1) it a its.toArray (I.ok.hd hc) hai) he ⟨hit, p⟩ fun h' eb => ⟨rfl, I.turned (t' := s.toks) (fun b o hb q => eb b o hb q) f0 f1 f3 f4 f5⟩
  self := fun A i s Q E ⟨⟨_, he⟩, _⟩ h => wpAny_pyIter_enum he h
def ItzX (S1 S2 : Hp → Addr → List V → Prop) (a b : Addr) : It :=
  ⟨fun i H => ∃ (xs ys : List V) (x y : V), S1 H a xs ∧ S2 H b ys ∧ xs[i]? = some x ∧ ys[i]? = some y,
    fun i H v H' => ∃ T x y o, v = .ref T ∧ H T = none ∧ o.dict = none ∧ H' = upd H T (.frz o (.tup [x, y])) ∧ (∀ xs, S1 H a xs → xs[i]? = some x) ∧ ∀ ys, S2 H b ys → ys[i]? = some y,
    fun i H => ∃ xs ys : List V, S1 H a xs ∧ S2 H b ys ∧ i ≤ xs.length ∧ i ≤ ys.length ∧ (xs.length ≤ i ∨ ys.length ≤ i)⟩
/-- how a zip of two kinds goes on -/
structure ZipN (Is1 Is2 : Heap → Addr → Array Value → Prop) (J1 J2 : Heap → Addr → Addr → Nat → Prop) : Prop where
  nx : ∀ {prog : Program} {w : World} {A : Around} {E : Value → Shared → Prop} {s : Shared} {z TI TO i1 i2 l1 l2 : Addr} {k : Nat} {xs ys : Array Value} {x y a b : Value} {Q : Option Value → Shared → Prop}, A.handled = none → ZipApart z TI TO i1 i2 l1 l2 →
    IsZip s.heap z TI TO .none → IsPair s.heap TI (.ref i1) (.ref i2) → IsPair s.heap TO a b → J1 s.heap i1 l1 k → J2 s.heap i2 l2 k → Is1 s.heap l1 xs → Is2 s.heap l2 ys → xs[k]? = some x → ys[k]? = some y →
    (∀ h2 tk, IsZip h2 z TI TO (rawInt s.heap.objs.size) → IsPair h2 TO x y → J1 h2 i1 l1 (k + 1) → J2 h2 i2 l2 (k + 1) → IsPair h2 s.heap.objs.size x y →
      (∀ c o, c ≠ z → c ≠ TO → c ≠ i1 → c ≠ i2 → s.heap.get? c = some o → h2.get? c = some o) → Q (some (.ref s.heap.objs.size)) { s with heap := h2, toks := tk }) → wpAny (model prog w) A (pyNext (.ref z)) Q E s
  en : ∀ {prog : Program} {w : World} {A : Around} {E : Value → Shared → Prop} {s : Shared} {z TI TO i1 i2 l1 l2 : Addr} {k : Nat} {xs ys : Array Value} {a b : Value} {Q : Option Value → Shared → Prop}, A.handled = none → ZipApart z TI TO i1 i2 l1 l2 →
    IsZip s.heap z TI TO .none → IsPair s.heap TI (.ref i1) (.ref i2) → IsPair s.heap TO a b → J1 s.heap i1 l1 k → J2 s.heap i2 l2 k → Is1 s.heap l1 xs → Is2 s.heap l2 ys → k ≤ xs.size → k ≤ ys.size → (xs[k]? = none ∨ ys[k]? = none) →
    (∀ h2 tk, (∀ c o, c ≠ z → c ≠ TO → c ≠ i1 → c ≠ i2 → s.heap.get? c = some o → h2.get? c = some o) → Q none { s with heap := h2, toks := tk }) → wpAny (model prog w) A (pyNext (.ref z)) Q E s
theorem zipN_LL : ZipN Heap.IsList Heap.IsList Heap.IsListIter Heap.IsListIter where
  nx := fun {prog w A E s _ _ _ _ _ _ _ _ _ _ _ _ _ _ _} _ D hz hTI hTO h1 h2 p1 p2 hx hy q => wpAny_pyNext_zip_item D hz hTI hTO h1 h2 p1 p2 hx hy fun h' a b c d e _ f => q h' s.toks a b c d e f
  en := fun {prog w A E s _ _ _ _ _ _ _ _ _ _ _ _ _} hh D hz hTI hTO h1 h2 p1 p2 _ _ hx q => wpAny_pyNext_zip_end hh D hz hTI hTO h1 h2 p1 p2 hx fun h' => q h' s.toks
theorem zipN_TT : ZipN Heap.IsTuple Heap.IsTuple Heap.IsTupleIter Heap.IsTupleIter where
  nx := fun {prog w A E s _ _ _ _ _ _ _ _ _ _ _ _ _ _ _} _ D hz hTI hTO h1 h2 p1 p2 hx hy q => RZ.pyNext_zipT_item D hz hTI hTO h1 h2 p1 p2 hx hy fun h' a b c d e _ f => q h' s.toks a b c d e f
  en := fun {prog w A E s _ _ _ _ _ _ _ _ _ _ _ _ _} hh D hz hTI hTO h1 h2 p1 p2 _ _ hx q => RZ.pyNext_zipT_end hh D hz hTI hTO h1 h2 p1 p2 hx fun h' => q h' s.toks
theorem sep_of {z TI TO i1 i2 l1 l2 : Addr} (D : ZipApart z TI TO i1 i2 l1 l2) : ZipSep2 z TI TO i1 i2 [i1, l1] [i2, l2] :=
  { TIz := D.TIz, TOz := D.TOz, TITO := D.TITO, TIi1 := D.TIi1, TIi2 := D.TIi2, mem1 := by simp, mem2 := by simp, zf1 := by simp [D.i1z.symm, D.l1z.symm], zf2 := by simp [D.i2z.symm, D.l2z.symm], Tf1 := by simp [D.TOi1, D.l1TO.symm], Tf2 := by simp [D.TOi2, D.l2TO.symm], sep1_2 := by simp [D.i12, D.l2i1.symm], sep2_1 := by simp [D.i12.symm, D.l1i2.symm] }
theorem same_at {α : Type} {xs : Array α} {k : Nat} {x y : α} (h : xs[k]? = some x) (h2 : xs[k]? = some y) : y = x := Option.some.inj (h2.symm.trans h)
theorem ends_at {α : Type} {xs : Array α} {k : Nat} (h : k ≤ xs.size) (h2 : xs[k]? = none) : k = xs.size := Nat.le_antisymm h (Array.getElem?_eq_none_iff.mp h2)
/-- two kinds of iterators that are drawn from, side by side -/
theorem zipN_of {Is1 Is2 : Heap → Addr → Array Value → Prop} {J1 J2 : Heap → Addr → Addr → Nat → Prop}
    (D1 : ∀ {prog : Program} {w : World} {A : Around}, A.handled = none → ∀ (it l : Addr), l ≠ it → ∀ xs : Array Value, Draws prog w A it [it, l] xs.size (fun i v => xs[i]? = some v) (fun i h => J1 h it l i ∧ Is1 h l xs))
    (D2 : ∀ {prog : Program} {w : World} {A : Around}, A.handled = none → ∀ (it l : Addr), l ≠ it → ∀ xs : Array Value, Draws prog w A it [it, l] xs.size (fun i v => xs[i]? = some v) (fun i h => J2 h it l i ∧ Is2 h l xs)) : ZipN Is1 Is2 J1 J2 where
  nx := fun {prog w A E s z TI TO i1 i2 l1 l2 k xs ys x y a b Q} hh D hz hTI hTO h1 h2 p1 p2 hx hy q => wpAny_pyNext_zipD2_item (sep_of D) (D1 (A := A.in1) hh i1 l1 D.l1i1 xs) (D2 (A := A.in1) hh i2 l2 D.l2i2 ys) hz hTI hTO ⟨h1, p1⟩ ⟨h2, p2⟩ (Array.getElem?_eq_some_iff.mp hx).1 (Array.getElem?_eq_some_iff.mp hy).1 fun x1 x2 h' tk y1 y2 b1 b2 d1 d2 b5 _ b7 => by
    cases same_at hx y1
    cases same_at hy y2
    exact q h' tk b1 b2 d1.1 d2.1 b5 b7
  en := fun {prog w A E s z TI TO i1 i2 l1 l2 k xs ys a b Q} hh D hz hTI hTO h1 h2 p1 p2 z1 z2 hx q => wpAny_pyNext_zipD2_end (sep_of D) (D1 (A := A.in1) hh i1 l1 D.l1i1 xs) (D2 (A := A.in1) hh i2 l2 D.l2i2 ys) hz hTI hTO ⟨h1, p1⟩ ⟨h2, p2⟩ z1 z2 (hx.imp (ends_at z1) (ends_at z2)) q
theorem zipN_LT : ZipN Heap.IsList Heap.IsTuple Heap.IsListIter Heap.IsTupleIter := zipN_of (fun hh it l ne xs => Draws.list hh it l ne xs) (fun hh it l ne xs => Draws.tuple hh it l ne xs)
theorem zipN_TL : ZipN Heap.IsTuple Heap.IsList Heap.IsTupleIter Heap.IsListIter := zipN_of (fun hh it l ne xs => Draws.tuple hh it l ne xs) (fun hh it l ne xs => Draws.list hh it l ne xs)
theorem of5 {P : Addr → Prop} {a b c d e : Addr} (h1 : P a) (h2 : P b) (h3 : P c) (h4 : P d) (h5 : P e) : ∀ x ∈ [a, b, c, d, e], P x :=
  List.forall_mem_cons.mpr ⟨h1, List.forall_mem_cons.mpr ⟨h2, List.forall_mem_cons.mpr ⟨h3, List.forall_mem_cons.mpr ⟨h4, List.forall_mem_cons.mpr ⟨h5, fun _ h => nomatch h⟩⟩⟩⟩⟩
theorem turn_zipX {P : Program} {w : World} {K : PySem.W.Frag} {elts : List Expr} {kk : Nat} {tpos : Pos} {S1 S2 : Hp → Addr → List V → Prop} {Is1 Is2 : Heap → Addr → Array Value → Prop} {J1 J2 : Heap → Addr → Addr → Nat → Prop} (G1 : SrcG K S1 Is1 J1) (G2 : SrcG K S2 Is2 J2) (N : ZipN Is1 Is2 J1 J2)
    {a b z TI TO i1 i2 : Addr} (D : ZipApart z TI TO i1 i2 a b) :
    Turn P w K (.Tuple elts kk tpos) (ItzX S1 S2 a b) [z, TI, TO, i1, i2] z (fun i h => IsZip h z TI TO .none ∧ IsPair h TI (.ref i1) (.ref i2) ∧ (∃ x y, IsPair h TO x y) ∧ J1 h i1 a i ∧ J2 h i2 b i) where
  mem := List.mem_cons_self
  obj := fun i h ⟨hz, hTI, ⟨x, y, hTO⟩, h1, h2⟩ => of5 ⟨_, hz, fun v q => nomatch q⟩ ⟨_, hTI, fun v q => nomatch q⟩ ⟨_, hTO, fun v q => nomatch q⟩ (G1.ob h1) (G2.ob h2)
  keep := fun i h h' ⟨hz, hTI, ⟨x, y, hTO⟩, h1, h2⟩ k => ⟨k z (by simp) _ hz, k TI (by simp) _ hTI, ⟨x, y, k TO (by simp) _ hTO⟩, G1.at_ h1 fun o q => k i1 (by simp) o q, G2.at_ h2 fun o q => k i2 (by simp) o q⟩
  item := by
    intro X hP hw hK hc i pins s σ H E I hf st hg
    subst hP hw
    obtain ⟨hz, hTI, ⟨x0, y0, hTO⟩, h1, h2⟩ := st
    obtain ⟨xs, ys, x, y, hqx, hqy, hx, hy⟩ := hg
    obtain ⟨t1, r1, p1⟩ := G1.get hK I hqx
    obtain ⟨t2, r2, p2⟩ := G2.get hK I hqy
    obtain ⟨u, hu, ru⟩ := r1.get hx
    obtain ⟨v, hv, rv⟩ := r2.get hy
    obtain ⟨o1, e1, _⟩ := G1.ob h1
    obtain ⟨o2, e2, _⟩ := G2.ob h2
    refine N.nx (I.ok.hd hc) D hz hTI hTO h1 h2 p1 p2 (x := u) (y := v) (by simpa using hu) (by simpa using hv) fun h3 tk z3 TO3 h13 h23 hT hk => ?_
    refine ⟨_, rfl, wpAny_letOwnedTupleGo_zip (s := { s with heap := h3, toks := tk }) z3 fun h4 z4 sb => ?_⟩
    have hT4 : h4.get? s.heap.objs.size = some (tobj [u, v]) := (sb.2 _ (Nat.ne_of_gt (Heap.lt_size hz))).trans hT
    have I1 : Inv X pins σ (upd H s.heap.objs.size (.frz (tobj [u, v]) (.tup [x, y]))) { s with heap := h4, toks := tk } :=
      I.turnedNew (t' := tk) (ch := [z, TI, TO, i1, i2]) (fun c o hb q => (sb.2 c (fun e => hb (by simp [e]))).trans (hk c o (fun e => hb (by simp [e])) (fun e => hb (by simp [e])) (fun e => hb (by simp [e])) (fun e => hb (by simp [e])) q)) hf (Nat.le_refl _) (pair_ok hT4 ru rv)
    refine ⟨.ref s.heap.objs.size, _, I1, rfl, ⟨_, x, y, _, rfl, I.hok.fresh (Nat.le_refl _), rfl, rfl, fun l hl => by rw [G1.inj hK I hl hqx]; exact hx, fun l hl => by rw [G2.inj hK I hl hqy]; exact hy⟩,
      ⟨z4, (sb.2 _ D.TIz).trans (hk _ _ D.TIz D.TITO D.TIi1 D.TIi2 hTI), ⟨u, v, (sb.2 _ D.TOz).trans TO3⟩, G1.at_ h13 fun o q => (sb.2 _ D.i1z).trans q, G2.at_ h23 fun o q => (sb.2 _ D.i2z).trans q⟩, fun c hcm => ?_⟩
    have hlt : c < s.heap.objs.size := of5 (P := fun c => c < s.heap.objs.size) (Heap.lt_size hz) (Heap.lt_size hTI) (Heap.lt_size hTO) (Heap.lt_size e1) (Heap.lt_size e2) c hcm
    rw [upd_ne (Nat.ne_of_lt hlt)]; exact (hf c hcm).1
  done := by
    intro X hP hw hK hc i pins s σ H E I hf st hg
    subst hP hw
    obtain ⟨hz, hTI, ⟨x0, y0, hTO⟩, h1, h2⟩ := st
    obtain ⟨xs, ys, hqx, hqy, hle1, hle2, hend⟩ := hg
    obtain ⟨t1, r1, p1⟩ := G1.get hK I hqx
    obtain ⟨t2, r2, p2⟩ := G2.get hK I hqy
    have l1 := r1.length; have l2 := r2.length
    refine N.en (I.ok.hd hc) D hz hTI hTO h1 h2 p1 p2 (by simp; omega) (by simp; omega) ?_ fun h3 tk hk => ⟨rfl, I.turnedL (t' := tk) (ch := [z, TI, TO, i1, i2]) (fun c o hb q => hk c o (fun e => hb (by simp [e])) (fun e => hb (by simp [e])) (fun e => hb (by simp [e])) (fun e => hb (by simp [e])) q) hf⟩
    rcases hend with q | q
    · exact .inl (by simp; omega)
    · exact .inr (by simp; omega)
  self := fun A i s Q E st h => wpAny_pyIter_zip st.1 h
def iZipX (K : PySem.W.Frag) (ta : TA) : TI := fun σ H R => ta σ H fun vs H1 => ∃ a b xs ys, vs = [.ref a, .ref b] ∧ ((SqL K H1 a xs ∧ SqL K H1 b ys ∧ R (ItzX (SqL K) (SqL K) a b) H1) ∨ (SqT K H1 a xs ∧ SqT K H1 b ys ∧ R (ItzX (SqT K) (SqT K) a b) H1) ∨
  (SqL K H1 a xs ∧ SqT K H1 b ys ∧ R (ItzX (SqL K) (SqT K) a b) H1) ∨ (SqT K H1 a xs ∧ SqL K H1 b ys ∧ R (ItzX (SqT K) (SqL K) a b) H1))
theorem pi_zipX {X : Cx} {e e2 : Expr} {ta : TA} {p pos tpos : Pos} {elts : List Expr} {kk : Nat} (hg : Gl X "zip") (hm : X.mg "zip" = none) (ha : PA X [e, e2] ta)
    (hs : starEach [e, e2] X.env = (false, eval e X.env) :: starEach [e2] X.env := by rfl) (hpl : (backTo pos (starEach [e2] X.env)).any (·.1) = false := by rfl) : PI X (.Tuple elts kk tpos) (.Call (.Name "zip" p) [e, e2] [] pos) (iZipX X.K ta) := by
  refine ⟨fun pins s σ H R I h => Call_ (ld_blt I hg hm PyProof.Rows.boot_zip (PyProof.Rows.callWith_type1 (thn (ha.run pos pins s σ H _ I h) fun us s1 ⟨vs, H1, I1, r1, q1⟩ => ?_) hs hpl))⟩
  obtain ⟨a, b, xs, ys, rfl, q1⟩ := q1
  obtain ⟨u, t, rfl, ru, r2⟩ : ∃ u t, us = u :: t ∧ RelV (.ref a) u ∧ Vals [.ref b] t := by cases r1 with | cons x y => exact ⟨_, _, rfl, x, y⟩
  obtain ⟨v, rfl, rv⟩ := vals1 r2
  cases ru; cases rv
  have fr : ∀ k, FpOk X pins H1 (s1.heap.objs.size + k) := fun k => I1.fpOk (Nat.le_add_right _ _) (I1.hok.fresh (Nat.le_add_right _ _))
  have f5 := of5 (P := FpOk X pins H1) (fr 4) (fr 2) (fr 3) (fr 0) (fr 1)
  rcases q1 with ⟨hqx, hqy, q⟩ | ⟨hqx, hqy, q⟩ | ⟨hqx, hqy, q⟩ | ⟨hqx, hqy, q⟩
  · obtain ⟨t1, _, p1, _⟩ := I1.list hqx
    obtain ⟨t2, _, p2, _⟩ := I1.list hqy
    exact call_zip_2 p1.isList p2.isList fun h' hz hTI hTO h1 h2 hsz hk => wpAny_pyIter_zip hz ⟨s1.heap.objs.size + 4, [s1.heap.objs.size + 4, s1.heap.objs.size + 2, s1.heap.objs.size + 3, s1.heap.objs.size, s1.heap.objs.size + 1], _, _, H1, rfl, I1.kept (t' := s1.toks) hk, turn_zipX (srcL X.K) (srcL X.K) zipN_LL (PySem.W.ktu_apart s1.heap.objs.size a b p1.lt p2.lt), ⟨hz, hTI, ⟨_, _, hTO⟩, h1, h2⟩, f5, q⟩
  · obtain ⟨t1, _, p1, _⟩ := I1.tuple hqx
    obtain ⟨t2, _, p2, _⟩ := I1.tuple hqy
    exact RZ.call_zipT (show s1.heap.IsTuple a t1.toArray from p1) (show s1.heap.IsTuple b t2.toArray from p2) fun h' hz hTI hTO h1 h2 hsz hk => wpAny_pyIter_zip hz ⟨s1.heap.objs.size + 4, [s1.heap.objs.size + 4, s1.heap.objs.size + 2, s1.heap.objs.size + 3, s1.heap.objs.size, s1.heap.objs.size + 1], _, _, H1, rfl, I1.kept (t' := s1.toks) hk, turn_zipX (srcT X.K) (srcT X.K) zipN_TT (PySem.W.ktu_apart s1.heap.objs.size a b p1.lt p2.lt), ⟨hz, hTI, ⟨_, _, hTO⟩, h1, h2⟩, f5, q⟩
  · obtain ⟨t1, _, p1, _⟩ := I1.list hqx
    obtain ⟨t2, _, p2, _⟩ := I1.tuple hqy
    exact zip_begins2 (begins_list a t1.toArray) (begins_tuple b t2.toArray) p1.isList p2 fun h' hz hTI hTO h1 h2 hsz hk => wpAny_pyIter_zip hz ⟨s1.heap.objs.size + 4, [s1.heap.objs.size + 4, s1.heap.objs.size + 2, s1.heap.objs.size + 3, s1.heap.objs.size, s1.heap.objs.size + 1], _, _, H1, rfl, I1.kept (t' := s1.toks) hk, turn_zipX (srcL X.K) (srcT X.K) zipN_LT (PySem.W.ktu_apart s1.heap.objs.size a b p1.lt p2.lt), ⟨hz, hTI, ⟨_, _, hTO⟩, ⟨_, h1, rfl, rfl⟩, ⟨_, h2, rfl, rfl⟩⟩, f5, q⟩
  · obtain ⟨t1, _, p1, _⟩ := I1.tuple hqx
    obtain ⟨t2, _, p2, _⟩ := I1.list hqy
    exact zip_begins2 (begins_tuple a t1.toArray) (begins_list b t2.toArray) p1 p2.isList fun h' hz hTI hTO h1 h2 hsz hk => wpAny_pyIter_zip hz ⟨s1.heap.objs.size + 4, [s1.heap.objs.size + 4, s1.heap.objs.size + 2, s1.heap.objs.size + 3, s1.heap.objs.size, s1.heap.objs.size + 1], _, _, H1, rfl, I1.kept (t' := s1.toks) hk, turn_zipX (srcT X.K) (srcL X.K) zipN_TL (PySem.W.ktu_apart s1.heap.objs.size a b p1.lt p2.lt), ⟨hz, hTI, ⟨_, _, hTO⟩, ⟨_, h1, rfl, rfl⟩, ⟨_, h2, rfl, rfl⟩⟩, f5, q⟩
end DL
namespace DL
open PySem PySem.Spec PyProof.Rows L2
variable [Bs]
abbrev DK := D → Sto → Prop
abbrev BK := Bool → Sto → Prop
abbrev LK := List D → Sto → Prop
abbrev DE := En → Sto → DK → Prop
abbrev DT := En → Sto → BK → Prop
abbrev DA := En → Sto → LK → Prop
structure DEnds where
  nx : En → Sto → Prop
  rt : DK
  bk : En → Sto → Prop := fun _ _ => False
  ct : En → Sto → Prop := fun _ _ => False
abbrev DS := DEnds → En → Sto → Prop
def MoE (w : DE) : Prop := ∀ (e : En) (s : Sto) (Q Q' : DK), (∀ d s, Q d s → Q' d s) → w e s Q → w e s Q'
def MoT (w : DT) : Prop := ∀ (e : En) (s : Sto) (Q Q' : BK), (∀ d s, Q d s → Q' d s) → w e s Q → w e s Q'
def MoA (w : DA) : Prop := ∀ (e : En) (s : Sto) (Q Q' : LK), (∀ d s, Q d s → Q' d s) → w e s Q → w e s Q'
structure DEnds.le (A B : DEnds) : Prop where
  nx : ∀ e s, A.nx e s → B.nx e s
  rt : ∀ d s, A.rt d s → B.rt d s
  bk : ∀ e s, A.bk e s → B.bk e s
  ct : ∀ e s, A.ct e s → B.ct e s
theorem DEnds.le.refl (A : DEnds) : A.le A := ⟨fun _ _ h => h, fun _ _ h => h, fun _ _ h => h, fun _ _ h => h⟩
def MoS (w : DS) : Prop := ∀ (A B : DEnds) (e : En) (s : Sto), A.le B → w A e s → w B e s
/-- the wishes below -/
def kE (K : PySem.W.Frag) (H : Hp) (io : List Addr) (F : Hp) (Q : VK) : DK := fun d st' => ∀ v io' F' H', Stp H io F H' io' F' → RelH K H' io' F' st' → Den K io' F' v d → Q v H'
def kT (K : PySem.W.Frag) (H : Hp) (io : List Addr) (F : Hp) (Q : Bool → Hp → Prop) : BK := fun b st' => ∀ io' F' H', Stp H io F H' io' F' → RelH K H' io' F' st' → Q b H'
def kA (K : PySem.W.Frag) (H : Hp) (io : List Addr) (F : Hp) (Q : List V → Hp → Prop) : LK := fun ds st' => ∀ vs io' F' H', Stp H io F H' io' F' → RelH K H' io' F' st' → DenL K io' F' vs ds → Q vs H'
def kN (K : PySem.W.Frag) (H : Hp) (io : List Addr) (F : Hp) (Q : L2.St → Hp → Prop) : En → Sto → Prop := fun env' st' => ∀ σ' io' F' H', Stp H io F H' io' F' → Rel K σ' H' env' io' F' st' → Q σ' H'
def kD (K : PySem.W.Frag) (H : Hp) (io : List Addr) (F : Hp) (D : Ends) : DEnds := ⟨kN K H io F D.nx, kE K H io F D.rt, kN K H io F D.bk, kN K H io F D.ct⟩
def tE (K : PySem.W.Frag) (w : DE) : TE := fun σ H Q => ∃ env io F st, Rel K σ H env io F st ∧ w env st (kE K H io F Q)
def tT (K : PySem.W.Frag) (w : DT) : TT := fun σ H Q => ∃ env io F st, Rel K σ H env io F st ∧ w env st (kT K H io F Q)
def tA (K : PySem.W.Frag) (w : DA) : TA := fun σ H Q => ∃ env io F st, Rel K σ H env io F st ∧ w env st (kA K H io F Q)
def tS (K : PySem.W.Frag) (w : DS) : TS := fun D σ H => ∃ env io F st, Rel K σ H env io F st ∧ w (kD K H io F D) env st
structure WE (X : Cx) (e : Expr) (w : DE) : Prop where
  mo : MoE w
  pe : PE X e (tE X.K w)
structure WT (X : Cx) (e : Expr) (w : DT) : Prop where
  mo : MoT w
  pe : PT X e (tT X.K w)
structure WA (X : Cx) (es : List Expr) (w : DA) : Prop where
  mo : MoA w
  pe : PA X es (tA X.K w)
structure WS (X : Cx) (s : Stmt) (w : DS) : Prop where
  mo : MoS w
  pe : PS X s (tS X.K w)
structure WB (X : Cx) (s : List Stmt) (w : DS) : Prop where
  mo : MoS w
  pe : PSs X s (tS X.K w)
theorem PE_imp {X : Cx} {e : Expr} {t t' : TE} (h : PE X e t) (i : ∀ σ H Q, t' σ H Q → t σ H Q) : PE X e t' := ⟨fun p s σ H Q I q => h.run p s σ H Q I (i σ H Q q)⟩
theorem PT_imp {X : Cx} {e : Expr} {t t' : TT} (h : PT X e t) (i : ∀ σ H Q, t' σ H Q → t σ H Q) : PT X e t' := ⟨fun p s σ H Q I q => h.run p s σ H Q I (i σ H Q q)⟩
theorem PA_imp {X : Cx} {e : List Expr} {t t' : TA} (h : PA X e t) (i : ∀ σ H Q, t' σ H Q → t σ H Q) : PA X e t' := ⟨fun pos p s σ H Q I q => h.run pos p s σ H Q I (i σ H Q q)⟩
theorem PS_imp {X : Cx} {e : Stmt} {t t' : TS} (h : PS X e t) (i : ∀ D σ H, t' D σ H → t D σ H) : PS X e t' := ⟨fun p s σ H Q I q => h.run p s σ H Q I (i Q σ H q)⟩
theorem PSs_imp {X : Cx} {e : List Stmt} {t t' : TS} (h : PSs X e t) (i : ∀ D σ H, t' D σ H → t D σ H) : PSs X e t' := ⟨fun p s σ H Q I q => h.run p s σ H Q I (i Q σ H q)⟩
section
variable {K : PySem.W.Frag} {io io' io1 : List Addr} {F F' F1 H H' H1 : Hp} {st st' : Sto} {σ : L2.St} {env : En}
/-- an expression's reading, its end as one wants -/
theorem tE_use {w : DE} (m : MoE w) {P : DK} {Q : VK} (R : Rel K σ H env io F st) (h : w env st P)
    (k : ∀ d st' v io' F' H', P d st' → Stp H io F H' io' F' → Rel K σ H' env io' F' st' → Den K io' F' v d → Q v H') : tE K w σ H Q :=
  ⟨env, io, F, st, R, m _ _ _ _ (fun d st' p v io' F' H' s r n => k d st' v io' F' H' p s (R.next s r) n) h⟩
theorem tT_use {w : DT} (m : MoT w) {P : BK} {Q : Bool → Hp → Prop} (R : Rel K σ H env io F st) (h : w env st P)
    (k : ∀ b st' io' F' H', P b st' → Stp H io F H' io' F' → Rel K σ H' env io' F' st' → Q b H') : tT K w σ H Q :=
  ⟨env, io, F, st, R, m _ _ _ _ (fun b st' p io' F' H' s r => k b st' io' F' H' p s (R.next s r)) h⟩
theorem tA_use {w : DA} (m : MoA w) {P : LK} {Q : List V → Hp → Prop} (R : Rel K σ H env io F st) (h : w env st P)
    (k : ∀ ds st' vs io' F' H', P ds st' → Stp H io F H' io' F' → Rel K σ H' env io' F' st' → DenL K io' F' vs ds → Q vs H') : tA K w σ H Q :=
  ⟨env, io, F, st, R, m _ _ _ _ (fun d st' p v io' F' H' s r n => k d st' v io' F' H' p s (R.next s r) n) h⟩
theorem kE_at {Q : VK} {d : D} {v : V} (h : kE K H io F Q d st') (s : Stp H io F H' io' F') (r : RelH K H' io' F' st') (n : Den K io' F' v d) : Q v H' := h v io' F' H' s r n
theorem kE_later {Q : VK} {d : D} {st : Sto} (s : Stp H io F H' io' F') (h : kE K H io F Q d st) : kE K H' io' F' Q d st := fun v io2 F2 H2 t r n => h v io2 F2 H2 (s.trans t) r n
theorem kN_later {Q : L2.St → Hp → Prop} {e : En} {st : Sto} (s : Stp H io F H' io' F') (h : kN K H io F Q e st) : kN K H' io' F' Q e st := fun σ2 io2 F2 H2 t r => h σ2 io2 F2 H2 (s.trans t) r
theorem kD_later {D : Ends} (s : Stp H io F H' io' F') : (kD K H io F D).le (kD K H' io' F' D) := ⟨fun _ _ h => kN_later s h, fun _ _ h => kE_later s h, fun _ _ h => kN_later s h, fun _ _ h => kN_later s h⟩
end
section
variable {X : Cx} {pos : Pos}
def wVar (i : Nat) : DE := fun env st Q => ∃ d, env[i]? = some (some d) ∧ Q d st
theorem we_var {i : Nat} {x : Str} (hN : X.N[i]? = some x) (hv : Vis X.env.scope x) (hd : (x == ("__debug__" : Str)) = false := by decide) (hcd : (x == ("__classdict__" : Str)) = false := by decide) : WE X (.Name x pos) (wVar i) := by
  refine ⟨fun e s Q Q' h ⟨d, h1, h2⟩ => ⟨d, h1, h _ _ h2⟩, PE_imp (pe_var hN hv hd hcd) fun σ H Q ⟨env, io, F, st, R, d, e, q⟩ => ?_⟩
  obtain ⟨v, h1, h2⟩ := R.slot i d e
  exact ⟨v, h1, q v io F H Stp.refl R.toRelH h2⟩
def wC (d : D) : DE := fun _ st Q => Q d st
theorem moC (d : D) : MoE (wC d) := fun _ _ _ _ h q => h _ _ q
theorem we_c {e : Expr} {v : V} {d : D} (h : PE X e (tC v)) (hd : ∀ io F, Den X.K io F v d) : WE X e (wC d) :=
  ⟨moC d, PE_imp h fun σ H Q ⟨env, io, F, st, R, q⟩ => q v io F H Stp.refl R.toRelH (hd _ _)⟩
theorem we_int {i : Int} {j} : WE X (.Constant (.int i) j pos) (wC (.int i)) := we_c pe_int fun _ _ => .int i
theorem we_bl {b : Bool} {j} : WE X (.Constant (.bool b) j pos) (wC (.bl b)) := we_c pe_bl fun _ _ => .bl b
theorem we_non {j} : WE X (.Constant .none j pos) (wC .non) := we_c pe_non fun _ _ => .non
theorem we_str {x} {j} : WE X (.Constant (.str x) j pos) (wC (.str x)) := we_c pe_str fun _ _ => .str x
end
abbrev R2D := D → D → Sto → DK → Prop
def wOp (f : R2D) (wa wb : DE) : DE := fun env st Q => wa env st fun a s1 => wb env s1 fun b s2 => f a b s2 Q
def MoR (f : R2D) : Prop := ∀ a b s Q Q', (∀ d s, Q d s → Q' d s) → f a b s Q → f a b s Q'
/-- f is done by r -/
structure Rz (K : PySem.W.Frag) (r : R2) (f : R2D) : Prop where
  mo : MoR f
  on : ∀ {H io F st x y a b Q}, RelH K H io F st → Den K io F x a → Den K io F y b → f a b st (kE K H io F Q) → r x y H Q
theorem moOp {f : R2D} {wa wb : DE} (mf : MoR f) (ma : MoE wa) (mb : MoE wb) : MoE (wOp f wa wb) := fun e s Q Q' h q => ma _ _ _ _ (fun _ _ q => mb _ _ _ _ (fun _ _ q => mf _ _ _ _ _ h q) q) q
theorem tOp_of {X : Cx} {r : R2} {f : R2D} {a b : Expr} {wa wb : DE} (z : Rz X.K r f) (ha : WE X a wa) (hb : WE X b wb) {σ : L2.St} {H : Hp} {Q : VK} (h : tE X.K (wOp f wa wb) σ H Q) : tOp r (tE X.K wa) (tE X.K wb) σ H Q := by
  obtain ⟨env, io, F, st, R, q⟩ := h
  refine tE_use ha.mo R q fun d1 s1 v1 io1 F1 H1 q1 t1 R1 n1 => ?_
  refine tE_use hb.mo R1 q1 fun d2 s2 v2 io2 F2 H2 q2 t2 R2 n2 => ?_
  exact z.on R2.toRelH (t2.den n1) n2 (z.mo _ _ _ _ _ (fun d s => kE_later (t1.trans t2)) q2)
section
variable {X : Cx} {pos : Pos} {a b c : Expr} {wa wb wc : DE}
theorem we_op {op : Operator} {r : R2} {f : R2D} (ho : OpR X (binaryOp op) r) (z : Rz X.K r f) (ha : WE X a wa) (hb : WE X b wb) : WE X (.BinOp a op b pos) (wOp f wa wb) :=
  ⟨moOp z.mo ha.mo hb.mo, PE_imp (pe_op ho ha.pe hb.pe) fun σ H Q h => tOp_of z ha hb h⟩
theorem we_cmp {op : CmpOp} {r : R2} {f : R2D} (ho : OpR X (compareOp op) r) (z : Rz X.K r f) (ha : WE X a wa) (hb : WE X b wb) (hm : behindInMarks op b = false) : WE X (.Compare a [op] [b] pos) (wOp f wa wb) :=
  ⟨moOp z.mo ha.mo hb.mo, PE_imp (pe_cmpR ho ha.pe hb.pe hm) fun σ H Q h => tOp_of z ha hb h⟩
/-- a value that is a bool, as a test -/
def wTest (w : DE) : DT := fun env st Q => w env st fun d s => ∃ b, d = .bl b ∧ Q b s
theorem moTest {w : DE} (m : MoE w) : MoT (wTest w) := fun e s Q Q' h q => m _ _ _ _ (fun _ _ ⟨b, e, q⟩ => ⟨b, e, h _ _ q⟩) q
theorem kB {K : PySem.W.Frag} {H : Hp} {io : List Addr} {F : Hp} {Q : Bool → Hp → Prop} {d : D} {st : Sto} (h : ∃ b, d = .bl b ∧ kT K H io F Q b st) : kE K H io F (fun x H' => ∃ k, x = .bl k ∧ Q k H') d st := by
  obtain ⟨b, e, q⟩ := h
  subst e
  intro v io' F' H' s r n
  cases n
  exact ⟨b, rfl, q _ _ _ s r⟩
theorem wt_val {e : Expr} {w : DE} (h : WE X e w) (he : ∀ whole, isTrue e X.env whole = (do let v ← whole; standAt e.pos; holding [v] (truthy v)) := by intro _; rfl) : WT X e (wTest w) :=
  ⟨moTest h.mo, PT_imp (pt_val h.pe he) fun σ H Q ⟨env, io, F, st, R, q⟩ => ⟨env, io, F, st, R, h.mo _ _ _ _ (fun d s => kB) q⟩⟩
theorem wt_cmp {op : CmpOp} {r : R2} {f : R2D} (ho : OpR X (compareOp op) r) (z : Rz X.K r f) (ha : WE X a wa) (hb : WE X b wb) (hm : behindInMarks op b = false) : WT X (.Compare a [op] [b] pos) (wTest (wOp f wa wb)) :=
  ⟨moTest (moOp z.mo ha.mo hb.mo), PT_imp (pt_cmpR ho ha.pe hb.pe hm) fun σ H Q ⟨env, io, F, st, R, q⟩ =>
    tOp_of z ha hb ⟨env, io, F, st, R, moOp z.mo ha.mo hb.mo _ _ _ _ (fun d s => kB) q⟩⟩
def wChain (f f' : R2D) (wa wb wc : DE) : DE := fun env st Q => wa env st fun x s1 => wb env s1 fun y s2 => f x y s2 fun z s3 => ∃ k, z = .bl k ∧ if k = true then wc env s3 fun u s4 => f' y u s4 Q else Q (.bl false) s3
theorem moChain {f f' : R2D} (mf : MoR f) (mf' : MoR f') (ma : MoE wa) (mb : MoE wb) (mc : MoE wc) : MoE (wChain f f' wa wb wc) := fun e s Q Q' h q =>
  ma _ _ _ _ (fun _ _ q => mb _ _ _ _ (fun _ _ q => mf _ _ _ _ _ (fun _ _ ⟨k, e, q⟩ => ⟨k, e, by
    cases k with
    | true => exact mc _ _ _ _ (fun _ _ q => mf' _ _ _ _ _ h q) q
    | false => exact h _ _ q⟩) q) q) q
theorem tChain_of {r r' : R2} {f f' : R2D} (z : Rz X.K r f) (z' : Rz X.K r' f') (ha : WE X a wa) (hb : WE X b wb) (hc : WE X c wc) {σ : L2.St} {H : Hp} {Q : VK} (h : tE X.K (wChain f f' wa wb wc) σ H Q) : tChain r r' (tE X.K wa) (tE X.K wb) (tE X.K wc) σ H Q := by
  obtain ⟨env, io, F, st, R, q⟩ := h
  refine tE_use ha.mo R q fun d1 s1 v1 io1 F1 H1 q1 t1 R1 n1 => ?_
  refine tE_use hb.mo R1 q1 fun d2 s2 v2 io2 F2 H2 q2 t2 R2 n2 => ?_
  refine z.on R2.toRelH (t2.den n1) n2 (z.mo _ _ _ _ _ (fun d s3 q3 => ?_) q2)
  obtain ⟨k, e, q3⟩ := q3
  subst e
  intro v3 io3 F3 H3 t3 R3 n3
  cases n3
  refine ⟨k, rfl, ?_⟩
  cases k with
  | true =>
    rw [if_pos rfl] at q3 ⊢
    refine tE_use hc.mo (R2.next t3 R3) q3 fun d4 s4 v4 io4 F4 H4 q4 t4 R4 n4 => ?_
    exact z'.on R4.toRelH ((t3.trans t4).den n2) n4 (z'.mo _ _ _ _ _ (fun d s => kE_later (((t1.trans t2).trans t3).trans t4)) q4)
  | false =>
    rw [if_neg Bool.false_ne_true] at q3 ⊢
    exact kE_at q3 ((t1.trans t2).trans t3) R3 (.bl false)
theorem we_chain {op op' : CmpOp} {r r' : R2} {f f' : R2D} (ho : OpR X (compareOp op) r) (z : Rz X.K r f) (ho' : OpR X (compareOp op') r') (z' : Rz X.K r' f') (ha : WE X a wa) (hb : WE X b wb) (hc : WE X c wc)
    (hm : lastMarks [op, op'] [b, c] = false := by with_unfolding_all rfl) : WE X (.Compare a [op, op'] [b, c] pos) (wChain f f' wa wb wc) :=
  ⟨moChain z.mo z'.mo ha.mo hb.mo hc.mo, PE_imp (pe_chain ho ho' ha.pe hb.pe hc.pe hm) fun σ H Q h => tChain_of z z' ha hb hc h⟩
theorem wt_chain {op op' : CmpOp} {r r' : R2} {f f' : R2D} (ho : OpR X (compareOp op) r) (z : Rz X.K r f) (ho' : OpR X (compareOp op') r') (z' : Rz X.K r' f') (ha : WE X a wa) (hb : WE X b wb) (hc : WE X c wc)
    (hm : lastMarks [op, op'] [b, c] = false := by with_unfolding_all rfl) : WT X (.Compare a [op, op'] [b, c] pos) (wTest (wChain f f' wa wb wc)) :=
  ⟨moTest (moChain z.mo z'.mo ha.mo hb.mo hc.mo), PT_imp (pt_chain ho ho' ha.pe hb.pe hc.pe hm) fun σ H Q ⟨env, io, F, st, R, q⟩ =>
    tChain_of z z' ha hb hc ⟨env, io, F, st, R, moChain z.mo z'.mo ha.mo hb.mo hc.mo _ _ _ _ (fun d s => kB) q⟩⟩
end
end DL
namespace DL
open PySem PySem.Spec PyProof.Rows L2
variable [Bs]
section
variable {X : Cx} {pos : Pos} {a b : Expr} {rest : List Expr} {wa wb : DE} {ta tb : DT}
def wAnd (ta tb : DT) : DT := fun env st Q => ta env st fun c s => if c = true then tb env s Q else Q false s
def wOr (ta tb : DT) : DT := fun env st Q => ta env st fun c s => if c = true then Q true s else tb env s Q
def wNot (ta : DT) : DT := fun env st Q => ta env st fun c s => Q (!c) s
theorem moAnd (ma : MoT ta) (mb : MoT tb) : MoT (wAnd ta tb) := fun e s Q Q' h q => ma _ _ _ _ (fun c _ q => by cases c with
  | true => exact mb _ _ _ _ h q
  | false => exact h _ _ q) q
theorem moOr (ma : MoT ta) (mb : MoT tb) : MoT (wOr ta tb) := fun e s Q Q' h q => ma _ _ _ _ (fun c _ q => by cases c with
  | true => exact h _ _ q
  | false => exact mb _ _ _ _ h q) q
/-- a test whatever its whole is -/
structure WW (X : Cx) (e : Expr) (w : DT) : Prop where
  mo : MoT w
  pe : PW X e (tT X.K w)
theorem WW.wt {e : Expr} {w : DT} (h : WW X e w) : WT X e w := ⟨h.mo, h.pe.pt⟩
theorem PW_imp {e : Expr} {t t' : TT} (h : PW X e t) (i : ∀ σ H Q, t' σ H Q → t σ H Q) : PW X e t' := ⟨fun w p s σ H Q I q => h.run w p s σ H Q I (i σ H Q q)⟩
theorem ww_and1 (h : WT X a ta) : WW X (.BoolOp .And [a] pos) ta := ⟨h.mo, pw_and1 h.pe⟩
theorem ww_or1 (h : WT X a ta) : WW X (.BoolOp .Or [a] pos) ta := ⟨h.mo, pw_or1 h.pe⟩
theorem ww_and (ha : WT X a ta) (hb : WW X (.BoolOp .And (b :: rest) pos) tb) : WW X (.BoolOp .And (a :: b :: rest) pos) (wAnd ta tb) := by
  refine ⟨moAnd ha.mo hb.mo, PW_imp (pw_and ha.pe hb.pe) fun σ H Q ⟨env, io, F, st, R, q⟩ => ?_⟩
  refine tT_use ha.mo R q fun c s1 io1 F1 H1 q1 t1 R1 => ?_
  cases c with
  | true => exact tT_use hb.mo R1 q1 fun c s2 io2 F2 H2 q2 t2 R2 => q2 _ _ _ (t1.trans t2) R2.toRelH
  | false => exact q1 _ _ _ t1 R1.toRelH
theorem ww_or (ha : WT X a ta) (hb : WW X (.BoolOp .Or (b :: rest) pos) tb) : WW X (.BoolOp .Or (a :: b :: rest) pos) (wOr ta tb) := by
  refine ⟨moOr ha.mo hb.mo, PW_imp (pw_or ha.pe hb.pe) fun σ H Q ⟨env, io, F, st, R, q⟩ => ?_⟩
  refine tT_use ha.mo R q fun c s1 io1 F1 H1 q1 t1 R1 => ?_
  cases c with
  | true => exact q1 _ _ _ t1 R1.toRelH
  | false => exact tT_use hb.mo R1 q1 fun c s2 io2 F2 H2 q2 t2 R2 => q2 _ _ _ (t1.trans t2) R2.toRelH
theorem wt_not (ha : WT X a ta) : WT X (.UnaryOp .Not a pos) (wNot ta) :=
  ⟨fun e s Q Q' h q => ha.mo _ _ _ _ (fun _ _ q => h _ _ q) q, PT_imp (pt_not ha.pe) fun σ H Q ⟨env, io, F, st, R, q⟩ => ⟨env, io, F, st, R, q⟩⟩
def wAndV (wa wb : DE) : DE := fun env st Q => wa env st fun d s => ∃ c, d = .bl c ∧ if c = true then wb env s Q else Q (.bl false) s
def wOrV (wa wb : DE) : DE := fun env st Q => wa env st fun d s => ∃ c, d = .bl c ∧ if c = true then Q (.bl true) s else wb env s Q
def wNotV (wa : DE) : DE := fun env st Q => wa env st fun d s => ∃ c, d = .bl c ∧ Q (.bl (!c)) s
theorem we_one {op} (h : WE X a wa) : WE X (.BoolOp op [a] pos) wa := ⟨h.mo, pe_one h.pe⟩
theorem we_and (ha : WE X a wa) (hb : WE X (.BoolOp .And (b :: rest) pos) wb) : WE X (.BoolOp .And (a :: b :: rest) pos) (wAndV wa wb) := by
  refine ⟨fun e s Q Q' h q => ha.mo _ _ _ _ (fun _ _ ⟨c, e, q⟩ => ⟨c, e, by
    cases c with
    | true => exact hb.mo _ _ _ _ h q
    | false => exact h _ _ q⟩) q, PE_imp (pe_and ha.pe hb.pe) fun σ H Q ⟨env, io, F, st, R, q⟩ => ?_⟩
  refine tE_use ha.mo R q fun d s1 v io1 F1 H1 q1 t1 R1 n1 => ?_
  obtain ⟨c, e, q1⟩ := q1
  subst e
  cases n1
  refine ⟨c, rfl, ?_⟩
  cases c with
  | true => exact tE_use hb.mo R1 q1 fun d s2 v2 io2 F2 H2 q2 t2 R2 n2 => kE_at q2 (t1.trans t2) R2.toRelH n2
  | false => exact kE_at q1 t1 R1.toRelH (.bl false)
theorem we_or (ha : WE X a wa) (hb : WE X (.BoolOp .Or (b :: rest) pos) wb) : WE X (.BoolOp .Or (a :: b :: rest) pos) (wOrV wa wb) := by
  refine ⟨fun e s Q Q' h q => ha.mo _ _ _ _ (fun _ _ ⟨c, e, q⟩ => ⟨c, e, by
    cases c with
    | true => exact h _ _ q
    | false => exact hb.mo _ _ _ _ h q⟩) q, PE_imp (pe_or ha.pe hb.pe) fun σ H Q ⟨env, io, F, st, R, q⟩ => ?_⟩
  refine tE_use ha.mo R q fun d s1 v io1 F1 H1 q1 t1 R1 n1 => ?_
  obtain ⟨c, e, q1⟩ := q1
  subst e
  cases n1
  refine ⟨c, rfl, ?_⟩
  cases c with
  | true => exact kE_at q1 t1 R1.toRelH (.bl true)
  | false => exact tE_use hb.mo R1 q1 fun d s2 v2 io2 F2 H2 q2 t2 R2 n2 => kE_at q2 (t1.trans t2) R2.toRelH n2
theorem we_not (ha : WE X a wa) : WE X (.UnaryOp .Not a pos) (wNotV wa) := by
  refine ⟨fun e s Q Q' h q => ha.mo _ _ _ _ (fun _ _ ⟨c, e, q⟩ => ⟨c, e, h _ _ q⟩) q, PE_imp (pe_not ha.pe) fun σ H Q ⟨env, io, F, st, R, q⟩ => ?_⟩
  refine tE_use ha.mo R q fun d s1 v io1 F1 H1 q1 t1 R1 n1 => ?_
  obtain ⟨c, e, q1⟩ := q1
  subst e
  cases n1
  exact ⟨c, rfl, kE_at q1 t1 R1.toRelH (.bl _)⟩
def wNeg (wa : DE) : DE := fun env st Q => wa env st fun d s => ∃ i, d = .int i ∧ Q (.int (-i)) s
theorem we_neg (ha : WE X a wa) : WE X (.UnaryOp .USub a pos) (wNeg wa) := by
  refine ⟨fun e s Q Q' h q => ha.mo _ _ _ _ (fun _ _ ⟨c, e, q⟩ => ⟨c, e, h _ _ q⟩) q, PE_imp (pe_un un_neg ha.pe) fun σ H Q ⟨env, io, F, st, R, q⟩ => ?_⟩
  refine tE_use ha.mo R q fun d s1 v io1 F1 H1 q1 t1 R1 n1 => ?_
  obtain ⟨c, e, q1⟩ := q1
  subst e
  cases n1
  exact ⟨c, rfl, kE_at q1 t1 R1.toRelH (.int _)⟩
def wNil : DA := fun _ st Q => Q [] st
def wCons (wa : DE) (wr : DA) : DA := fun env st Q => wa env st fun d s1 => wr env s1 fun ds s2 => Q (d :: ds) s2
theorem wa_nil : WA X [] wNil := ⟨fun _ _ _ _ h q => h _ _ q, PA_imp pa_nil fun σ H Q ⟨env, io, F, st, R, q⟩ => q [] io F H Stp.refl R.toRelH .nil⟩
theorem wa_cons {es : List Expr} {wr : DA} (ha : WE X a wa) (hr : WA X es wr) (hs : starEach (a :: es) X.env = (false, eval a X.env) :: starEach es X.env := by rfl) : WA X (a :: es) (wCons wa wr) := by
  refine ⟨fun e s Q Q' h q => ha.mo _ _ _ _ (fun _ _ q => hr.mo _ _ _ _ (fun _ _ q => h _ _ q) q) q, PA_imp (pa_cons ha.pe hr.pe hs) fun σ H Q ⟨env, io, F, st, R, q⟩ => ?_⟩
  refine tE_use ha.mo R q fun d s1 v io1 F1 H1 q1 t1 R1 n1 => ?_
  refine tA_use hr.mo R1 q1 fun ds s2 vs io2 F2 H2 q2 t2 R2 n2 => ?_
  exact q2 _ _ _ _ (t1.trans t2) R2.toRelH (.cons (t2.den n1) n2)
end
/-- a new tuple -/
theorem lay_tup {K : PySem.W.Frag} {H : Hp} {io : List Addr} {F : Hp} {st : Sto} {Q : VK} {vs : List V} {ds : List D} (R : RelH K H io F st) (n : DenL K io F vs ds) (z : ds.length ≤ sizeLine) (q : kE K H io F Q (.tup ds) st) :
    XtK H Q vs := fun p o hp hd =>
  q _ io (upd F p (.frz o (.tup vs))) _ (Stp.laid hp R.sub) (R.laid hp) (.tup (.inl ⟨o, upd_same, hd⟩) ((Stp.laid hp R.sub).denL n) z)
theorem lay_lst {K : PySem.W.Frag} {H : Hp} {io : List Addr} {F : Hp} {st : Sto} {Q : VK} {vs : List V} {ds : List D} (R : RelH K H io F st) (n : DenL K io F vs ds) (z : ds.length ≤ sizeLine) (q : kE K H io F Q (.lst ds) st) :
    ∀ p, H p = none → Q (.ref p) (upd H p (.lst vs)) := fun p hp =>
  q _ io (upd F p (.lst vs)) _ (Stp.laid hp R.sub) (R.laid hp) (.lst upd_same ((Stp.laid hp R.sub).denL n) z)
section
variable {K : PySem.W.Frag} {io io' : List Addr} {F F' H H' : Hp} {st st' : Sto}
/-- a new cell -/
theorem new_cell (R : RelH K H io F st) {p : Addr} {vs : List V} {ds : List D} (hp : H p = none) (n : DenL K io F vs ds) (z : ds.length ≤ sizeLine) :
    Stp H io F (upd H p (.lst vs)) (io ++ [p]) F ∧ RelH K (upd H p (.lst vs)) (io ++ [p]) F (st ++ [.lst ds]) ∧ Den K (io ++ [p]) F (.ref p) (.ref st.length) := by
  have s : Stp H io F (upd H p (.lst vs)) (io ++ [p]) F := (Stp.aside hp).cell hp
  exact ⟨s, (R.aside hp).adopt ⟨_, upd_same, fun _ z => nomatch z⟩ (R.notIo hp) ⟨R.notF hp, z, vs, upd_same, s.denL n⟩, R.newRef⟩
theorem lay_cell {Q : VK} {vs : List V} {ds : List D} (R : RelH K H io F st) (n : DenL K io F vs ds) (z : ds.length ≤ sizeLine) (q : kE K H io F Q (.ref st.length) (st ++ [.lst ds])) :
    ∀ p, H p = none → Q (.ref p) (upd H p (.lst vs)) := fun p hp => by
  obtain ⟨s, r, d⟩ := new_cell R hp n z
  exact q _ _ _ _ s r d
/-- a new list: kept apart (mutable) or a value -/
def newL (m : Bool) (ds : List D) (st : Sto) (Q : DK) : Prop := if m = true then Q (.ref st.length) (st ++ [.lst ds]) else Q (.lst ds) st
theorem newL_mo {m : Bool} {ds : List D} {st : Sto} {Q Q' : DK} (h : ∀ d s, Q d s → Q' d s) (q : newL m ds st Q) : newL m ds st Q' := by
  cases m with
  | true => exact h _ _ q
  | false => exact h _ _ q
theorem lay_new {m : Bool} {Q : VK} {vs : List V} {ds : List D} (R : RelH K H io F st) (n : DenL K io F vs ds) (z : ds.length ≤ sizeLine) (q : newL m ds st (kE K H io F Q)) :
    ∀ p, H p = none → Q (.ref p) (upd H p (.lst vs)) := by
  cases m with
  | true => exact lay_cell R n z q
  | false => exact lay_lst R n z q
end
section
variable {X : Cx} {pos : Pos} {es : List Expr} {wa : DA}
def wTup (wa : DA) : DE := fun env st Q => wa env st fun ds s => ds.length ≤ sizeLine ∧ Q (.tup ds) s
def wLst (m : Bool) (wa : DA) : DE := fun env st Q => wa env st fun ds s => ds.length ≤ sizeLine ∧ newL m ds s Q
theorem we_tup {k} (h : WA X es wa) : WE X (.Tuple es k pos) (wTup wa) := by
  refine ⟨fun e s Q Q' i q => h.mo _ _ _ _ (fun _ _ ⟨z, q⟩ => ⟨z, i _ _ q⟩) q, PE_imp (pe_tupX h.pe) fun σ H Q ⟨env, io, F, st, R, q⟩ => ?_⟩
  refine tA_use h.mo R q fun ds s1 vs io1 F1 H1 ⟨z, q1⟩ t1 R1 n1 => ⟨by rw [n1.length]; exact z, ?_⟩
  exact lay_tup R1.toRelH n1 z (kE_later t1 q1)
theorem we_lst {m : Bool} (h : WA X es wa) : WE X (.List es pos) (wLst m wa) := by
  refine ⟨fun e s Q Q' i q => h.mo _ _ _ _ (fun _ _ ⟨z, q⟩ => ⟨z, newL_mo i q⟩) q, PE_imp (pe_lst h.pe) fun σ H Q ⟨env, io, F, st, R, q⟩ => ?_⟩
  refine tA_use h.mo R q fun ds s1 vs io1 F1 H1 ⟨z, q1⟩ t1 R1 n1 => ⟨by rw [n1.length]; exact z, ?_⟩
  exact lay_new R1.toRelH n1 z (newL_mo (fun _ _ => kE_later t1) q1)
end
end DL
namespace DL
open PySem PySem.Spec PyProof.Rows L2
structure FnG (P : Program) (w : World) (K : PySem.W.Frag) (mg : Str → Option Value) (base : Heap) (CX : CXT) (k : Nat) (f : Addr) (fd : FuncData) (ps : List Str) (sp : Sp) : Prop where
  len : ∀ vs H Q E, sp vs H Q E → vs.length = ps.length
  run : ∀ (A : Around) (outer : List Env) (s : Shared) (H : Hp) (args : Args) (us : List Value) (vs : List V) (Q : VK) (E : XK), Room k A → A.guards = some [] → Env0 P w K mg base A outer s H → BindsTo s fd args (ps.zip us) →
    Vals vs us → sp vs H Q E → codeAny (model P w) A (.call (.ref f) args) (CR CX outer P w H s Q E) s
theorem FnG.mono {P : Program} {w : World} {K : PySem.W.Frag} {mg : Str → Option Value} {base : Heap} {CX : CXT} {j k : Nat} {f : Addr} {fd : FuncData} {ps : List Str} {sp : Sp} (F : FnG P w K mg base CX j f fd ps sp) (h : j ≤ k) :
    FnG P w K mg base CX k f fd ps sp := ⟨F.len, fun A outer s H args us vs Q E hr => F.run A outer s H args us vs Q E (hr.mono h)⟩
section
variable {X : Cx} {CX : CXT} {k : Nat} {f : Addr} {fd : FuncData} {ps : List Str} {sp : Sp} {E : XK} {x : Str} {p pos : Pos} {e : Expr} {es : List Expr} {t : TA}
theorem runG {pins : List (Addr × Obj)} {σ : L2.St} {H : Hp} {s : Shared} {Q : VK} {us : List Value} {vs : List V} (F : FnG X.prog X.w X.K X.mg X.base CX k f fd ps sp) (hr : Room k X.A) (hgd : X.A.guards = some []) (hb : Binds X.K fd ps [])
    (hx : Passes CX X E) (I : Inv X pins σ H s) (r : Vals vs us) (h : sp vs H Q E) : wpAny (model X.prog X.w) X.A (call (.ref f) us) (EP X pins σ Q) X.xe s := by
  have hlen : (us ++ []).length = ps.length := by rw [List.append_nil, ← r.length]; exact F.len _ _ _ _ h
  have hbind := hb s us I.kIn hlen
  rw [List.append_nil] at hbind
  have run := F.run X.A X.stack s H ⟨us, []⟩ us vs Q E hr hgd I.env0 hbind r h
  refine wpAny_call (codeAny_mono run fun res s' hq => ?_)
  match res, hq with
  | .error e, hq => exact hx pins σ H s e s' I hq
  | .ok (.ret u), hq => exact I.after hq
  | .ok .next, hq => exact hq.elim
  | .ok .brk, hq => exact hq.elim
  | .ok .cont, hq => exact hq.elim
theorem pe_callG (F : FnG X.prog X.w X.K X.mg X.base CX k f fd ps sp) (hr : Room k X.A) (hgd : X.A.guards = some []) (hg : Gl X x) (hm : X.mg x = some (.ref f)) (hk : PySem.W.keepIn X.K (.ref f) = true) (hb : Binds X.K fd ps []) (hx : Passes CX X E)
    (ha : PA X (e :: es) t) (hdb : (x == ("__debug__" : Str)) = false := by decide) (he : starEach (e :: es) X.env = (false, eval e X.env) :: starEach es X.env := by rfl) (hpl : (backTo pos (starEach es X.env)).any (·.1) = false := by rfl) :
    PE X (.Call (.Name x p) (e :: es) [] pos) (fun σ H Q => t σ H fun vs H1 => sp vs H1 Q E) := by
  refine ⟨fun pins s σ H Q I h => wpAny_Call_Name_kw (ld_glob I hg hm ?_ hdb)⟩
  refine PySem.W.callWith_K (h₀ := X.base) I.ok.mod.kin hk (thn (ha.run pos pins s σ H _ I h) fun us s1 h1 => ?_) he hpl
  obtain ⟨vs, H1, I1, r, q⟩ := h1
  exact ⟨I1.kIn, runG F hr hgd hb hx I1 r q⟩
end
/-- a def by its body -/
theorem fnG_of {CX : CXT} {P : Program} {w : World} {K : PySem.W.Frag} {mg : Str → Option Value} {base : Heap} {x qual : Str} {st : Stmt} {f : Addr} {fd : FuncData} {N ps : List Str} {k : Nat} {sp : Sp} (F : Fun K x qual st f fd) (S : FnScope N ps (defScope st))
    (len : ∀ vs H Q E, sp vs H Q E → vs.length = ps.length)
    (hbody : ∀ (cdv : Value) (A : Around) (outer : List Env) (s : Shared) (H : Hp) (vs : List V) (Q : VK) (E : XK), fd.code = cdv → Room k (A.deeper (envOfC qual (defScope st) s.heap.objs.size f cdv)) → A.guards = some [] → sp vs H Q E →
      ∃ t, PSs (cxOf CX P w K mg base N qual (defScope st) f cdv A outer s H E) (defBody st) t ∧ t { nx := fun _ H' => Q .non H', rt := Q } (L2.start N vs) H) : FnG P w K mg base CX (k + 1) f fd ps sp := by
  obtain ⟨oc, od, kV, doc, pm, an, cdv, ct, osl, rfl, lk, hcd⟩ := F.ex
  refine ⟨len, fun A outer s H args us vs Q E hr hgd e0 hb r hsp => ?_⟩
  have hl := len _ _ _ _ hsp
  have inK : K.In s.heap := e0.mod.kin.keeps fun b o e => (e0.bs b o e).1
  have lim : s.heap.NoLimit := e0.mod.nolimit.keeps fun b o e => (e0.bs b o e).1
  have slots : ∀ y ∈ ps.zip us, (defScope st).names.lookup y.1 = some .local ∨ ((defScope st).names.lookup y.1 = some .cell ∧ ((cellsFrom (s.heap.objs.size + 1) (defScope st).names []).lookup y.1).isSome = true) := by
    rintro ⟨n, v⟩ hy
    have q := S.par n (List.of_mem_zip hy).1
    exact q.elim .inl fun q => .inr ⟨q, PySem.W.cellsFrom_some _ _ _ (.inl q)⟩
  refine codeAny_call_function hr.depth (inK _ _ lk) rfl S.co S.gen rfl (PySem.W.codeRec_of inK hcd) (hb _ _ _ _ ?_)
  refine wpAny_newFunctionEnv_cells S.kind slots fun env he s1 entry => ?_
  subst he
  obtain ⟨t, ht, hq⟩ := hbody cdv A outer s H vs Q E rfl (hr.deeper _) hgd hsp
  have I : Inv (cxOf CX P w K mg base N qual (defScope st) f cdv A outer s H E) [] (L2.start N vs) H s1 := inv_start S hr.hd e0 hl r entry
  refine ⟨lim.keeps entry.toInCall.keep, codeAny_func (wpAny_mono (ht.run [] s1 _ H _ I hq) (fun fl s' hs => ?_) fun e s' hs => hs)⟩
  match fl, hs with
  | .ret u, ⟨v, _, H', J, rv, q⟩ => exact ⟨v, H', J.os, J.bare, J.base, J.hok, rv, q⟩
  | .next, ⟨_, H', J, q⟩ => exact ⟨.non, H', J.os, J.bare, J.base, J.hok, rfl, q⟩
  | .brk, ⟨_, _, _, q⟩ => exact q.elim
  | .cont, ⟨_, _, _, q⟩ => exact q.elim
/-- the code objects and tables of the defs that make lambdas -/
def tabCs (K : PySem.W.Frag) : List (Addr × Addr) := lamNames.filterMap fun x => PySem.W.tabIn K x
theorem tabs_cs {K : PySem.W.Frag} {p : Addr × Str} (h : p ∈ tabsOf K) : ∃ c, (c, p.1) ∈ tabCs K := by
  obtain ⟨x, hx, e⟩ := List.mem_filterMap.mp h
  cases q : PySem.W.tabIn K x with
  | none => rw [q] at e; cases e
  | some r =>
    rw [q] at e
    cases e
    exact ⟨r.1, List.mem_filterMap.mpr ⟨x, hx, q⟩⟩
/-- the law's call -/
theorem law_callT {P : Program} {w : World} {K : PySem.W.Frag} {mg mb : Str → Option Value} {k : Nat} {fa a : Addr} {fd : FuncData} {x : Str} {sp : Sp} {s₁ : Shared} {vs : List Value} {ns : List Int}
    (KX : K.In s₁.heap) (hns : s₁.heap.Ns mainGlobals mg) (hb : s₁.heap.Ns builtinsNs mb) (hbb : ∀ x : Str, x ≠ "__name__" → mb x = bootBuiltins x) (hlim : s₁.heap.NoLimit) (hg : s₁.gens = #[])
    (tE : ∀ p ∈ tabCs K, PySem.W.CodeHd s₁.heap p.1 p.2 ∧ s₁.heap.get? p.2 = some { cls := .none, data := .fields #[] }) (tN : ∀ p ∈ tabCs K, K.lookup p.2 = none)
    (tB : ∃ (bm : Addr) (ob : Obj), mg "__builtins__" = some (.ref bm) ∧ bm ≠ builtinsNs ∧ s₁.heap.get? bm = some ob ∧ ob.cls = .type "module" ∧ ob.dict = some builtinsNs ∧ ob.data = .plain)
    (ha : s₁.heap.get? a = some { cls := .type "list", data := .seq vs.toArray }) (hi : IntsAre vs ns) (hl : ns.length ≤ sizeLine) (hr : Room k callerA)
    (F : ∀ base : Heap, K.In base → base.Ns mainGlobals mg → (∀ p ∈ tabCs K, LamX.TabB base mg p.1 p.2) → FnG P w K mg base CX0 k fa fd [x] sp) (hbind : ∀ (s : Shared) (u : Value), BindsTo s fd ⟨[u], []⟩ [(x, u)])
    (hsp : ∀ H : Hp, (∀ p ∈ tabCs K, H p.2 = some (.tbl #[])) → SqL K H a (ns.map V.int) → sp [.ref a] H (fun v _ => v = .bl true) fun _ _ _ => False) :
    codeAny (model P w) callerA (.call (.ref fa) ⟨[.ref a], []⟩) (fun r s' => r = .ok (.ret (.bool true)) ∧ OldK s₁.heap s'.heap ∧ s'.os = s₁.os ∧ AllBare s'.gens) s₁ := by
  have rv := vals_ints hi
  have lenV := hi.length
  let obj : Obj := { cls := .type "list", data := .seq vs.toArray }
  let Ps : List Addr := (tabCs K).map (·.2)
  have tabP : ∀ b ∈ Ps, s₁.heap.get? b = some { cls := .none, data := .fields #[] } ∧ K.lookup b = none := fun b hb => by
    obtain ⟨p, hp, rfl⟩ := List.mem_map.mp hb
    exact ⟨(tE p hp).2, tN p hp⟩
  have inP : ∀ p ∈ tabCs K, p.2 ∈ Ps := fun p hp => List.mem_map.mpr ⟨p, hp, rfl⟩
  have aP : a ∉ Ps := fun h => by
    have := (tabP a h).1
    rw [ha] at this
    cases this
  -- the abstract heap: the script, unless the module itself has it, and the tables
  let H0 : Hp := fun b => if b ∈ Ps then some (.tbl #[]) else if b = a ∧ K.lookup a = none then some (.frz obj (.lst (ns.map V.int))) else none
  have h0t : ∀ b ∈ Ps, H0 b = some (.tbl #[]) := fun b hb => by show (if b ∈ Ps then _ else _) = _; rw [if_pos hb]
  have h0n : ∀ b, b ∉ Ps → H0 b = if b = a ∧ K.lookup a = none then some (.frz obj (.lst (ns.map V.int))) else none := fun b hb => by show (if b ∈ Ps then _ else _) = _; rw [if_neg hb]
  have at_a : ∀ b o, H0 b = some o → (b ∈ Ps ∧ o = .tbl #[]) ∨ (b ∉ Ps ∧ b = a ∧ K.lookup a = none ∧ o = .frz obj (.lst (ns.map V.int))) := fun b o e => by
    by_cases hb : b ∈ Ps
    · rw [h0t b hb] at e
      exact .inl ⟨hb, (Option.some.inj e).symm⟩
    · rw [h0n b hb] at e
      by_cases q : b = a ∧ K.lookup a = none
      · rw [if_pos q] at e
        exact .inr ⟨hb, q.1, q.2, (Option.some.inj e).symm⟩
      · rw [if_neg q] at e
        cases e
  have hS : SqL K H0 a (ns.map V.int) := by
    cases q : K.lookup a with
    | none => exact .inl (.inr ⟨obj, by rw [h0n a aP, if_pos ⟨rfl, q⟩]⟩)
    | some o =>
      have e := KX a o q
      rw [ha] at e
      cases e
      exact .inr ⟨_, vs.toArray, _, q, rfl, rfl, rfl, by rw [List.size_toArray, lenV]; exact hl, by simpa using rv⟩
  have hok : HOk P w H0 s₁.heap := fun b o e => by
    rcases at_a b o e with ⟨hb, rfl⟩ | ⟨_, rfl, _, rfl⟩
    · exact (tabP b hb).1
    · exact ⟨ha, by rw [List.length_map]; exact hl, vs, _, rv, ha⟩
  have free_of : ∀ {b : Addr} {o : Obj}, s₁.heap.get? b = some o → (∀ xs n, o.data ≠ .seq xs n) → o.data ≠ .fields #[] → H0 b = none := fun {b o} e d d2 => by
    cases q : H0 b with
    | none => rfl
    | some u =>
      rcases at_a b u q with ⟨hb, _⟩ | ⟨_, rfl, _, _⟩
      · rw [(tabP b hb).1] at e
        cases e
        exact absurd rfl d2
      · rw [ha] at e
        cases e
        exact absurd rfl (d _ _)
  have nsOf : ∀ {b : Addr} {m : Str → Option Value}, s₁.heap.Ns b m → (hidT s₁.heap H0).Ns b m := fun {b m} ⟨o, es, ep, e, d, r⟩ =>
    ⟨o, es, ep, hidT_get e (free_of e (fun xs n z => by rw [d] at z; cases z) (fun z => by rw [d] at z; cases z)), d, r⟩
  have inB : K.In (hidT s₁.heap H0) := fun b o e => hidT_get (KX b o e) (by
    cases q : H0 b with
    | none => rfl
    | some u =>
      rcases at_a b u q with ⟨hb, _⟩ | ⟨_, rfl, q2, _⟩
      · rw [(tabP b hb).2] at e; cases e
      · rw [q2] at e; cases e)
  have hM : Mod K mg (hidT s₁.heap H0) := ⟨inB, nsOf hns, ⟨mb, nsOf hb, hbb⟩, let ⟨mc, h1, h2⟩ := hlim; ⟨mc, nsOf h1, h2⟩⟩
  have hTB : ∀ p ∈ tabCs K, LamX.TabB (hidT s₁.heap H0) mg p.1 p.2 := fun p hp => by
    have hPp := (tE p hp).2
    constructor
    · obtain ⟨o, us, f1, f2, f3, f4, f5, f6, f7, g1, g2, g3, g4, gr⟩ := (tE p hp).1
      have : H0 p.1 = none := free_of g1 (fun xs n z => by rw [g3] at z; cases z) fun z => by
        rw [g3] at z
        cases z
        simp at g4
      exact ⟨o, us, f1, f2, f3, f4, f5, f6, f7, hidT_get g1 this, g2, g3, g4, gr⟩
    · obtain ⟨bm, ob, b1, b2, b3, b4, b5, b6⟩ := tB
      have n1 : bm ≠ mainGlobals := fun q => by
        obtain ⟨o, es, ep, e, d, _⟩ := hns
        rw [q, e] at b3
        cases b3
        rw [d] at b6; cases b6
      have n2 : bm ≠ p.2 := fun q => by
        rw [q, hPp] at b3
        cases b3; cases b6
      have : H0 bm = none := free_of b3 (fun xs n z => by rw [b6] at z; cases z) fun z => by rw [b6] at z; cases z
      exact ⟨bm, ob, b1, b2, n1, n2, hidT_get b3 this, b4, b5, b6⟩
    · intro q
      obtain ⟨o, es, ep, e, d, _⟩ := hns
      rw [q, hPp] at e
      cases e; cases d
  have e0 : Env0 P w K mg (hidT s₁.heap H0) callerA [] s₁ H0 := ⟨rfl, hM, fun b o e => of_hidT e, Nat.le_of_eq (hidT_size _ _), trivial, fun b hb => absurd (show b ∈ ([] : List Addr) from hb) (by simp), hok, .of_eq hg⟩
  refine codeAny_mono ((F _ inB (nsOf hns) hTB).run callerA [] s₁ H0 ⟨[.ref a], []⟩ [.ref a] [.ref a] _ _ hr rfl e0 (hbind s₁ (.ref a)) (.cons rfl .nil) (hsp H0 (fun p hp => h0t _ (inP p hp)) hS)) fun r s' h => ?_
  match r, h with
  | .error e, h => exact h.elim
  | .ok .next, h => exact h.elim
  | .ok .brk, h => exact h.elim
  | .ok .cont, h => exact h.elim
  | .ok (.ret u), h =>
    obtain ⟨v, H', os, bare, un, hok', r', q⟩ := h
    subst q
    obtain rfl : u = Value.bool true := r'
    have stay : ∀ b o, b ∉ Ps → s₁.heap.get? b = some o → s'.heap.get? b = some o := fun b o nb e => by
      cases q : H0 b with
      | none => exact un.keep b o e q (by intro z; exact absurd (show b ∈ ([] : List Addr) from z) (by simp)) (by simp)
      | some u =>
        rcases at_a b u q with ⟨hb, _⟩ | ⟨_, rfl, _, rfl⟩
        · exact absurd hb nb
        · have e2 := hok' _ _ (un.frzs _ obj _ q)
          rw [ha] at e
          cases e
          exact e2.1
    have grew : ∀ p ∈ tabCs K, ∃ more : Array Value, s'.heap.get? p.2 = some { cls := .none, data := .fields more } := fun p hp => by
      obtain ⟨more, z⟩ := un.tbls p.2 #[] (h0t _ (inP p hp))
      exact ⟨_, hok' _ _ z⟩
    refine ⟨rfl, ⟨fun b o e => ?_, fun b o e => ?_⟩, os, bare⟩
    all_goals by_cases hm : b ∈ Ps
    · obtain ⟨p, hp, rfl⟩ := List.mem_map.mp hm
      obtain ⟨more, z⟩ := grew p hp
      rw [(tE p hp).2] at e
      cases e
      refine .inr (.inl ⟨((tE p hp).1.tab (tE p hp).2).isCodeTable, rfl, #[], more, rfl, ?_⟩)
      rw [Array.empty_append]
      exact z
    · exact .inl (stay b o hm e)
    · obtain ⟨p, hp, rfl⟩ := List.mem_map.mp hm
      obtain ⟨more, z⟩ := grew p hp
      exact ⟨_, z⟩
    · exact ⟨o, stay b o hm e⟩
end DL
namespace DL
open PySem PySem.Spec PyProof.Rows L2
def tabsW (g : Addr → Option Obj) (K : PySem.W.Frag) : Bool := (tabCs K).all fun p => PySem.W.codeHdIn K p.1 p.2 && (match g p.2 with
  | some o => He.emptyTab o
  | none => false)
def wOf (fn : List He.DefD) (ex : PySem.W.Frag → Bool) (g : Addr → Option Obj) (K : PySem.W.Frag) : He.AlD := ((fn.all fun d => d.ok K) && (ex K && tabsW g K), fn.map fun d => He.fnW K d.at_)
/-- the objects looked at: the module's, the classes' namespaces and methods, the defs' code -/
def refE (o : Obj) : List Addr := match o.data with
  | .dict es _ => es.toList.flatMap fun e => He.refV e.val
  | _ => []
def refC (o : Obj) : List Addr := match o.data with
  | .func fd => He.refV fd.code
  | .cls cd => [cd.ns]
  | _ => []
def lev (f : Obj → List Addr) (g : Addr → Option Obj) (as : List Addr) : List Addr := as.flatMap fun a => match g a with
  | some o => f o
  | none => []
def asW3 (g : Addr → Option Obj) (l1 l2 l3 : List Addr) : List Addr := mainGlobals :: (l1 ++ (l2 ++ (l3 ++ lev refC g l3)))
def asW2 (g : Addr → Option Obj) (l1 l2 : List Addr) : List Addr := asW3 g l1 l2 (lev refE g l2)
def asW1 (g : Addr → Option Obj) (l1 : List Addr) : List Addr := asW2 g l1 (lev refC g l1)
def asW (g : Addr → Option Obj) : List Addr := asW1 g (lev refE g [mainGlobals])
def obsW (fn : List He.DefD) (ex : PySem.W.Frag → Bool) (g : Addr → Option Obj) : He.AlD := wOf fn ex g (He.frT g (asW g))
structure SaysW (fn : List He.DefD) (ex : PySem.W.Frag → Bool) (h : Heap) (K : PySem.W.Frag) : Prop where
  d : He.SaysD [] fn K
  ex : ex K = true
  tabs : ∀ p ∈ tabCs K, (PySem.W.codeHdIn K p.1 p.2 = true ∧ h.get? p.2 = some { cls := .none, data := .fields #[] }) ∧ K.lookup p.2 = none
theorem saysW_of {fn : List He.DefD} {ex : PySem.W.Frag → Bool} {h : Heap} (e : obsW fn ex h.get? = He.valD fn) : SaysW fn ex h (He.frT h.get? (asW h.get?)) := by
  have e1 : ((fn.all fun d => d.ok (He.frT h.get? (asW h.get?))) && (ex (He.frT h.get? (asW h.get?)) && tabsW h.get? (He.frT h.get? (asW h.get?)))) = true := congrArg (fun z : He.AlD => z.1) e
  have e2 : fn.map (fun d => He.fnW (He.frT h.get? (asW h.get?)) d.at_) = fn.map He.DefD.val := congrArg (fun z : He.AlD => z.2) e
  obtain ⟨h1, h2⟩ := He.ba e1
  obtain ⟨h3, h4⟩ := He.ba h2
  refine ⟨?_, h3, fun p hp => ?_⟩
  · show ((([] : List He.Fa).all fun f => f.ok _) && fn.all fun d => d.ok _, fn.map fun d => He.fnW _ d.at_) = (true, fn.map He.DefD.val)
    rw [e2, h1]
    rfl
  · obtain ⟨h5, h6⟩ := He.ba (List.all_eq_true.mp h4 p hp)
    cases q : h.get? p.2 with
    | none => rw [q] at h6; cases h6
    | some o =>
      rw [q] at h6
      exact ⟨⟨h5, by rw [He.emptyTab_eq h6]⟩, He.frT_none q h6⟩
def hookW (fn : List He.DefD) (ex : PySem.W.Frag → Bool) : PySem.W.Hook where
  α := He.AlD
  obs := fun s => obsW fn ex s.heap.get?
  val := fun _ => He.valD fn
  says := fun _ h => ∃ K : PySem.W.Frag, K.In h ∧ SaysW fn ex h K
  of := fun _ _ e => ⟨_, He.frT_in, saysW_of e⟩
  keeps := fun _ _ _ ⟨K, hK, c⟩ k => ⟨K, PySem.W.Frag.In.keeps hK k, ⟨c.d, c.ex, fun p hp => ⟨⟨(c.tabs p hp).1.1, k _ _ (c.tabs p hp).1.2⟩, (c.tabs p hp).2⟩⟩⟩
theorem obsW_eq {fn : List He.DefD} {ex : PySem.W.Frag → Bool} {g : Addr → Option Obj} {s : Shared} (h : ∀ a, g a = s.heap.get? a) : obsW fn ex g = (hookW fn ex).obs s := by
  have e : g = s.heap.get? := funext h
  rw [e] <;> rfl
section
variable {fn : List He.DefD} {K : PySem.W.Frag} {h : Heap}
/-- a def's object -/
theorem def_at {fa : List He.Fa} (c : He.SaysD fa fn K) (i : Nat) {d : He.DefD} (hi : fn[i]? = some d) (e1 : d.dfl = []) : ∃ (oc : Value) (od an : Option Addr) (sl : Array (Option Value)) (kV dc pm cd ct : Value),
    K.lookup (He.fAd K d.at_) = some ⟨oc, od, .func (PySem.W.fnOf d.name d.qual d.params d.body d.scope .none kV dc pm an cd ct), sl⟩ ∧ PySem.W.codeIn K cd d.qual = true ∧ PySem.W.keepIn K (.ref (He.fAd K d.at_)) = true := by
  obtain ⟨fd, F⟩ := c.def_ i hi
  obtain ⟨⟨oc, od, dV, kV, doc, pm, an, cdv, ct, osl, rfl, lk, hc, hd, _⟩, kp⟩ := F
  have hdv : d.dvs K = [] := by unfold He.DefD.dvs; rw [e1]; rfl
  rw [hdv] at hd
  rcases hd with ⟨_, rfl⟩ | ⟨z, _⟩
  · exact ⟨_, _, _, _, _, _, _, _, _, lk, hc, kp⟩
  · exact absurd rfl z
/-- an own exception's class -/
def oexB (K : PySem.W.Frag) (C : Addr) : Bool := match K.lookup C with
  | some ⟨.type c, _, .cls cd, sl⟩ => decide (c = "type") && (match cd.mro, sl.toList with
    | .ref C' :: bm, [_, _, _, _, some (.builtin n), _] => decide (C' = C) && (decide (n = "ValueError.__new__") && (!cd.hasDel && (cd.hasDict && PySem.HandSPX.refsVE bm)))
    | _, _ => false)
  | _ => false
theorem oexB_ok {C : Addr} (q : oexB K C = true) : ∃ nm q N bs bm sn sub ab col dd k0 k1 k2 k3 k5, K.lookup C = some (PySem.excClassObj nm q C N bs bm true sn sub ab col dd k0 k1 k2 k3 k5 "ValueError.__new__") ∧ PySem.HandSPX.refsVE bm = true := by
  unfold oexB at q
  split at q
  · rename_i c dd cd sl ho
    obtain ⟨q1, r⟩ := He.ba q
    clear q
    have ec := of_decide_eq_true q1
    subst ec
    split at r
    · rename_i C' bm k0 k1 k2 k3 n k5 hm hs
      obtain ⟨q2, r2⟩ := He.ba r
      obtain ⟨q3, r3⟩ := He.ba r2
      obtain ⟨q4, r4⟩ := He.ba r3
      obtain ⟨q5, q6⟩ := He.ba r4
      have e2 := of_decide_eq_true q2
      have e3 := of_decide_eq_true q3
      subst e2 e3
      obtain ⟨n1, n2, n3, n4, n5, n6, n7, n8, n9, n10, n11⟩ := cd
      have hm : n3 = .ref C' :: bm := hm
      have w4 : n11 = false := by simpa using q4
      have w5 : n6 = true := q5
      subst hm w4 w5
      obtain ⟨sl⟩ := sl
      have hs : sl = [k0, k1, k2, k3, some (.builtin "ValueError.__new__"), k5] := hs
      subst hs
      exact ⟨_, _, _, _, _, _, _, _, _, _, _, _, _, _, _, ho, q6⟩
    · cases r
  · cases q
theorem exs_at {exs : List (PySem.W.Frag → Bool)} (c : (exs.all fun f => f K) = true) (i : Nat) {f : PySem.W.Frag → Bool} (h : exs[i]? = some f) : f K = true := List.all_eq_true.mp c f (List.mem_of_getElem? h)
theorem walk_TE {l : PySem.W.OpenLaw} {n k : Nat} {q : Program} {loose : List Str} {XP : (Str → Option Value) → Heap → Prop} {YP : World → Heap → Prop} {d : DefRec} {sp : PySem.W.Frag → Sp} {x : Str}
    (hn : l.most = some n) (hn2 : n ≤ sizeLine) (hdf : d.params.defaults = []) (hr : Room k callerA)
    (F : ∀ (w : World) (mg : Str → Option Value) (fa : Addr) (h : Heap), YP w h → h.Ns mainGlobals mg → mg d.name = some (.ref fa) →
      ∃ K : PySem.W.Frag, K.In h ∧ (∀ p ∈ tabCs K, (PySem.W.CodeHd h p.1 p.2 ∧ h.get? p.2 = some { cls := .none, data := .fields #[] }) ∧ K.lookup p.2 = none) ∧
        ∃ fd : FuncData, (∀ (s : Shared) (u : Value), BindsTo s fd ⟨[u], []⟩ [(x, u)]) ∧ ∀ base : Heap, K.In base → base.Ns mainGlobals mg → (∀ p ∈ tabCs K, LamX.TabB base mg p.1 p.2) → FnG l.prog w K mg base CX0 k fa fd [x] (sp K))
    (hsp : ∀ (K : PySem.W.Frag) (H : Hp) (a : Addr) (ns : List Int), ns.length ≤ n → (∀ p ∈ tabCs K, H p.2 = some (.tbl #[])) → SqL K H a (ns.map V.int) → sp K [.ref a] H (fun v _ => v = .bl true) fun _ _ _ => False) :
    PySem.W.WalkO q loose XP YP l.row.toRowW d [] (fun f vs => PySem.call f vs) := by
  refine Att.attach_call hn hdf fun w s₀ s₁ mg mb fa o pm cd doc a vs ns G Y ho hd hcd hmg hobj hints hlen hg => ?_
  obtain ⟨K, KX, both, fd, hb, hF⟩ := F w mg fa _ Y G.T.g hmg
  exact law_callT KX G.T.g G.T.b G.T.builtins G.T.nolimit hg (fun p hp => (both p hp).1) (fun p hp => (both p hp).2) G.T.bmain hobj hints (Nat.le_trans hlen hn2) hr hF hb fun H h1 hS => hsp K H a ns hlen h1 hS
theorem tabs_ok {ex : PySem.W.Frag → Bool} (X : K.In h) (c : SaysW fn ex h K) : ∀ p ∈ tabCs K, (PySem.W.CodeHd h p.1 p.2 ∧ h.get? p.2 = some { cls := .none, data := .fields #[] }) ∧ K.lookup p.2 = none := fun p hp =>
  ⟨⟨PySem.W.codeHd_of_K X (c.tabs p hp).1.1, (c.tabs p hp).1.2⟩, (c.tabs p hp).2⟩
end
end DL
namespace DL.M
open PySem PySem.Spec PyProof.Rows L2
def topS (i : Nat) : Stmt := PySem.Challenge.pw_workwishes_k45_whole_none_keeps_more.main.body.getD i (.Pass ⟨0, 0, 0, 0⟩)
abbrev s_p_is_number : Stmt := topS 1
abbrev s_p_end_of : Stmt := topS 4
abbrev s_p_is_free : Stmt := topS 5
abbrev s_p_is_even : Stmt := topS 13
abbrev s_p_room_up_to : Stmt := topS 14
abbrev s_p_is_kept_evenpaper : Stmt := topS 15
abbrev s_p_is_no_lower : Stmt := topS 16
abbrev s_p_in_blocks : Stmt := topS 26
abbrev s_f_law_deck : Stmt := topS 30
abbrev s_f_law_next : Stmt := topS 31
abbrev s_f_law_odd : Stmt := topS 32
abbrev s_f_law_ways : Stmt := topS 33
abbrev s_f_law_clash : Stmt := topS 34
abbrev s_f_law_kept : Stmt := topS 38
abbrev s_f_law_room : Stmt := topS 42
abbrev s_f_law_blocks : Stmt := topS 45
abbrev s_p_is_from : Stmt := topS 2
abbrev s_p_is_behind : Stmt := topS 7
abbrev s_p_do_fit : Stmt := topS 24
abbrev s_f_law_goes : Stmt := topS 35
abbrev s_f_law_whole : Stmt := topS 37
abbrev s_f_law_weights : Stmt := topS 39
abbrev s_f_law_even_wish : Stmt := topS 40
abbrev s_f_law_may : Stmt := topS 44
abbrev s_f_law_full_days : Stmt := topS 46
abbrev s_f_law_bent_row : Stmt := topS 48
abbrev s_p_is_way : Stmt := topS 6
abbrev s_p_clash : Stmt := topS 8
abbrev s_p_holds_full : Stmt := topS 17
abbrev s_p_taken_wishes : Stmt := topS 25
abbrev s_f_law_plans : Stmt := topS 36
abbrev s_f_law_even : Stmt := topS 41
abbrev s_f_law_taken : Stmt := topS 43
abbrev s_f_law_bent_paper : Stmt := topS 49
abbrev s_f_law_any_paper : Stmt := topS 50
abbrev s_p_goes_with : Stmt := topS 10
abbrev s_p_full_day : Stmt := topS 27
abbrev s_f_law_paper : Stmt := topS 47
abbrev s_p_is_plan : Stmt := topS 11
abbrev s_p_even : Stmt := topS 28
abbrev s_p_even_holds : Stmt := topS 18
abbrev s_p_law : Stmt := topS 51
end DL.M
namespace DL
open PySem PySem.Spec PyProof.Rows L2
namespace HeadF
open PySem PySem.Spec PyProof.Rows L2
def d_p_is_number : He.DefD := ⟨("is_number", none), "is_number", "is_number", defArgs (DL.M.s_p_is_number), defBody (DL.M.s_p_is_number), defScope (DL.M.s_p_is_number), [], []⟩
def d_p_end_of : He.DefD := ⟨("end_of", none), "end_of", "end_of", defArgs (DL.M.s_p_end_of), defBody (DL.M.s_p_end_of), defScope (DL.M.s_p_end_of), [], []⟩
def d_p_is_free : He.DefD := ⟨("is_free", none), "is_free", "is_free", defArgs (DL.M.s_p_is_free), defBody (DL.M.s_p_is_free), defScope (DL.M.s_p_is_free), [], []⟩
def d_p_is_even : He.DefD := ⟨("is_even", none), "is_even", "is_even", defArgs (DL.M.s_p_is_even), defBody (DL.M.s_p_is_even), defScope (DL.M.s_p_is_even), [], []⟩
def d_p_room_up_to : He.DefD := ⟨("room_up_to", none), "room_up_to", "room_up_to", defArgs (DL.M.s_p_room_up_to), defBody (DL.M.s_p_room_up_to), defScope (DL.M.s_p_room_up_to), [], []⟩
def d_p_is_kept_evenpaper : He.DefD := ⟨("is_kept", none), "is_kept", "is_kept", defArgs (DL.M.s_p_is_kept_evenpaper), defBody (DL.M.s_p_is_kept_evenpaper), defScope (DL.M.s_p_is_kept_evenpaper), [], []⟩
def d_p_is_no_lower : He.DefD := ⟨("is_no_lower", none), "is_no_lower", "is_no_lower", defArgs (DL.M.s_p_is_no_lower), defBody (DL.M.s_p_is_no_lower), defScope (DL.M.s_p_is_no_lower), [], []⟩
def d_p_in_blocks : He.DefD := ⟨("in_blocks", none), "in_blocks", "in_blocks", defArgs (DL.M.s_p_in_blocks), defBody (DL.M.s_p_in_blocks), defScope (DL.M.s_p_in_blocks), [], []⟩
def d_f_law_deck : He.DefD := ⟨("_law_deck", none), "_law_deck", "_law_deck", defArgs (DL.M.s_f_law_deck), defBody (DL.M.s_f_law_deck), defScope (DL.M.s_f_law_deck), [], []⟩
def d_f_law_next : He.DefD := ⟨("_law_next", none), "_law_next", "_law_next", defArgs (DL.M.s_f_law_next), defBody (DL.M.s_f_law_next), defScope (DL.M.s_f_law_next), [], []⟩
def d_f_law_odd : He.DefD := ⟨("_law_odd", none), "_law_odd", "_law_odd", defArgs (DL.M.s_f_law_odd), defBody (DL.M.s_f_law_odd), defScope (DL.M.s_f_law_odd), [], []⟩
def d_f_law_ways : He.DefD := ⟨("_law_ways", none), "_law_ways", "_law_ways", defArgs (DL.M.s_f_law_ways), defBody (DL.M.s_f_law_ways), defScope (DL.M.s_f_law_ways), [], []⟩
def d_f_law_clash : He.DefD := ⟨("_law_clash", none), "_law_clash", "_law_clash", defArgs (DL.M.s_f_law_clash), defBody (DL.M.s_f_law_clash), defScope (DL.M.s_f_law_clash), [], []⟩
def d_f_law_kept : He.DefD := ⟨("_law_kept", none), "_law_kept", "_law_kept", defArgs (DL.M.s_f_law_kept), defBody (DL.M.s_f_law_kept), defScope (DL.M.s_f_law_kept), [], []⟩
def d_f_law_room : He.DefD := ⟨("_law_room", none), "_law_room", "_law_room", defArgs (DL.M.s_f_law_room), defBody (DL.M.s_f_law_room), defScope (DL.M.s_f_law_room), [], []⟩
def d_f_law_blocks : He.DefD := ⟨("_law_blocks", none), "_law_blocks", "_law_blocks", defArgs (DL.M.s_f_law_blocks), defBody (DL.M.s_f_law_blocks), defScope (DL.M.s_f_law_blocks), [], []⟩
def d_p_is_from : He.DefD := ⟨("is_from", none), "is_from", "is_from", defArgs (DL.M.s_p_is_from), defBody (DL.M.s_p_is_from), defScope (DL.M.s_p_is_from), [], []⟩
def d_p_is_behind : He.DefD := ⟨("is_behind", none), "is_behind", "is_behind", defArgs (DL.M.s_p_is_behind), defBody (DL.M.s_p_is_behind), defScope (DL.M.s_p_is_behind), [], []⟩
def d_p_do_fit : He.DefD := ⟨("do_fit", none), "do_fit", "do_fit", defArgs (DL.M.s_p_do_fit), defBody (DL.M.s_p_do_fit), defScope (DL.M.s_p_do_fit), [], []⟩
def d_f_law_goes : He.DefD := ⟨("_law_goes", none), "_law_goes", "_law_goes", defArgs (DL.M.s_f_law_goes), defBody (DL.M.s_f_law_goes), defScope (DL.M.s_f_law_goes), [], []⟩
def d_f_law_whole : He.DefD := ⟨("_law_whole", none), "_law_whole", "_law_whole", defArgs (DL.M.s_f_law_whole), defBody (DL.M.s_f_law_whole), defScope (DL.M.s_f_law_whole), [], []⟩
def d_f_law_weights : He.DefD := ⟨("_law_weights", none), "_law_weights", "_law_weights", defArgs (DL.M.s_f_law_weights), defBody (DL.M.s_f_law_weights), defScope (DL.M.s_f_law_weights), [], []⟩
def d_f_law_even_wish : He.DefD := ⟨("_law_even_wish", none), "_law_even_wish", "_law_even_wish", defArgs (DL.M.s_f_law_even_wish), defBody (DL.M.s_f_law_even_wish), defScope (DL.M.s_f_law_even_wish), [], []⟩
def d_f_law_may : He.DefD := ⟨("_law_may", none), "_law_may", "_law_may", defArgs (DL.M.s_f_law_may), defBody (DL.M.s_f_law_may), defScope (DL.M.s_f_law_may), [], []⟩
def d_f_law_full_days : He.DefD := ⟨("_law_full_days", none), "_law_full_days", "_law_full_days", defArgs (DL.M.s_f_law_full_days), defBody (DL.M.s_f_law_full_days), defScope (DL.M.s_f_law_full_days), [], []⟩
def d_f_law_bent_row : He.DefD := ⟨("_law_bent_row", none), "_law_bent_row", "_law_bent_row", defArgs (DL.M.s_f_law_bent_row), defBody (DL.M.s_f_law_bent_row), defScope (DL.M.s_f_law_bent_row), [], []⟩
def d_p_is_way : He.DefD := ⟨("is_way", none), "is_way", "is_way", defArgs (DL.M.s_p_is_way), defBody (DL.M.s_p_is_way), defScope (DL.M.s_p_is_way), [], []⟩
def d_p_clash : He.DefD := ⟨("clash", none), "clash", "clash", defArgs (DL.M.s_p_clash), defBody (DL.M.s_p_clash), defScope (DL.M.s_p_clash), [], []⟩
def d_p_holds_full : He.DefD := ⟨("holds_full", none), "holds_full", "holds_full", defArgs (DL.M.s_p_holds_full), defBody (DL.M.s_p_holds_full), defScope (DL.M.s_p_holds_full), [], []⟩
def d_p_taken_wishes : He.DefD := ⟨("taken_wishes", none), "taken_wishes", "taken_wishes", defArgs (DL.M.s_p_taken_wishes), defBody (DL.M.s_p_taken_wishes), defScope (DL.M.s_p_taken_wishes), [], []⟩
def d_f_law_plans : He.DefD := ⟨("_law_plans", none), "_law_plans", "_law_plans", defArgs (DL.M.s_f_law_plans), defBody (DL.M.s_f_law_plans), defScope (DL.M.s_f_law_plans), [], []⟩
def d_f_law_even : He.DefD := ⟨("_law_even", none), "_law_even", "_law_even", defArgs (DL.M.s_f_law_even), defBody (DL.M.s_f_law_even), defScope (DL.M.s_f_law_even), [], []⟩
def d_f_law_taken : He.DefD := ⟨("_law_taken", none), "_law_taken", "_law_taken", defArgs (DL.M.s_f_law_taken), defBody (DL.M.s_f_law_taken), defScope (DL.M.s_f_law_taken), [], []⟩
def d_f_law_bent_paper : He.DefD := ⟨("_law_bent_paper", none), "_law_bent_paper", "_law_bent_paper", defArgs (DL.M.s_f_law_bent_paper), defBody (DL.M.s_f_law_bent_paper), defScope (DL.M.s_f_law_bent_paper), [], []⟩
def d_f_law_any_paper : He.DefD := ⟨("_law_any_paper", none), "_law_any_paper", "_law_any_paper", defArgs (DL.M.s_f_law_any_paper), defBody (DL.M.s_f_law_any_paper), defScope (DL.M.s_f_law_any_paper), [], []⟩
def d_p_goes_with : He.DefD := ⟨("goes_with", none), "goes_with", "goes_with", defArgs (DL.M.s_p_goes_with), defBody (DL.M.s_p_goes_with), defScope (DL.M.s_p_goes_with), [], []⟩
def d_p_full_day : He.DefD := ⟨("full_day", none), "full_day", "full_day", defArgs (DL.M.s_p_full_day), defBody (DL.M.s_p_full_day), defScope (DL.M.s_p_full_day), [], []⟩
def d_f_law_paper : He.DefD := ⟨("_law_paper", none), "_law_paper", "_law_paper", defArgs (DL.M.s_f_law_paper), defBody (DL.M.s_f_law_paper), defScope (DL.M.s_f_law_paper), [], []⟩
def d_p_is_plan : He.DefD := ⟨("is_plan", none), "is_plan", "is_plan", defArgs (DL.M.s_p_is_plan), defBody (DL.M.s_p_is_plan), defScope (DL.M.s_p_is_plan), [], []⟩
def d_p_even : He.DefD := ⟨("even", none), "even", "even", defArgs (DL.M.s_p_even), defBody (DL.M.s_p_even), defScope (DL.M.s_p_even), [], []⟩
def d_p_even_holds : He.DefD := ⟨("even_holds", none), "even_holds", "even_holds", defArgs (DL.M.s_p_even_holds), defBody (DL.M.s_p_even_holds), defScope (DL.M.s_p_even_holds), [], []⟩
def d_p_law : He.DefD := ⟨("law", none), "law", "law", defArgs (DL.M.s_p_law), defBody (DL.M.s_p_law), defScope (DL.M.s_p_law), [], []⟩
def d_init_NoRoom : He.DefD := ⟨("NoRoom", some "__init__"), "__init__", "NoRoom.__init__", defArgs (inClass (DL.M.topS 21) 0), defBody (inClass (DL.M.topS 21) 0), defScope (inClass (DL.M.topS 21) 0), [], []⟩
def dfs_0 : List (He.DefD) := [d_p_is_number, d_p_end_of, d_p_is_free, d_p_is_even, d_p_room_up_to, d_p_is_kept_evenpaper, d_p_is_no_lower, d_p_in_blocks, d_f_law_deck, d_f_law_next, d_f_law_odd, d_f_law_ways, d_f_law_clash, d_f_law_kept, d_f_law_room, d_f_law_blocks, d_p_is_from, d_p_is_behind, d_p_do_fit, d_f_law_goes, d_f_law_whole, d_f_law_weights, d_f_law_even_wish, d_f_law_may, d_f_law_full_days, d_f_law_bent_row, d_p_is_way, d_p_clash, d_p_holds_full, d_p_taken_wishes]
def dfs_1 : List (He.DefD) := [d_f_law_plans, d_f_law_even, d_f_law_taken, d_f_law_bent_paper, d_f_law_any_paper, d_p_goes_with, d_p_full_day, d_f_law_paper, d_p_is_plan, d_p_even, d_p_even_holds, d_p_law, d_init_NoRoom]
def dfs : List (He.DefD) := dfs_0 ++ dfs_1
def loose_0 : List (PySem.Str) := ["is_number", "is_from", "end_of", "is_free", "is_way", "is_behind", "clash", "goes_with", "is_plan", "is_even", "room_up_to", "is_kept", "is_no_lower", "holds_full", "even_holds", "WishError", "NoRoom", "NotEven", "do_fit", "taken_wishes", "in_blocks", "full_day", "even", "_law_deck", "_law_next", "_law_odd", "_law_ways", "_law_clash", "_law_goes", "_law_plans"]
def loose_1 : List (PySem.Str) := ["_law_whole", "_law_kept", "_law_weights", "_law_even_wish", "_law_even", "_law_room", "_law_taken", "_law_may", "_law_blocks", "_law_full_days", "_law_paper", "_law_bent_row", "_law_bent_paper", "_law_any_paper"]
def loose : List (PySem.Str) := loose_0 ++ loose_1
def exs_0 : List (PySem.W.Frag → Bool) := [fun K => decide (PySem.W.nsIn K mainGlobals "NoRoom" = some (some (.ref (He.ga K "NoRoom")))), fun K => decide (PySem.W.keepIn K (.ref (He.ga K "NoRoom")) = true), fun K => decide (PySem.W.subIn K (.ref (He.ga K "NoRoom")) (.type "BaseException") = some true), fun K => decide (PySem.W.typeIn K (.ref (He.ga K "NoRoom")) = some (.type "type")), fun K => oexB K (He.ga K "NoRoom"), fun K => decide (PySem.W.findIn K (.ref (He.ga K "NoRoom")) "__setattr__" = some (some (.builtin "object.__setattr__"))), fun K => decide (PySem.W.findIn K (.ref (He.ga K "NoRoom")) "__init__" = some (some (.ref (He.fAd K d_init_NoRoom.at_)))), fun K => decide (PySem.W.typeIn K (.ref (He.fAd K d_init_NoRoom.at_)) = some (.type "function")), fun K => decide (PySem.W.findIn K (.ref (He.ga K "NoRoom")) "work" = some none), fun K => decide (PySem.W.nsIn K mainGlobals "NotEven" = some (some (.ref (He.ga K "NotEven")))), fun K => decide (PySem.W.keepIn K (.ref (He.ga K "NotEven")) = true), fun K => decide (PySem.W.subIn K (.ref (He.ga K "NotEven")) (.type "BaseException") = some true), fun K => decide (PySem.W.typeIn K (.ref (He.ga K "NotEven")) = some (.type "type")), fun K => decide (PySem.W.excIn K (He.ga K "NotEven") [.type "ValueError", .type "Exception", .type "BaseException", .type "object"] "ValueError.__new__" = true), fun K => decide (PySem.W.nsIn K mainGlobals "is_number" = some (some (.ref (He.fAd K d_p_is_number.at_)))), fun K => decide (PySem.W.nsIn K mainGlobals "end_of" = some (some (.ref (He.fAd K d_p_end_of.at_)))), fun K => decide (PySem.W.nsIn K mainGlobals "is_free" = some (some (.ref (He.fAd K d_p_is_free.at_)))), fun K => decide (PySem.W.nsIn K mainGlobals "is_even" = some (some (.ref (He.fAd K d_p_is_even.at_)))), fun K => decide (PySem.W.nsIn K mainGlobals "room_up_to" = some (some (.ref (He.fAd K d_p_room_up_to.at_)))), fun K => decide (PySem.W.nsIn K mainGlobals "is_kept" = some (some (.ref (He.fAd K d_p_is_kept_evenpaper.at_)))), fun K => decide (PySem.W.nsIn K mainGlobals "is_no_lower" = some (some (.ref (He.fAd K d_p_is_no_lower.at_)))), fun K => decide (PySem.W.nsIn K mainGlobals "in_blocks" = some (some (.ref (He.fAd K d_p_in_blocks.at_)))), fun K => decide (PySem.W.nsIn K mainGlobals "_law_deck" = some (some (.ref (He.fAd K d_f_law_deck.at_)))), fun K => decide (PySem.W.nsIn K mainGlobals "_law_next" = some (some (.ref (He.fAd K d_f_law_next.at_)))), fun K => decide (PySem.W.nsIn K mainGlobals "_law_odd" = some (some (.ref (He.fAd K d_f_law_odd.at_)))), fun K => decide (PySem.W.nsIn K mainGlobals "_law_ways" = some (some (.ref (He.fAd K d_f_law_ways.at_)))), fun K => decide (PySem.W.nsIn K mainGlobals "_law_clash" = some (some (.ref (He.fAd K d_f_law_clash.at_)))), fun K => decide (PySem.W.nsIn K mainGlobals "_law_kept" = some (some (.ref (He.fAd K d_f_law_kept.at_)))), fun K => decide (PySem.W.nsIn K mainGlobals "_law_room" = some (some (.ref (He.fAd K d_f_law_room.at_)))), fun K => decide (PySem.W.nsIn K mainGlobals "_law_blocks" = some (some (.ref (He.fAd K d_f_law_blocks.at_))))]
def exs_1 : List (PySem.W.Frag → Bool) := [fun K => decide (PySem.W.nsIn K mainGlobals "is_from" = some (some (.ref (He.fAd K d_p_is_from.at_)))), fun K => decide (PySem.W.nsIn K mainGlobals "is_behind" = some (some (.ref (He.fAd K d_p_is_behind.at_)))), fun K => decide (PySem.W.nsIn K mainGlobals "do_fit" = some (some (.ref (He.fAd K d_p_do_fit.at_)))), fun K => decide (PySem.W.nsIn K mainGlobals "_law_goes" = some (some (.ref (He.fAd K d_f_law_goes.at_)))), fun K => decide (PySem.W.nsIn K mainGlobals "_law_whole" = some (some (.ref (He.fAd K d_f_law_whole.at_)))), fun K => decide (PySem.W.nsIn K mainGlobals "_law_weights" = some (some (.ref (He.fAd K d_f_law_weights.at_)))), fun K => decide (PySem.W.nsIn K mainGlobals "_law_even_wish" = some (some (.ref (He.fAd K d_f_law_even_wish.at_)))), fun K => decide (PySem.W.nsIn K mainGlobals "_law_may" = some (some (.ref (He.fAd K d_f_law_may.at_)))), fun K => decide (PySem.W.nsIn K mainGlobals "_law_full_days" = some (some (.ref (He.fAd K d_f_law_full_days.at_)))), fun K => decide (PySem.W.nsIn K mainGlobals "_law_bent_row" = some (some (.ref (He.fAd K d_f_law_bent_row.at_)))), fun K => decide (PySem.W.nsIn K mainGlobals "is_way" = some (some (.ref (He.fAd K d_p_is_way.at_)))), fun K => decide (PySem.W.nsIn K mainGlobals "clash" = some (some (.ref (He.fAd K d_p_clash.at_)))), fun K => decide (PySem.W.nsIn K mainGlobals "holds_full" = some (some (.ref (He.fAd K d_p_holds_full.at_)))), fun K => decide (PySem.W.nsIn K mainGlobals "taken_wishes" = some (some (.ref (He.fAd K d_p_taken_wishes.at_)))), fun K => decide (PySem.W.nsIn K mainGlobals "_law_plans" = some (some (.ref (He.fAd K d_f_law_plans.at_)))), fun K => decide (PySem.W.nsIn K mainGlobals "_law_even" = some (some (.ref (He.fAd K d_f_law_even.at_)))), fun K => decide (PySem.W.nsIn K mainGlobals "_law_taken" = some (some (.ref (He.fAd K d_f_law_taken.at_)))), fun K => decide (PySem.W.nsIn K mainGlobals "_law_bent_paper" = some (some (.ref (He.fAd K d_f_law_bent_paper.at_)))), fun K => decide (PySem.W.nsIn K mainGlobals "_law_any_paper" = some (some (.ref (He.fAd K d_f_law_any_paper.at_)))), fun K => decide (PySem.W.nsIn K mainGlobals "goes_with" = some (some (.ref (He.fAd K d_p_goes_with.at_)))), fun K => decide (PySem.W.nsIn K mainGlobals "full_day" = some (some (.ref (He.fAd K d_p_full_day.at_)))), fun K => decide (PySem.W.nsIn K mainGlobals "_law_paper" = some (some (.ref (He.fAd K d_f_law_paper.at_)))), fun K => decide (PySem.W.nsIn K mainGlobals "is_plan" = some (some (.ref (He.fAd K d_p_is_plan.at_)))), fun K => decide (PySem.W.nsIn K mainGlobals "even" = some (some (.ref (He.fAd K d_p_even.at_)))), fun K => decide (PySem.W.nsIn K mainGlobals "even_holds" = some (some (.ref (He.fAd K d_p_even_holds.at_)))), fun K => decide (PySem.W.nsIn K mainGlobals "law" = some (some (.ref (He.fAd K d_p_law.at_)))), fun K => decide (PySem.W.nsIn K mainGlobals "abs" = some none), fun K => decide (PySem.W.nsIn K mainGlobals "any" = some none), fun K => decide (PySem.W.nsIn K mainGlobals "bool" = some none), fun K => decide (PySem.W.nsIn K mainGlobals "enumerate" = some none)]
def exs_2 : List (PySem.W.Frag → Bool) := [fun K => decide (PySem.W.nsIn K mainGlobals "int" = some none), fun K => decide (PySem.W.nsIn K mainGlobals "isinstance" = some none), fun K => decide (PySem.W.nsIn K mainGlobals "len" = some none), fun K => decide (PySem.W.nsIn K mainGlobals "list" = some none), fun K => decide (PySem.W.nsIn K mainGlobals "max" = some none), fun K => decide (PySem.W.nsIn K mainGlobals "min" = some none), fun K => decide (PySem.W.nsIn K mainGlobals "range" = some none), fun K => decide (PySem.W.nsIn K mainGlobals "set" = some none), fun K => decide (PySem.W.nsIn K mainGlobals "sorted" = some none), fun K => decide (PySem.W.nsIn K mainGlobals "tuple" = some none), fun K => decide (PySem.W.nsIn K mainGlobals "zip" = some none)]
def exs : List (PySem.W.Frag → Bool) := exs_0 ++ exs_1 ++ exs_2
abbrev R : PySem.W.OpenRow := PySem.W.OpenLaw.row PySem.Challenge.rw_workwishes_k45_whole_none_keeps_more
abbrev hk : PySem.W.Hook := hookW dfs (fun K => exs.all fun f => f K)
def ob (s : PySem.W.SharedT) : He.AlD := obsW dfs (fun K => exs.all fun f => f K) (HandSHeadRun.getT s)
theorem ob_eq (s : PySem.W.SharedT) : ob s = hk.obs s.abs := obsW_eq (HandSHeadRun.getT_eq s)
theorem run (w : World) : HandSHeadRun.RunEq R (PySem.W.view R.prog [51]) hk ob 40000 loose w := by
  intro os
  kernel_rfl
end HeadF
end DL
namespace DL
open PySem PySem.Spec PyProof.Rows L2
variable [Bs]
structure Spec where
  n : Nat
  G : Type
  args : G → List D
  pre : G → Sto → Prop
  post : G → Sto → D → Sto → Prop
def spOf (K : PySem.W.Frag) (S : Spec) : Sp := fun vs H Q _ => ∃ g io F st, (S.args g).length = S.n ∧ RelH K H io F st ∧ DenL K io F vs (S.args g) ∧ S.pre g st ∧ ∀ d st', S.post g st d st' → kE K H io F Q d st'
def wCall (S : Spec) (wa : DA) : DE := fun env st Q => wa env st fun ds s1 => ∃ g, ds = S.args g ∧ (S.args g).length = S.n ∧ S.pre g s1 ∧ ∀ d s2, S.post g s1 d s2 → Q d s2
section
variable {X : Cx} {pos p : Pos} {e : Expr} {es : List Expr} {wa : DA} {k : Nat} {f : Addr} {fd : FuncData} {ps : List Str} {x : Str}
theorem moCall {S : Spec} {wa : DA} (m : MoA wa) : MoE (wCall S wa) := fun _ _ _ _ i q => m _ _ _ _ (fun _ _ ⟨g, e, z, p, q⟩ => ⟨g, e, z, p, fun d s h => i _ _ (q d s h)⟩) q
theorem we_call {S : Spec} (F : FnG X.prog X.w X.K X.mg X.base CX0 k f fd ps (spOf X.K S)) (hr : Room k X.A) (hgd : X.A.guards = some []) (hg : Gl X x) (hm : X.mg x = some (.ref f)) (hk : PySem.W.keepIn X.K (.ref f) = true) (hb : Binds X.K fd ps [])
    (ha : WA X (e :: es) wa) (hdb : (x == ("__debug__" : Str)) = false := by decide) (he : starEach (e :: es) X.env = (false, eval e X.env) :: starEach es X.env := by rfl) (hpl : (backTo pos (starEach es X.env)).any (·.1) = false := by rfl) :
    WE X (.Call (.Name x p) (e :: es) [] pos) (wCall S wa) := by
  refine ⟨moCall ha.mo, PE_imp (pe_callG F hr hgd hg hm hk hb pass0 ha.pe hdb he hpl) fun σ H Q ⟨env, io, F, st, R, q⟩ => ?_⟩
  refine tA_use ha.mo R q fun ds s1 vs io1 F1 H1 ⟨g, eg, z, p1, q1⟩ t1 R1 n1 => ?_
  subst eg
  exact ⟨g, io1, F1, s1, z, R1.toRelH, n1, p1, fun d s2 h => kE_later t1 (q1 d s2 h)⟩
abbrev RLD := List D → Sto → DK → Prop
structure RzL (K : PySem.W.Frag) (r : List V → Hp → VK → Prop) (f : RLD) : Prop where
  mo : ∀ ds s Q Q', (∀ d s, Q d s → Q' d s) → f ds s Q → f ds s Q'
  on : ∀ {H io F st vs ds Q}, RelH K H io F st → DenL K io F vs ds → f ds st (kE K H io F Q) → r vs H Q
def wCB (f : RLD) (wa : DA) : DE := fun env st Q => wa env st fun ds s1 => f ds s1 Q
theorem we_callX {r : List V → Hp → VK → Prop} {f : RLD} (z : RzL X.K r f) {e0 : Expr} (pe : ∀ {t : TA}, PA X es t → PE X e0 (tCB r t)) (ha : WA X es wa) : WE X e0 (wCB f wa) := by
  refine ⟨fun _ _ _ _ i q => ha.mo _ _ _ _ (fun _ _ q => z.mo _ _ _ _ i q) q, PE_imp (pe ha.pe) fun σ H Q ⟨env, io, F, st, R, q⟩ => ?_⟩
  refine tA_use ha.mo R q fun ds s1 vs io1 F1 H1 q1 t1 R1 n1 => ?_
  exact z.on R1.toRelH n1 (z.mo _ _ _ _ (fun _ _ => kE_later t1) q1)
end
section
variable {X : Cx} {pos pos' : Pos} {e : Expr} {we : DE} {ss rest : Stmt} {sts : List Stmt} {ws wr : DS}
theorem wb_nil : WB X [] (fun D env st => D.nx env st) := ⟨fun _ _ _ _ l q => l.nx _ _ q, PSs_imp pss_nil fun D σ H ⟨env, io, F, st, R, q⟩ => q σ io F H Stp.refl R⟩
def wSeq (a b : DS) : DS := fun D env st => a { D with nx := fun e s => b D e s } env st
theorem kD_seq {K : PySem.W.Frag} {H : Hp} {io : List Addr} {F : Hp} {D : Ends} {b : DS} (mb : MoS b) : DEnds.le { kD K H io F D with nx := fun e s => b (kD K H io F D) e s } (kD K H io F { D with nx := tS K b D }) :=
  ⟨fun e s h σ' io' F' H' t R => ⟨e, io', F', s, R, mb _ _ _ _ (kD_later t) h⟩, fun _ _ h => h, fun _ _ h => h, fun _ _ h => h⟩
theorem wb_cons (h1 : WS X ss ws) (h2 : WB X sts wr) : WB X (ss :: sts) (wSeq ws wr) := by
  refine ⟨fun A B e s l q => h1.mo { A with nx := fun e s => wr A e s } _ _ _ ⟨fun e s q => h2.mo A B _ _ l q, l.rt, l.bk, l.ct⟩ q, PSs_imp (pss_cons h1.pe h2.pe) fun D σ H ⟨env, io, F, st, R, q⟩ => ?_⟩
  exact ⟨env, io, F, st, R, h1.mo _ _ _ _ (kD_seq h2.mo) q⟩
theorem wb_one (h1 : WS X ss ws) : WB X [ss] ws := ⟨h1.mo, pss_one h1.pe⟩
def wDrop (we : DE) : DS := fun D env st => we env st fun _ s => D.nx env s
theorem ws_expr (he : WE X e we) (hs : swapsWith e none pos.line X.env = pure false := by rfl) : WS X (.Expr e pos) (wDrop we) := by
  refine ⟨fun _ _ _ _ l q => he.mo _ _ _ _ (fun _ _ q => l.nx _ _ q) q, PS_imp (ps_expr he.pe hs) fun D σ H ⟨env, io, F, st, R, q⟩ => ?_⟩
  exact tE_use he.mo R q fun d s1 v io1 F1 H1 q1 t1 R1 n1 => q1 σ _ _ _ t1 R1
def wRet (we : DE) : DS := fun D env st => we env st D.rt
theorem ws_ret (he : WE X e we) : WS X (.Return (some e) pos) (wRet we) := by
  refine ⟨fun _ _ _ _ l q => he.mo _ _ _ _ (fun _ _ q => l.rt _ _ q) q, PS_imp (ps_ret he.pe) fun D σ H ⟨env, io, F, st, R, q⟩ => ?_⟩
  exact tE_use he.mo R q fun d s1 v io1 F1 H1 q1 t1 R1 n1 => kE_at q1 t1 R1.toRelH n1
def wIf (c : DT) (a b : DS) : DS := fun D env st => c env st fun k s => if k = true then a D env s else b D env s
theorem ws_if {c : Expr} {a b : List Stmt} {wc : DT} {wa wb : DS} (hc : WT X c wc) (ha : WB X a wa) (hb : WB X b wb) : WS X (.If c a b pos) (wIf wc wa wb) := by
  refine ⟨fun _ _ _ _ l q => hc.mo _ _ _ _ (fun k _ q => by
    cases k with
    | true => exact ha.mo _ _ _ _ l q
    | false => exact hb.mo _ _ _ _ l q) q, PS_imp (ps_if hc.pe ha.pe hb.pe) fun D σ H ⟨env, io, F, st, R, q⟩ => ?_⟩
  refine tT_use hc.mo R q fun k s1 io1 F1 H1 q1 t1 R1 => ?_
  cases k with
  | true => exact ⟨env, io1, F1, s1, R1, ha.mo _ _ _ _ (kD_later t1) q1⟩
  | false => exact ⟨env, io1, F1, s1, R1, hb.mo _ _ _ _ (kD_later t1) q1⟩
abbrev DG := D → En → Sto → (En → Sto → Prop) → Prop
def MoG (g : DG) : Prop := ∀ d e s (Q Q' : En → Sto → Prop), (∀ e s, Q e s → Q' e s) → g d e s Q → g d e s Q'
def tG (K : PySem.W.Frag) (g : DG) : TG := fun v σ H Q => ∃ d env io F st, Rel K σ H env io F st ∧ Den K io F v d ∧ g d env st (kN K H io F Q)
structure WG (X : Cx) (e : Expr) (g : DG) : Prop where
  mo : MoG g
  pe : PG X e (tG X.K g)
abbrev DGs := List D → En → Sto → (En → Sto → Prop) → Prop
def MoGs (g : DGs) : Prop := ∀ d e s (Q Q' : En → Sto → Prop), (∀ e s, Q e s → Q' e s) → g d e s Q → g d e s Q'
def tGs (K : PySem.W.Frag) (g : DGs) : TGs := fun vs σ H Q => ∃ ds env io F st, Rel K σ H env io F st ∧ DenL K io F vs ds ∧ g ds env st (kN K H io F Q)
structure WGs (X : Cx) (es : List Expr) (g : DGs) : Prop where
  mo : MoGs g
  pe : PGs X es (tGs X.K g)
theorem PG_imp {t t' : TG} (h : PG X e t) (i : ∀ v σ H Q, t' v σ H Q → t v σ H Q) : PG X e t' := ⟨fun p s σ H v u Q I r q => h.run p s σ H v u Q I r (i v σ H Q q)⟩
theorem PGs_imp {es : List Expr} {t t' : TGs} (h : PGs X es t) (i : ∀ v σ H Q, t' v σ H Q → t v σ H Q) : PGs X es t' := ⟨fun p s σ H v u Q I r q => h.run p s σ H v u Q I r (i v σ H Q q)⟩
theorem Rel.set {K : PySem.W.Frag} {σ : L2.St} {H : Hp} {env : En} {io : List Addr} {F : Hp} {st : Sto} {i : Nat} {v : V} {d : D} (R : Rel K σ H env io F st) (n : Den K io F v d) : Rel K (σ.set i (some v)) H (env.set i (some d)) io F st :=
  { R.toRelH with
    bs := R.bs
    sl := by rw [List.length_set, List.length_set]; exact R.sl
    slot := fun j d' e => by
      by_cases hj : i = j
      · subst hj
        by_cases hl : i < env.length
        · rw [List.getElem?_set_self hl] at e
          cases e
          exact ⟨v, List.getElem?_set_self (by rw [R.sl]; exact hl), n⟩
        · rw [List.getElem?_eq_none (by rw [List.length_set]; omega)] at e
          cases e
      · rw [List.getElem?_set_ne hj] at e ⊢
        exact R.slot j d' e }
def gNm (i : Nat) : DG := fun d env st Q => Q (env.set i (some d)) st
theorem wg_name {i : Nat} {x : Str} (hN : X.N.Nodup) (hi : X.N[i]? = some x) (hx : Loc X.env.scope x) (hf : X.fn x = true ∨ X.env.scope.names.lookup x = some .local := by first | exact .inl rfl | exact .inr rfl | assumption) : WG X (.Name x pos) (gNm i) :=
  ⟨fun _ _ _ _ _ h q => h _ _ q, PG_imp (pg_name hN hi hx hf) fun v σ H Q ⟨d, env, io, F, st, R, n, q⟩ => q _ _ _ _ Stp.refl (R.set n)⟩
def gNl : DGs := fun ds env st Q => ds = [] ∧ Q env st
def gCn (g : DG) (r : DGs) : DGs := fun ds env st Q => ∃ d ds', ds = d :: ds' ∧ g d env st fun e s => r ds' e s Q
theorem wgs_nil : WGs X [] gNl := ⟨fun _ _ _ _ _ h ⟨a, q⟩ => ⟨a, h _ _ q⟩, PGs_imp pgs_nil fun v σ H Q ⟨d, env, io, F, st, R, n, e, q⟩ => by
  subst e
  cases n
  exact ⟨rfl, q _ _ _ _ Stp.refl R⟩⟩
theorem wgs_cons {es : List Expr} {g : DG} {r : DGs} (h1 : WG X e g) (h2 : WGs X es r) (hs : (assignEach (e :: es) X.env).map (·.2) = assign e X.env :: (assignEach es X.env).map (·.2) := by rfl) : WGs X (e :: es) (gCn g r) := by
  refine ⟨fun _ _ _ _ _ h ⟨d, ds', e, q⟩ => ⟨d, ds', e, h1.mo _ _ _ _ _ (fun _ _ q => h2.mo _ _ _ _ _ h q) q⟩, PGs_imp (pgs_cons h1.pe h2.pe hs) fun v σ H Q ⟨ds, env, io, F, st, R, n, q⟩ => ?_⟩
  obtain ⟨d, ds', e, q⟩ := q
  subst e
  cases n with
  | cons n1 n2 =>
    refine ⟨_, _, rfl, d, env, io, F, st, R, n1, h1.mo _ _ _ _ _ (fun e1 s1 q1 => ?_) q⟩
    intro σ' io' F' H' t R'
    exact ⟨ds', e1, io', F', s1, R', t.denL n2, h2.mo _ _ _ _ _ (fun e2 s2 q2 => kN_later t q2) q1⟩
def gTp (n : Nat) (g : DGs) : DG := fun d env st Q => ∃ ds, d = .tup ds ∧ ds.length = n ∧ g ds env st Q
theorem wg_tup {es : List Expr} {k n : Nat} {g : DGs} (hc : X.calm = true) (h : WGs X es g) (hn : (assignEach es X.env).length = n := by rfl) (hst : (assignEach es X.env).findIdx? (·.1) = none := by rfl) : WG X (.Tuple es k pos) (gTp n g) := by
  refine ⟨fun _ _ _ _ _ i ⟨ds, e, z, q⟩ => ⟨ds, e, z, h.mo _ _ _ _ _ i q⟩, PG_imp (pg_tup hc h.pe hn hst) fun v σ H Q ⟨d, env, io, F, st, R, n1, q⟩ => ?_⟩
  obtain ⟨ds, e, z, q⟩ := q
  subst e
  cases n1 with
  | tup s r _ => exact ⟨_, _, rfl, SqT_mono R.sub s.t, by rw [r.length]; exact z, ds, env, io, F, st, R, r, q⟩
def wAsg (we : DE) (g : DG) : DS := fun D env st => we env st fun d s => g d env s D.nx
theorem ws_asg {tg : Expr} {g : DG} (he : WE X e we) (hg : WG X tg g) (hs : swapsWithSole [tg] e pos.line X.env = pure false := by rfl) (hw : swappedStores [tg] e X.env = pure none := by rfl)
    (h1 : (assignEach [tg] X.env).map (·.2) = [assign tg X.env] := by rfl) : WS X (.Assign [tg] e pos) (wAsg we g) := by
  refine ⟨fun _ _ _ _ l q => he.mo _ _ _ _ (fun _ _ q => hg.mo _ _ _ _ _ l.nx q) q, PS_imp (ps_asg he.pe hg.pe hs hw h1) fun D σ H ⟨env, io, F, st, R, q⟩ => ?_⟩
  exact tE_use he.mo R q fun d s1 v io1 F1 H1 q1 t1 R1 n1 => ⟨d, env, io1, F1, s1, R1, n1, hg.mo _ _ _ _ _ (fun e s q => kN_later t1 q) q1⟩
theorem ws_set {i : Nat} {x : Str} (hN : X.N.Nodup) (hi : X.N[i]? = some x) (hx : Loc X.env.scope x) (he : WE X e we) (hs : swapsWith e (some (.Name x pos')) pos.line X.env = pure false := by rfl)
    (hf : X.fn x = true ∨ X.env.scope.names.lookup x = some .local := by first | exact .inl rfl | exact .inr rfl | assumption) : WS X (.Assign [.Name x pos'] e pos) (wAsg we (gNm i)) := by
  refine ⟨fun _ _ _ _ l q => he.mo _ _ _ _ (fun _ _ q => l.nx _ _ q) q, PS_imp (ps_set hN hi hx he.pe hs hf) fun D σ H ⟨env, io, F, st, R, q⟩ => ?_⟩
  exact tE_use he.mo R q fun d s1 v io1 F1 H1 q1 t1 R1 n1 => q1 _ _ _ _ t1 (R1.set n1)
end
end DL
namespace DL
open PySem PySem.Spec PyProof.Rows L2
variable [Bs]
abbrev GK := List D → (Sto → Prop) → Sto → Prop
abbrev DI := En → Sto → GK → Prop
def MoI (w : DI) : Prop := ∀ (e : En) (s : Sto) (Q Q' : GK), (∀ d g s, Q d g s → Q' d g s) → w e s Q → w e s Q'
structure WalkD (K : PySem.W.Frag) (J : It) (H : Hp) (io : List Addr) (F : Hp) (ds : List D) (G : Sto → Prop) : Prop where
  go : ∀ {H2 io2 F2 st2} (i : Nat), Stp H io F H2 io2 F2 → RelH K H2 io2 F2 st2 → G st2 → i < ds.length → J.go i H2
  stop : ∀ {H2 io2 F2 st2}, Stp H io F H2 io2 F2 → RelH K H2 io2 F2 st2 → G st2 → J.stop ds.length H2
  yld : ∀ {H2 io2 F2 st2} (i : Nat) (x : V) (H3 : Hp), Stp H io F H2 io2 F2 → RelH K H2 io2 F2 st2 → G st2 → i < ds.length → J.yld i H2 x H3 →
    ∃ F3 d, Stp H2 io2 F2 H3 io2 F3 ∧ RelH K H3 io2 F3 st2 ∧ ds[i]? = some d ∧ Den K io2 F3 x d
def kI (K : PySem.W.Frag) (H : Hp) (io : List Addr) (F : Hp) (R : It → Hp → Prop) : GK := fun ds G st' => ∀ io' F' H' J, Stp H io F H' io' F' → RelH K H' io' F' st' → WalkD K J H' io' F' ds G → R J H'
def tI (K : PySem.W.Frag) (w : DI) : TI := fun σ H R => ∃ env io F st, Rel K σ H env io F st ∧ w env st (kI K H io F R)
structure WI (X : Cx) (tg iter : Expr) (w : DI) : Prop where
  mo : MoI w
  pe : PI X tg iter (tI X.K w)
theorem PI_imp {X : Cx} {tg iter : Expr} {t t' : TI} (h : PI X tg iter t) (i : ∀ σ H R, t' σ H R → t σ H R) : PI X tg iter t' := ⟨fun p s σ H R I q => h.run p s σ H R I (i σ H R q)⟩
def wForL (G : Sto → Prop) (g : DG) (b : DS) (A : DEnds) : List D → En → Sto → Prop
  | [], env, st => G st ∧ A.nx env st
  | d :: r, env, st => G st ∧ g d env st fun e s => b { nx := wForL G g b A r, rt := A.rt, bk := A.nx, ct := wForL G g b A r } e s
def wFor (wi : DI) (g : DG) (b : DS) : DS := fun D env st => wi env st fun ds G s => wForL G g b D ds env s
theorem moForL {G : Sto → Prop} {g : DG} {b : DS} (mg : MoG g) (mb : MoS b) {A B : DEnds} (l : A.le B) : ∀ (ds : List D) (env : En) (st : Sto), wForL G g b A ds env st → wForL G g b B ds env st
  | [], _, _, ⟨h, q⟩ => ⟨h, l.nx _ _ q⟩
  | d :: r, env, st, ⟨h, q⟩ => ⟨h, mg _ _ _ _ _ (fun e s q => mb { nx := wForL G g b A r, rt := A.rt, bk := A.nx, ct := wForL G g b A r } { nx := wForL G g b B r, rt := B.rt, bk := B.nx, ct := wForL G g b B r } _ _ ⟨moForL mg mb l r, l.rt, l.nx, moForL mg mb l r⟩ q) q⟩
section
variable {X : Cx} {pos : Pos} {tg iter : Expr} {body : List Stmt} {wi : DI} {g : DG} {b : DS}
theorem ws_for (hp : PassesOwn (model X.prog X.w) X.A X.env X.xe) (hc : X.calm = true) (hi : WI X tg iter wi) (hg : WG X tg g) (hb : WB X body b)
    (hs : ∀ x, foldedSetIterable iter X.env x = pure x := by intro _; rfl) : WS X (.For tg iter body [] pos) (wFor wi g b) := by
  refine ⟨fun A B e s l q => hi.mo _ _ _ _ (fun ds G s q => moForL hg.mo hb.mo l ds e s q) q, PS_imp (ps_for hp hc hi.pe hg.pe hb.pe hs) fun D σ H ⟨env, io, F, st, R, q⟩ => ?_⟩
  refine ⟨env, io, F, st, R, hi.mo _ _ _ _ (fun ds G s1 q1 => ?_) q⟩
  intro io1 F1 H1 J t1 R1 W
  let Pv : Nat → L2.St → Hp → Prop := fun i σ' H' => ∃ env' io' F' st', Stp H1 io1 F1 H' io' F' ∧ Rel X.K σ' H' env' io' F' st' ∧ wForL G g b (kD X.K H io F D) (ds.drop i) env' st'
  refine ⟨fun i m σ' H' => m = ds.length - i ∧ i ≤ ds.length ∧ Pv i σ' H', ⟨ds.length, by omega, Nat.zero_le _, env, io1, F1, s1, Stp.refl, R.next t1 R1, by rw [List.drop_zero]; exact q1⟩, ?_⟩
  rintro i m σ2 H2 ⟨rfl, hi2, env2, io2, F2, st2, t2, R2, q2⟩
  by_cases hlt : i < ds.length
  · have hd : ds.drop i = ds[i] :: ds.drop (i + 1) := List.drop_eq_getElem_cons hlt
    rw [hd] at q2
    obtain ⟨hG, q2⟩ := q2
    refine .inr ⟨W.go i t2 R2.toRelH hG hlt, Pv (i + 1), fun σ' H' p => ⟨ds.length - (i + 1), by omega, rfl, hlt, p⟩, fun x H3 y => ?_⟩
    obtain ⟨F3, d, t3, R3, e3, n3⟩ := W.yld i x H3 t2 R2.toRelH hG hlt y
    have ed : d = ds[i] := by rw [List.getElem?_eq_getElem hlt] at e3; exact (Option.some.inj e3).symm
    subst ed
    refine ⟨_, env2, io2, F3, st2, R2.next t3 R3, n3, hg.mo _ _ _ _ _ (fun e4 s4 q4 => ?_) q2⟩
    intro σ4 io4 F4 H4 t4 R4
    refine ⟨e4, io4, F4, s4, R4, hb.mo _ _ _ _ ?_ q4⟩
    have tt := (t2.trans t3).trans t4
    refine ⟨fun e5 s5 q5 => ?_, fun d5 s5 q5 => ?_, fun e5 s5 q5 => ?_, fun e5 s5 q5 => ?_⟩
    · exact fun σ5 io5 F5 H5 t5 R5 => ⟨e5, io5, F5, s5, tt.trans t5, R5, q5⟩
    · exact kE_later (t1.trans tt) q5
    · exact kN_later (t1.trans tt) q5
    · exact fun σ5 io5 F5 H5 t5 R5 => ⟨e5, io5, F5, s5, tt.trans t5, R5, q5⟩
  · have e : i = ds.length := by omega
    subst e
    rw [List.drop_length] at q2
    obtain ⟨hG, q2⟩ := q2
    exact .inl ⟨W.stop t2 R2.toRelH hG, q2 _ _ _ _ (t1.trans t2) R2⟩
def wWhile (c : DT) (b : DS) : DS := fun D env st => ∃ I : Nat → En → Sto → Prop, (∃ m, I m env st) ∧ ∀ m env st, I m env st → c env st fun k s => if k = true then b { nx := fun e s => ∃ m', m' < m ∧ I m' e s, rt := D.rt, bk := D.nx, ct := fun e s => ∃ m', m' < m ∧ I m' e s } env s else D.nx env s
theorem ws_while {c : Expr} {wc : DT} (hp : PassesOwn (model X.prog X.w) X.A X.env X.xe) (hc : WT X c wc) (hb : WB X body b) : WS X (.While c body [] pos) (wWhile wc b) := by
  refine ⟨fun A B e s l ⟨I, i0, q⟩ => ⟨I, i0, fun m e s hI => hc.mo _ _ _ _ (fun k s q => ?_) (q m e s hI)⟩, PS_imp (ps_while hp hc.pe hb.pe) fun D σ H ⟨env, io, F, st, R, I, ⟨m0, i0⟩, q⟩ => ?_⟩
  · cases k with
    | true => exact hb.mo { nx := fun e s => ∃ m', m' < m ∧ I m' e s, rt := A.rt, bk := A.nx, ct := fun e s => ∃ m', m' < m ∧ I m' e s } _ _ _ ⟨fun _ _ h => h, fun _ _ h => l.rt _ _ h, fun _ _ h => l.nx _ _ h, fun _ _ h => h⟩ q
    | false => exact l.nx _ _ q
  · refine ⟨fun m σ' H' => ∃ env' io' F' st', Stp H io F H' io' F' ∧ Rel X.K σ' H' env' io' F' st' ∧ I m env' st', ⟨m0, env, io, F, st, Stp.refl, R, i0⟩, ?_⟩
    rintro m σ1 H1 ⟨env1, io1, F1, st1, t1, R1, i1⟩
    refine tT_use hc.mo R1 (q m env1 st1 i1) fun k s2 io2 F2 H2 q2 t2 R2 => ?_
    cases k with
    | true =>
      rw [if_pos rfl] at q2 ⊢
      refine ⟨fun σ' H' => ∃ m', m' < m ∧ ∃ env' io' F' st', Stp H io F H' io' F' ∧ Rel X.K σ' H' env' io' F' st' ∧ I m' env' st', fun σ' H' h => h, env1, io2, F2, s2, R2, hb.mo _ _ _ _ ?_ q2⟩
      refine ⟨fun e5 s5 ⟨m', hm, q5⟩ => ?_, fun d5 s5 q5 => ?_, fun e5 s5 q5 => ?_, fun e5 s5 ⟨m', hm, q5⟩ => ?_⟩
      · exact fun σ5 io5 F5 H5 t5 R5 => ⟨m', hm, e5, io5, F5, s5, (t1.trans t2).trans t5, R5, q5⟩
      · exact kE_later (t1.trans t2) q5
      · exact kN_later (t1.trans t2) q5
      · exact fun σ5 io5 F5 H5 t5 R5 => ⟨m', hm, e5, io5, F5, s5, (t1.trans t2).trans t5, R5, q5⟩
    | false =>
      rw [if_neg Bool.false_ne_true] at q2 ⊢
      exact q2 _ _ _ _ (t1.trans t2) R2
end
def wipeE (env : En) : List Nat → En
  | [] => env
  | v :: vs => (wipeE env vs).set v none
theorem wipe_rel {K : PySem.W.Frag} {σ : L2.St} {H : Hp} {env : En} {io : List Addr} {F : Hp} {st : Sto} (R : Rel K σ H env io F st) : ∀ vs : List Nat, Rel K (wipe σ vs) H (wipeE env vs) io F st
  | [] => R
  | v :: vs => by
    have ih := wipe_rel R vs
    refine { ih.toRelH with sl := ?_, bs := ih.bs, slot := fun j d e => ?_ }
    · show ((wipe σ vs).set v none).length = ((wipeE env vs).set v none).length
      rw [List.length_set, List.length_set]; exact ih.sl
    · replace e : ((wipeE env vs).set v none)[j]? = some (some d) := e
      show ∃ x, ((wipe σ vs).set v none)[j]? = some (some x) ∧ _
      by_cases hj : v = j
      · subst hj
        by_cases hl : v < (wipeE env vs).length
        · rw [List.getElem?_set_self hl] at e; cases e
        · rw [List.getElem?_eq_none (by rw [List.length_set]; omega)] at e; cases e
      · rw [List.getElem?_set_ne hj] at e ⊢
        exact ih.slot j d e
/-- targets in a comprehension: plain slots -/
inductive Tg where
  | nm (i : Nat) | tp (is : List Nat)
def Tg.dg : Tg → DG
  | .nm i => gNm i
  | .tp is => gTp is.length (is.foldr (fun i r => gCn (gNm i) r) gNl)
def Tg.tg (K : PySem.W.Frag) : Tg → TG
  | .nm i => gName i
  | .tp is => gTup K is.length (is.foldr (fun i r => gCons (gName i) r) gNil)
def Tg.ix : Tg → List Nat
  | .nm i => [i]
  | .tp is => is
theorem wipe_set {σ : L2.St} {x : Option V} {i : Nat} : ∀ {vs : List Nat}, i ∈ vs → wipe (σ.set i x) vs = wipe σ vs
  | v :: vs, h => by
    unfold wipe
    by_cases e : i ∈ vs
    · rw [wipe_set e]
    · have ev : i = v := by rcases List.mem_cons.mp h with z | z; exact z; exact absurd z e
      subst ev
      have : ∀ (vs : List Nat) (σ : L2.St), i ∉ vs → wipe (σ.set i x) vs = (wipe σ vs).set i x := fun vs => by
        induction vs with
        | nil => intro σ _; rfl
        | cons w ws ih =>
          intro σ hn
          unfold wipe
          have h1 : w ≠ i := fun z => hn (by rw [z]; exact List.mem_cons_self)
          rw [ih σ (fun z => hn (List.mem_cons_of_mem _ z)), List.set_comm _ _ h1.symm]
      rw [this vs σ e, List.set_set]
/-- running a target: the slots besides stay -/
theorem Tg.run {K : PySem.W.Frag} {H : Hp} {io : List Addr} {F : Hp} {st : Sto} {vs : List Nat} : ∀ (t : Tg) (hv : ∀ i ∈ t.ix, i ∈ vs) {σ : L2.St} {env : En} {v : V} {d : D} {Q : L2.St → Hp → Prop} {P : En → Sto → Prop}, Rel K σ H env io F st → Den K io F v d → t.dg d env st P →
    (∀ σ' env', P env' st → Rel K σ' H env' io F st → wipe σ' vs = wipe σ vs → Q σ' H) → t.tg K v σ H Q
  | .nm i, hv, σ, env, v, d, Q, P, R, n, q, k => k _ _ q (R.set n) (wipe_set (hv i (by simp [Tg.ix])))
  | .tp is, hv, σ, env, v, d, Q, P, R, n, q, k => by
    obtain ⟨ds, e, z, q⟩ := q
    subst e
    cases n with
    | @tup a xs _ s r _ =>
      refine ⟨a, xs, rfl, SqT_mono R.sub s.t, by rw [r.length]; exact z, ?_⟩
      clear s z
      replace hv : ∀ i ∈ is, i ∈ vs := hv
      suffices ∀ (is : List Nat) (hv : ∀ i ∈ is, i ∈ vs) (xs : List V) (ds : List D) (σ' : L2.St) (env' : En), Rel K σ' H env' io F st → wipe σ' vs = wipe σ vs → DenL K io F xs ds →
          is.foldr (fun i r => gCn (gNm i) r) gNl ds env' st P → is.foldr (fun i r => gCons (gName i) r) gNil xs σ' H Q from this is hv xs ds σ env R rfl r q
      intro is
      induction is with
      | nil =>
        intro hv xs ds σ' env' R' w' r' q'
        obtain ⟨e, q'⟩ := q'
        subst e
        cases r'
        exact ⟨rfl, k _ _ q' R' w'⟩
      | cons i is ih =>
        intro hv xs ds σ' env' R' w' r' q'
        obtain ⟨d1, ds', e, q'⟩ := q'
        subst e
        cases r' with
        | @cons v1 vs1 _ _ n1 n2 =>
          exact ⟨v1, vs1, rfl, ih (fun j hj => hv j (List.mem_cons_of_mem _ hj)) vs1 ds' _ _ (R'.set n1) ((wipe_set (hv i List.mem_cons_self)).trans w') n2 q'⟩
theorem moFold {Q Q' : En → Sto → Prop} (h : ∀ e s, Q e s → Q' e s) {s : Sto} : ∀ (is : List Nat) (ds : List D) (e : En), is.foldr (fun i r => gCn (gNm i) r) gNl ds e s Q → is.foldr (fun i r => gCn (gNm i) r) gNl ds e s Q'
  | [], _, _, ⟨a, q⟩ => ⟨a, h _ _ q⟩
  | i :: is, _, _, ⟨d1, ds', e2, q⟩ => ⟨d1, ds', e2, moFold h is _ _ q⟩
theorem Tg.mo : ∀ t : Tg, MoG t.dg
  | .nm i => fun _ _ _ _ _ h q => h _ _ q
  | .tp is => fun d e s Q Q' h ⟨ds, e1, z, q⟩ => ⟨ds, e1, z, moFold h is ds e q⟩
def wCompL (G : Sto → Prop) (t : Tg) (c : DT) (w : DE) (env : En) : List D → Sto → List D → LK → Prop
  | [], st, acc, Q => G st ∧ Q acc st
  | d :: r, st, acc, Q => G st ∧ t.dg d env st fun e s => c e s fun k s1 => if k = true then w e s1 fun x s2 => wCompL G t c w env r s2 (acc ++ [x]) Q else wCompL G t c w env r s1 acc Q
def wComp (m : Bool) (wi : DI) (t : Tg) (c : DT) (w : DE) (vs : List Nat) : DE := fun env st Q => wi env st fun ds G s => ds.length ≤ sizeLine ∧ wCompL G t c w (wipeE env vs) ds s [] fun acc s' => newL m acc s' Q
theorem moCompL {G : Sto → Prop} {t : Tg} {c : DT} {w : DE} (mc : MoT c) (mw : MoE w) {Q Q' : LK} (h : ∀ d s, Q d s → Q' d s) {env : En} : ∀ (ds : List D) (st : Sto) (acc : List D), wCompL G t c w env ds st acc Q → wCompL G t c w env ds st acc Q'
  | [], _, _, ⟨g, q⟩ => ⟨g, h _ _ q⟩
  | d :: r, st, acc, ⟨g, q⟩ => ⟨g, t.mo _ _ _ _ _ (fun e s q => mc _ _ _ _ (fun k s1 q => by
    cases k with
    | true => exact mw _ _ _ _ (fun x s2 q => moCompL mc mw h r s2 _ q) q
    | false => exact moCompL mc mw h r s1 acc q) q) q⟩
def wYes : DT := fun _ st Q => Q true st
/-- a clause's tests -/
structure WTs (X : Cx) (ifs : List Expr) (w : DT) : Prop where
  mo : MoT w
  pe : PTs X ifs (tT X.K w)
theorem PTs_imp {X : Cx} {e : List Expr} {t t' : TT} (h : PTs X e t) (i : ∀ σ H Q, t' σ H Q → t σ H Q) : PTs X e t' := ⟨fun p s σ H Q I q => h.run p s σ H Q I (i σ H Q q)⟩
theorem wts_nil {X : Cx} : WTs X [] wYes := ⟨fun _ _ _ _ h q => h _ _ q, PTs_imp pts_nil fun σ H Q ⟨env, io, F, st, R, q⟩ => q io F H Stp.refl R.toRelH⟩
theorem wts_one {X : Cx} {c : Expr} {w : DT} (h : WT X c w) : WTs X [c] w := ⟨h.mo, pts_one h.pe⟩
/-- the reading of a comprehension -/
theorem tLc_of {K : PySem.W.Frag} {wi : DI} {t : Tg} {c : DT} {w : DE} {vs : List Nat} {m : Bool} {Q : VK} {σ : L2.St} {H : Hp} (mi : MoI wi) (mc : MoT c) (mw : MoE w) (hv : ∀ i ∈ t.ix, i ∈ vs) (h : tE K (wComp m wi t c w vs) σ H Q) :
    tLc (tI K wi) (t.tg K) (tT K c) (tE K w) vs σ H Q := by
  obtain ⟨env, io, F, st, R, q⟩ := h
  refine ⟨env, io, F, st, R, mi _ _ _ _ (fun ds G s1 ⟨hz, q1⟩ => ?_) q⟩
  intro io1 F1 H1 J t1 R1 W Dl hD
  have R1' : Rel K σ H1 env io1 F1 s1 := R.next t1 R1
  have hio := R1.notIo hD
  have hF := R1.notF hD
  have hHD : H Dl = none := t1.none_of hD
  let Pv : Nat → Hp → Prop := fun i H' => ∃ io' F' st' acc vs', Stp H1 io1 F1 H' io' F' ∧ RelH K H' io' F' st' ∧ H' Dl = some (.lst vs') ∧ F' Dl = none ∧ Dl ∉ io' ∧ DenL K io' F' vs' acc ∧ acc.length ≤ i ∧
    wCompL G t c w (wipeE env vs) (ds.drop i) st' acc (fun acc s' => newL m acc s' (kE K H io F Q))
  refine ⟨fun i k H' => k = ds.length - i ∧ i ≤ ds.length ∧ Pv i H', ⟨ds.length, by omega, Nat.zero_le _, io1, F1, s1, [], [], Stp.refl.own hD, R1.aside hD, upd_same, hF, hio, .nil, Nat.le_refl _, by rw [List.drop_zero]; exact q1⟩, ?_⟩
  rintro i k H2 ⟨rfl, hi2, io2, F2, st2, acc, vs2, t2, R2, e2, f2, o2, n2, l2, q2⟩
  by_cases hlt : i < ds.length
  · have hd : ds.drop i = ds[i] :: ds.drop (i + 1) := List.drop_eq_getElem_cons hlt
    rw [hd] at q2
    obtain ⟨hG, q2⟩ := q2
    refine .inr ⟨W.go i t2 R2 hG hlt, Pv (i + 1), fun H' p => ⟨ds.length - (i + 1), by omega, rfl, hlt, p⟩, fun x H3 y => ?_⟩
    obtain ⟨F3, d, t3, R3, e3, n3⟩ := W.yld i x H3 t2 R2 hG hlt y
    have ed : d = ds[i] := by rw [List.getElem?_eq_getElem hlt] at e3; exact (Option.some.inj e3).symm
    subst ed
    have Rs : Rel K (wipe σ vs) H3 (wipeE env vs) io2 F3 st2 := wipe_rel (R1'.next (t2.trans t3) R3) vs
    refine t.run hv Rs n3 q2 fun σ4 env4 q4 R4 w4 => ⟨?_, ?_⟩
    · rw [w4]
      have : ∀ (vs ws : List Nat), (∀ i ∈ vs, i ∈ ws) → wipe (wipe σ ws) vs = wipe σ ws := fun vs ws => by
        induction vs with
        | nil => intro _; rfl
        | cons v vs ih =>
          intro hh
          show (wipe (wipe σ ws) vs).set v none = _
          rw [ih fun i hi => hh i (List.mem_cons_of_mem _ hi)]
          have hv' := hh v List.mem_cons_self
          clear ih hh
          induction ws with
          | nil => cases hv'
          | cons u us ih2 =>
            show ((wipe σ us).set u none).set v none = (wipe σ us).set u none
            by_cases e : v = u
            · subst e; rw [List.set_set]
            · rcases List.mem_cons.mp hv' with z | z
              · exact absurd z e
              · rw [List.set_comm _ _ (Ne.symm e), ih2 z]
      exact this vs vs fun _ h => h
    refine tT_use mc R4 q4 fun b s5 io5 F5 H5 q5 t5 R5 => ?_
    have b5 := (t3.trans t5).beside e2 (fun _ z => nomatch z) f2 o2
    cases b with
    | true =>
      rw [if_pos rfl] at q5 ⊢
      refine tE_use mw R5 q5 fun d6 s6 v6 io6 F6 H6 q6 t6 R6 n6 => ?_
      have b6 := ((t3.trans t5).trans t6).beside e2 (fun _ z => nomatch z) f2 o2
      have lz : acc.length < sizeLine := by omega
      refine ⟨vs2, b6.1, by rw [n2.length]; exact lz, io6, F6, s6, acc ++ [d6], vs2 ++ [v6], (((t2.trans t3).trans t5).trans t6).own hD, R6.toRelH.side b6.1 (fun _ z => nomatch z) b6.2.1 b6.2.2, upd_same, b6.2.1, b6.2.2,
        ((((t3.trans t5).trans t6).denL n2).append (.cons n6 .nil)), by rw [List.length_append, List.length_singleton]; omega, q6⟩
    | false =>
      rw [if_neg Bool.false_ne_true] at q5 ⊢
      exact ⟨io5, F5, s5, acc, vs2, ((t2.trans t3).trans t5), R5.toRelH, b5.1, b5.2.1, b5.2.2, (t3.trans t5).denL n2, by omega, q5⟩
  · have e : i = ds.length := by omega
    subst e
    rw [List.drop_length] at q2
    obtain ⟨hG, q2⟩ := q2
    refine .inl ⟨W.stop t2 R2 hG, ?_⟩
    have lz : acc.length ≤ sizeLine := by omega
    cases m with
    | true =>
      have s : Stp H2 io2 F2 H2 (io2 ++ [Dl]) F2 → True := fun _ => trivial
      have ix : ∀ (n : Nat) a, io2[n]? = some a → (io2 ++ [Dl])[n]? = some a := fun n a h => by
        rw [List.getElem?_append_left (List.getElem?_eq_some_iff.mp h).1]; exact h
      exact kE_at (show kE K H io F Q (.ref st2.length) (st2 ++ [.lst acc]) from q2) ((t1.trans t2).cell hHD) (R2.adopt ⟨_, e2, fun _ z => nomatch z⟩ o2 ⟨f2, lz, vs2, e2, n2.mono ix fun _ _ h => h⟩) R2.newRef
    | false =>
      have fr : ∀ a u, F2 a = some u → upd F2 Dl (.lst vs2) a = some u := fun a u e => by
        rw [upd_ne (fun z => by subst z; rw [f2] at e; cases e)]; exact e
      exact kE_at (show kE K H io F Q (.lst acc) st2 from q2) ((t1.trans t2).frz hHD f2) (R2.frz e2 (fun _ z => nomatch z) f2 o2) (.lst upd_same (n2.mono (fun _ _ h => h) fr) lz)
end DL
namespace DL
open PySem PySem.Spec PyProof.Rows L2
variable [Bs]
theorem meets_enum_new1 {v : Value} {o : Obj} {H : Heap → Prop} (B : Begins v o H) :
    Meets (Builtin.«enumerate.__new__» ⟨[.type "enumerate", v], []⟩) (fun _ R s => H s.heap ∧
      R (.ok (.ret (.ref (s.heap.push o).objs.size))) { s with heap := (s.heap.push o).push { cls := .type "enumerate", data := .fields #[.none, .bool false, .ref s.heap.objs.size, rawInt 0, .none, .none] } }) :=
  .of_wp fun prog w A R s h => by
    obtain ⟨hp, g, d, tk, os⟩ := s; obtain ⟨h1, h⟩ := h
    have hsub := sub_enumerate
    have q1 : ∀ {A' : Around} {E : Value → Shared → Prop} {Q : Value → Shared → Prop}, Q (.ref hp.objs.size) ⟨hp.push o, g, d, tk, os⟩ → wpAny (model prog w) A' (pyIter v) Q E ⟨hp, g, d, tk, os⟩ :=
      fun q => B.iter prog w _ _ ⟨hp, g, d, tk, os⟩ _ h1 q
    wp_walk using q1
    refine wpAny_stack_any fun st => wpAny_pure ?_
    split
    · rename_i c _ _ _ _ _
      cases (c == Value.type "enumerate")
      · wp_walk using q1
        exact ⟨_, rfl, h⟩
      · wp_walk using q1
        exact ⟨_, rfl, h⟩
    · wp_walk using q1
      exact ⟨_, rfl, h⟩
theorem call_enum_begins {prog : Program} {w : World} {A : Around} {E : Value → Shared → Prop} {s : Shared} {v : Value} {o : Obj} {H : Heap → Prop} {Q : Value → Shared → Prop} (B : Begins v o H) (h1 : H s.heap)
    (h : ∀ h', IsEnum h' (s.heap.objs.size + 1) s.heap.objs.size 0 .none → h'.get? s.heap.objs.size = some o → h'.objs.size = s.heap.objs.size + 2 →
      (∀ b o, s.heap.get? b = some o → h'.get? b = some o) → Q (.ref (s.heap.objs.size + 1)) { s with heap := h' }) :
    wpAny (model prog w) A (call (.type "enumerate") [v]) Q E s := by
  refine callType_new F.called_enumerate (by decide) (F.typeCall_enumerate_1 _) (F.newCall_enumerate_1 _) (fun obj => F.args_object_init_2 obj _) F.entry_enumerate_new (meets_enum_new1 B) ⟨h1, ?_⟩
  have hz : (s.heap.push o).objs.size = s.heap.objs.size + 1 := Heap.size_push ..
  show _ ∧ _
  rw [hz]
  have he : IsEnum ((s.heap.push o).push { cls := .type "enumerate", data := .fields #[.none, .bool false, .ref s.heap.objs.size, rawInt 0, .none, .none] }) (s.heap.objs.size + 1) s.heap.objs.size 0 .none := by
    have := Heap.get?_push_size (s.heap.push o) (o := { cls := .type "enumerate", data := .fields #[.none, .bool false, .ref s.heap.objs.size, rawInt 0, .none, .none] }) rfl
    rw [hz] at this; exact this
  refine ⟨⟨_, he, rfl⟩, h _ he (Heap.get?_push_of_some _ (Heap.get?_push_size _ B.free)) (by rw [Heap.size_push, hz]) fun b o x => Heap.get?_push_of_some _ (Heap.get?_push_of_some _ x)⟩
theorem pi_enumX {X : Cx} {e : Expr} {ta : TA} {p pos tpos : Pos} {elts : List Expr} {kk : Nat} (hg : Gl X "enumerate") (hm : X.mg "enumerate" = none) (ha : PA X [e] ta) (hs : starEach [e] X.env = [(false, eval e X.env)] := by rfl) :
    PI X (.Tuple elts kk tpos) (.Call (.Name "enumerate" p) [e] [] pos) (fun σ H R => ta σ H fun vs H1 => ∃ a xs, vs = [.ref a] ∧ ((SqL X.K H1 a xs ∧ R (IteX (SqL X.K) a) H1) ∨ (SqT X.K H1 a xs ∧ R (IteX (SqT X.K) a) H1))) := by
  refine ⟨fun pins s σ H R I h => Call_ (ld_blt I hg hm boot_enumerate (PyProof.Rows.callWith_type1 (thn (ha.run pos pins s σ H _ I h) fun us s1 ⟨vs, H1, I1, r1, q1⟩ => ?_) hs rfl))⟩
  obtain ⟨a, xs, rfl, q1⟩ := q1
  obtain ⟨u, rfl, ru⟩ := vals1 r1
  cases ru
  have fr : ∀ k, FpOk X pins H1 (s1.heap.objs.size + k) := fun k => I1.fpOk (Nat.le_add_right _ _) (I1.hok.fresh (Nat.le_add_right _ _))
  have f2 : ∀ b ∈ [s1.heap.objs.size + 1, s1.heap.objs.size], FpOk X pins H1 b := List.forall_mem_cons.mpr ⟨fr 1, List.forall_mem_cons.mpr ⟨fr 0, fun _ h => nomatch h⟩⟩
  rcases q1 with ⟨hq, q⟩ | ⟨hq, q⟩
  · obtain ⟨its, rv, p', hz⟩ := I1.list hq
    have hlt := p'.lt
    exact call_enumerate_list p'.isList fun h' he hit hsz hk => wpAny_pyIter_enum he ⟨s1.heap.objs.size + 1, [s1.heap.objs.size + 1, s1.heap.objs.size], _, _, H1, rfl, I1.kept (t' := s1.toks) hk, turn_enumX (srcL X.K) a (s1.heap.objs.size + 1) s1.heap.objs.size, ⟨⟨.none, he⟩, hit, Nat.succ_ne_self _, Nat.ne_of_lt hlt, Nat.ne_of_gt (Nat.lt_succ_of_lt hlt)⟩, f2, q⟩
  · obtain ⟨its, rv, p', hz⟩ := I1.tuple hq
    have hlt := p'.lt
    exact call_enum_begins (begins_tuple a its.toArray) (show s1.heap.IsTuple a its.toArray from p') fun h' he hit hsz hk => wpAny_pyIter_enum he ⟨s1.heap.objs.size + 1, [s1.heap.objs.size + 1, s1.heap.objs.size], _, _, H1, rfl, I1.kept (t' := s1.toks) hk, turn_enumX (srcT X.K) a (s1.heap.objs.size + 1) s1.heap.objs.size, ⟨⟨.none, he⟩, ⟨_, hit, rfl, rfl⟩, Nat.succ_ne_self _, Nat.ne_of_lt hlt, Nat.ne_of_gt (Nat.lt_succ_of_lt hlt)⟩, f2, q⟩
theorem pi_seq {X : Cx} {tg l : Expr} {tl : TE} (hl : PE X l tl) : PI X tg l (fun σ H R => tl σ H fun x H1 => (∃ a xs, x = .ref a ∧ ((SqL X.K H1 a xs ∧ R (Itl X.K a) H1) ∨ (SqT X.K H1 a xs ∧ R (Itt X.K a) H1))) ∨ ∃ z, x = .str z ∧ R (Its z) H1) := by
  refine ⟨fun pins s σ H R I h => ?_⟩
  have h1 : ∀ {t : TE}, (∀ σ H Q, t σ H Q → tl σ H Q) → PE X l t := fun i => PE_imp hl i
  refine thn (hl.run pins s σ H _ I h) fun v s1 ⟨x, H1, I1, r1, q1⟩ => ?_
  rcases q1 with ⟨a, xs, e, q⟩ | ⟨z, e, q⟩
  · subst e
    cases r1
    rcases q with ⟨hq, q⟩ | ⟨hq, q⟩
    · obtain ⟨its, rv, p, hz⟩ := I1.list hq
      refine wpAny_pyIter_list p.isList ?_
      refine ⟨s1.heap.objs.size, [s1.heap.objs.size], _, _, H1, rfl, I1.kept (t' := s1.toks) fun b o e => Heap.get?_push_of_some _ e, turn_list a _, ⟨_, Heap.get?_push_size _ rfl, rfl, rfl⟩, fun b hb => ?_, q⟩
      have e : b = s1.heap.objs.size := by simpa using hb
      subst e
      exact I1.fpOk (Nat.le_refl _) (I1.hok.fresh (Nat.le_refl _))
    · obtain ⟨its, rv, p, hz⟩ := I1.tuple hq
      refine wpAny_pyIter_tuple (show s1.heap.IsTuple a its.toArray from p) ?_
      refine ⟨s1.heap.objs.size, [s1.heap.objs.size], _, _, H1, rfl, I1.kept (t' := s1.toks) fun b o e => Heap.get?_push_of_some _ e, turn_tuple a _, ⟨_, Heap.get?_push_size _ rfl, rfl, rfl⟩, fun b hb => ?_, q⟩
      have e : b = s1.heap.objs.size := by simpa using hb
      subst e
      exact I1.fpOk (Nat.le_refl _) (I1.hok.fresh (Nat.le_refl _))
  · subst e
    obtain ⟨t, rfl⟩ := r1
    cases ha : z.cps.all (· < 128)
    · exact wpAny_pyIter_wide ha (pi_one (tk := s1.toks) I1 _ (turn_str _ z t "str_iterator" (.inr rfl)) ⟨_, Heap.get?_push_size _ rfl, rfl, rfl⟩ q)
    · exact wpAny_pyIter_ascii ha (pi_one (tk := s1.toks) I1 _ (turn_str _ z t "str_ascii_iterator" (.inl rfl)) ⟨_, Heap.get?_push_size _ rfl, rfl, rfl⟩ q)
end DL
namespace DL
open PySem PySem.Spec PyProof.Rows L2
variable [Bs]
/-- a cell's list as a list -/
def rd (st : Sto) : D → D
  | .ref n => match st[n]? with
    | some (.lst ds) => .lst ds
    | _ => .ref n
  | d => d
section
variable {K : PySem.W.Frag} {io : List Addr} {F H : Hp} {st : Sto} {v : V} {d : D} {ds : List D}
/-- what stands behind a value read as a list -/
theorem rd_lst (R : RelH K H io F st) (n : Den K io F v d) (e : rd st d = .lst ds) : ∃ a xs, v = .ref a ∧ H a = some (.lst xs) ∧ DenL K io F xs ds ∧ ds.length ≤ sizeLine := by
  cases d with
  | lst es =>
    cases e
    cases n with
    | lst h r z => exact ⟨_, _, rfl, R.sub _ _ h, r, z⟩
  | ref k =>
    cases n with
    | ref h =>
      unfold rd at e
      cases q : st[k]? with
      | none => simp [q] at e
      | some c =>
        cases c with
        | lst es =>
          simp [q] at e
          subst e
          obtain ⟨h1, h2, vs, h3, h4⟩ := R.cel _ _ _ q h
          exact ⟨_, _, rfl, h3, h4, h2⟩
        | dead => simp [q] at e
        | ins C fs => simp [q] at e
        | dct b kvs => simp [q] at e
  | non => cases e
  | bl b => cases e
  | int i => cases e
  | str s => cases e
  | tup es => cases e
  | scr es => cases e
  | dct es => cases e
  | fn _ _ _ => cases e
  | exc => cases e
theorem rd_not (e : ∀ ds, rd st d ≠ .lst ds) (e2 : ∀ n, rd st d ≠ .ref n) : rd st d = d := by
  cases d with
  | ref n =>
    unfold rd at e e2 ⊢
    cases q : st[n]? with
    | none => simp [q] at e2
    | some c => cases c <;> simp [q] at e e2
  | _ => rfl
end
/-- what may be walked: with what must stay -/
def seqI (d : D) (s : Sto) (R : GK) : Prop :=
  match d with
  | .tup ds => R ds (fun _ => True) s
  | .lst ds => R ds (fun _ => True) s
  | .scr ds => R ds (fun _ => True) s
  | .str z => R (z.cps.toList.map fun c => .str ⟨#[c]⟩) (fun _ => True) s
  | .ref n => ∃ ds, s[n]? = some (.lst ds) ∧ R ds (fun s' => s'[n]? = some (.lst ds)) s
  | _ => False
theorem seqI_mo {d : D} {s : Sto} {R R' : GK} (h : ∀ ds G s, R ds G s → R' ds G s) (q : seqI d s R) : seqI d s R' := by
  cases d with
  | ref n => obtain ⟨ds, e, q⟩ := q; exact ⟨ds, e, h _ _ _ q⟩
  | tup _ => exact h _ _ _ q
  | lst _ => exact h _ _ _ q
  | scr _ => exact h _ _ _ q
  | str _ => exact h _ _ _ q
  | non => exact q
  | bl _ => exact q
  | int _ => exact q
  | dct _ => exact q
  | fn _ _ _ => exact q
  | exc => exact q
def iSeq (we : DE) : DI := fun env st R => we env st fun d s => seqI d s R
section
variable {K : PySem.W.Frag} {io : List Addr} {F H : Hp} {a : Addr} {xs : List V} {ds : List D}
theorem walkD_list {G : Sto → Prop} (r : DenL K io F xs ds) (h : ∀ {H2 io2 F2 st2}, Stp H io F H2 io2 F2 → RelH K H2 io2 F2 st2 → G st2 → ∃ ys, SqL K H2 a ys ∧ DenL K io2 F2 ys ds) : WalkD K (Itl K a) H io F ds G where
  go := fun i t R g hi => by
    obtain ⟨ys, s, r2⟩ := h t R g
    obtain ⟨v, e, _⟩ := r2.get (List.getElem?_eq_getElem hi)
    exact ⟨ys, v, s, e⟩
  stop := fun t R g => by
    obtain ⟨ys, s, r2⟩ := h t R g
    exact ⟨ys, s, Nat.le_of_eq r2.length⟩
  yld := fun {H2 io2 F2 st2} i x H3 t R g hi y => by
    obtain ⟨ys, s, r2⟩ := h t R g
    obtain ⟨v, e, n⟩ := r2.get (List.getElem?_eq_getElem hi)
    obtain ⟨e1, e2⟩ := y
    subst e1
    have := e2 ys s
    rw [e] at this
    cases this
    exact ⟨F2, _, Stp.refl, R, List.getElem?_eq_getElem hi, n⟩
theorem walkD_tup (s0 : SqT K F a xs) (r : DenL K io F xs ds) : WalkD K (Itt K a) H io F ds (fun _ => True) where
  go := fun i t R _ hi => by
    obtain ⟨v, e, _⟩ := (t.denL r).get (List.getElem?_eq_getElem hi)
    exact ⟨xs, v, SqT_mono R.sub (SqT_mono t.fr s0), e⟩
  stop := fun t R _ => ⟨xs, SqT_mono R.sub (SqT_mono t.fr s0), Nat.le_of_eq r.length⟩
  yld := fun {H2 io2 F2 st2} i x H3 t R _ hi y => by
    obtain ⟨v, e, n⟩ := (t.denL r).get (List.getElem?_eq_getElem hi)
    obtain ⟨e1, e2⟩ := y
    subst e1
    have := e2 xs (SqT_mono R.sub (SqT_mono t.fr s0))
    rw [e] at this
    cases this
    exact ⟨F2, _, Stp.refl, R, List.getElem?_eq_getElem hi, n⟩
theorem walkD_str {z : Str} : WalkD K (Its z) H io F (z.cps.toList.map fun c => .str ⟨#[c]⟩) (fun _ => True) where
  go := fun i t R _ hi => by
    have : i < z.cps.size := by simpa using hi
    exact this
  stop := fun t R _ => by
    have e : (z.cps.toList.map fun c => D.str ⟨#[c]⟩).length = z.cps.size := by simp
    rw [e]
    exact (walk_str (z := z)).stops _ trivial
  yld := fun {H2 io2 F2 st2} i x H3 t R _ hi y => by
    have hi' : i < z.cps.size := by simpa using hi
    obtain ⟨e1, c, e2, e3⟩ := (walk_str (z := z)).yields i H2 x H3 hi' trivial y
    subst e1
    subst e3
    refine ⟨F2, .str ⟨#[c]⟩, Stp.refl, R, ?_, .str _⟩
    simp [e2]
end
section
variable {X : Cx} {pos p : Pos} {tg e e2 : Expr} {we we2 : DE}
theorem wi_seq (he : WE X e we) : WI X tg e (iSeq we) := by
  refine ⟨fun _ _ _ _ h q => he.mo _ _ _ _ (fun _ _ q => seqI_mo h q) q, PI_imp (pi_seq he.pe) fun σ H R ⟨env, io, F, st, Rl, q⟩ => ?_⟩
  refine tE_use he.mo Rl q fun d s1 v io1 F1 H1 q1 t1 R1 n1 => ?_
  cases n1 with
  | tup s r z => exact .inl ⟨_, _, rfl, .inr ⟨SqT_mono R1.sub s.t, q1 _ _ _ _ t1 R1.toRelH (walkD_tup s.t r)⟩⟩
  | lst s r z => exact .inl ⟨_, _, rfl, .inl ⟨SqL.of (R1.sub _ _ s), q1 _ _ _ _ t1 R1.toRelH (walkD_list r fun t R _ => ⟨_, SqL.of (R.sub _ _ (t.fr _ _ s)), t.denL r⟩)⟩⟩
  | scr s r z => exact .inl ⟨_, _, rfl, .inl ⟨SqL_mono R1.sub s, q1 _ _ _ _ t1 R1.toRelH (walkD_list r fun t R _ => ⟨_, SqL_mono R.sub (SqL_mono t.fr s), t.denL r⟩)⟩⟩
  | @ref a n h =>
    obtain ⟨ds, e, q1⟩ := q1
    obtain ⟨h1, h2, vs, h3, h4⟩ := R1.cel _ _ _ e h
    refine .inl ⟨_, vs, rfl, .inl ⟨SqL.of h3, q1 _ _ _ _ t1 R1.toRelH (walkD_list h4 fun t R g => ?_)⟩⟩
    obtain ⟨_, _, ws, h5, h6⟩ := R.cel _ _ _ g (t.ix _ _ h)
    exact ⟨ws, SqL.of h5, h6⟩
  | str z => exact .inr ⟨_, rfl, q1 _ _ _ _ t1 R1.toRelH walkD_str⟩
  | non => exact q1.elim
  | bl _ => exact q1.elim
  | int _ => exact q1.elim
  | dct _ => exact q1.elim
  | fn _ _ => exact q1.elim
  | exc => exact q1.elim
def rangeD (lo : Int) (n : Nat) : List D := (List.range n).map fun (i : Nat) => .int (lo + i)
theorem walkD_range {K : PySem.W.Frag} {io : List Addr} {F H : Hp} {lo : Int} {n : Nat} : WalkD K (Itr lo n) H io F (rangeD lo n) (fun _ => True) where
  go := fun i t R _ hi => by show i < n; simpa [rangeD] using hi
  stop := fun t R _ => by show n ≤ (rangeD lo n).length; simp [rangeD]
  yld := fun {H2 io2 F2 st2} i x H3 t R _ hi y => by
    obtain ⟨e1, e2⟩ := y
    subst e1
    subst e2
    have hi' : i < n := by simpa [rangeD] using hi
    exact ⟨F2, .int (lo + i), Stp.refl, R, by simp [rangeD, hi'], .int _⟩
def iRange1 (wa : DA) : DI := fun env st R => wa env st fun ds s => ∃ j, ds = [.int j] ∧ -(2 ^ 62) ≤ j ∧ j < 2 ^ 62 ∧ R (rangeD 0 j.toNat) (fun _ => True) s
def iRange2 (wa : DA) : DI := fun env st R => wa env st fun ds s => ∃ i j, ds = [.int i, .int j] ∧ (-(2 ^ 62) ≤ i ∧ i < 2 ^ 62 ∧ -(2 ^ 62) ≤ j ∧ j < 2 ^ 62) ∧ R (rangeD i (j - i).toNat) (fun _ => True) s
theorem wi_range1 {wa : DA} (hg : Gl X "range") (hm : X.mg "range" = none) (ha : WA X [e] wa) (hs : starEach [e] X.env = [(false, eval e X.env)] := by rfl) : WI X tg (.Call (.Name "range" p) [e] [] pos) (iRange1 wa) := by
  refine ⟨fun _ _ _ _ h q => ha.mo _ _ _ _ (fun _ _ ⟨j, e, h1, h2, q⟩ => ⟨j, e, h1, h2, h _ _ _ q⟩) q, PI_imp (pi_range1 hg hm ha.pe hs) fun σ H R ⟨env, io, F, st, Rl, q⟩ => ?_⟩
  refine tA_use ha.mo Rl q fun ds s1 vs io1 F1 H1 ⟨j, ed, h1, h2, q1⟩ t1 R1 n1 => ?_
  subst ed
  cases n1 with
  | cons n1 n2 =>
    cases n1
    cases n2
    exact ⟨j, rfl, h1, h2, q1 _ _ _ _ t1 R1.toRelH walkD_range⟩
theorem wi_range2 {wa : DA} (hg : Gl X "range") (hm : X.mg "range" = none) (ha : WA X [e, e2] wa) (hs : starEach [e, e2] X.env = [(false, eval e X.env), (false, eval e2 X.env)] := by rfl) (hs2 : starEach [e2] X.env = [(false, eval e2 X.env)] := by rfl) :
    WI X tg (.Call (.Name "range" p) [e, e2] [] pos) (iRange2 wa) := by
  refine ⟨fun _ _ _ _ h q => ha.mo _ _ _ _ (fun _ _ ⟨i, j, e, h1, q⟩ => ⟨i, j, e, h1, h _ _ _ q⟩) q, PI_imp (pi_range2 hg hm ha.pe hs hs2) fun σ H R ⟨env, io, F, st, Rl, q⟩ => ?_⟩
  refine tA_use ha.mo Rl q fun ds s1 vs io1 F1 H1 ⟨i, j, ed, h1, q1⟩ t1 R1 n1 => ?_
  subst ed
  cases n1 with
  | cons n1 n2 =>
    cases n1
    cases n2 with
    | cons n2 n3 =>
      cases n2
      cases n3
      exact ⟨i, j, rfl, h1, q1 _ _ _ _ t1 R1.toRelH walkD_range⟩
def enumD (ds : List D) : List D := ds.zipIdx.map fun p => .tup [.int (p.2 : Nat), p.1]
def zipD (ds es : List D) : List D := List.zipWith (fun x y => .tup [x, y]) ds es
theorem lay_pair {K : PySem.W.Frag} {io : List Addr} {F H : Hp} {st : Sto} {T : Addr} {o : Obj} {x y : V} {d e : D} (R : RelH K H io F st) (hT : H T = none) (ho : o.dict = none) (n1 : Den K io F x d) (n2 : Den K io F y e) :
    ∃ F3, Stp H io F (upd H T (.frz o (.tup [x, y]))) io F3 ∧ RelH K (upd H T (.frz o (.tup [x, y]))) io F3 st ∧ Den K io F3 (.ref T) (.tup [d, e]) :=
  ⟨upd F T (.frz o (.tup [x, y])), Stp.laid hT R.sub, R.laid hT, .tup (.inl ⟨o, upd_same, ho⟩) ((Stp.laid hT R.sub).denL (.cons n1 (.cons n2 .nil))) (by show 2 ≤ sizeLine; decide)⟩
theorem enumD_len (ds : List D) : (enumD ds).length = ds.length := by simp [enumD]
theorem enumD_at (ds : List D) (i : Nat) (hi : i < ds.length) : (enumD ds)[i]? = some (.tup [.int (i : Nat), ds[i]]) := by simp [enumD, hi]
section
variable {K : PySem.W.Frag} {io : List Addr} {F H : Hp} {a : Addr} {xs : List V} {ds : List D}
theorem walkD_enumL {G : Sto → Prop} (r : DenL K io F xs ds) (h : ∀ {H2 io2 F2 st2}, Stp H io F H2 io2 F2 → RelH K H2 io2 F2 st2 → G st2 → ∃ ys, SqL K H2 a ys ∧ DenL K io2 F2 ys ds) : WalkD K (IteX (SqL K) a) H io F (enumD ds) G where
  go := fun i t R g hi => by
    rw [enumD_len] at hi
    obtain ⟨ys, s, r2⟩ := h t R g
    obtain ⟨v, e, _⟩ := r2.get (List.getElem?_eq_getElem hi)
    exact ⟨ys, v, s, e⟩
  stop := fun t R g => by
    rw [enumD_len]
    obtain ⟨ys, s, r2⟩ := h t R g
    exact ⟨ys, s, r2.length⟩
  yld := fun {H2 io2 F2 st2} i x H3 t R g hi y => by
    rw [enumD_len] at hi
    obtain ⟨ys, s, r2⟩ := h t R g
    obtain ⟨v, e, n⟩ := r2.get (List.getElem?_eq_getElem hi)
    obtain ⟨T, u, o, e1, hT, ho, e2, hu⟩ := y
    subst e1
    subst e2
    have := hu ys s
    rw [e] at this
    cases this
    obtain ⟨F3, s3, R3, n3⟩ := lay_pair R hT ho (.int (i : Nat)) n
    exact ⟨F3, _, s3, R3, enumD_at ds i hi, n3⟩
theorem walkD_enumT (s0 : SqT K F a xs) (r : DenL K io F xs ds) : WalkD K (IteX (SqT K) a) H io F (enumD ds) (fun _ => True) where
  go := fun i t R _ hi => by
    rw [enumD_len] at hi
    obtain ⟨v, e, _⟩ := (t.denL r).get (List.getElem?_eq_getElem hi)
    exact ⟨xs, v, SqT_mono R.sub (SqT_mono t.fr s0), e⟩
  stop := fun t R _ => by rw [enumD_len]; exact ⟨xs, SqT_mono R.sub (SqT_mono t.fr s0), r.length⟩
  yld := fun {H2 io2 F2 st2} i x H3 t R _ hi y => by
    rw [enumD_len] at hi
    obtain ⟨v, e, n⟩ := (t.denL r).get (List.getElem?_eq_getElem hi)
    obtain ⟨T, u, o, e1, hT, ho, e2, hu⟩ := y
    subst e1
    subst e2
    have := hu xs (SqT_mono R.sub (SqT_mono t.fr s0))
    rw [e] at this
    cases this
    obtain ⟨F3, s3, R3, n3⟩ := lay_pair R hT ho (.int (i : Nat)) n
    exact ⟨F3, _, s3, R3, enumD_at ds i hi, n3⟩
end
/-- a sequence, no text -/
def seqJ (d : D) (s : Sto) (R : GK) : Prop :=
  match d with
  | .str _ => False
  | d => seqI d s R
theorem seqJ_mo {d : D} {s : Sto} {R R' : GK} (h : ∀ ds G s, R ds G s → R' ds G s) (q : seqJ d s R) : seqJ d s R' := by
  cases d with
  | str _ => exact q
  | ref n => exact seqI_mo (d := .ref n) h q
  | tup _ => exact h _ _ _ q
  | lst _ => exact h _ _ _ q
  | scr _ => exact h _ _ _ q
  | non => exact q
  | bl _ => exact q
  | int _ => exact q
  | dct _ => exact q
  | fn _ _ _ => exact q
  | exc => exact q
def iEnum (we : DE) : DI := fun env st R => we env st fun d s => seqJ d s fun ds G s => R (enumD ds) G s
theorem wi_enum {elts : List Expr} {kk : Nat} {tpos : Pos} (hg : Gl X "enumerate") (hm : X.mg "enumerate" = none) (he : WE X e we) (ha : starEach [e] X.env = (false, eval e X.env) :: starEach [] X.env := by rfl) (hs : starEach [e] X.env = [(false, eval e X.env)] := by rfl) :
    WI X (.Tuple elts kk tpos) (.Call (.Name "enumerate" p) [e] [] pos) (iEnum we) := by
  refine ⟨fun _ _ _ _ h q => he.mo _ _ _ _ (fun _ _ q => seqJ_mo (fun _ _ _ q => h _ _ _ q) q) q, PI_imp (pi_enumX hg hm (pa_cons he.pe pa_nil ha) hs) fun σ H R ⟨env, io, F, st, Rl, q⟩ => ?_⟩
  refine tE_use he.mo Rl q fun d s1 v io1 F1 H1 q1 t1 R1 n1 => ?_
  cases n1 with
  | tup s r z => exact ⟨_, _, rfl, .inr ⟨SqT_mono R1.sub s.t, q1 _ _ _ _ t1 R1.toRelH (walkD_enumT s.t r)⟩⟩
  | lst s r z => exact ⟨_, _, rfl, .inl ⟨SqL.of (R1.sub _ _ s), q1 _ _ _ _ t1 R1.toRelH (walkD_enumL r fun t R _ => ⟨_, SqL.of (R.sub _ _ (t.fr _ _ s)), t.denL r⟩)⟩⟩
  | scr s r z => exact ⟨_, _, rfl, .inl ⟨SqL_mono R1.sub s, q1 _ _ _ _ t1 R1.toRelH (walkD_enumL r fun t R _ => ⟨_, SqL_mono R.sub (SqL_mono t.fr s), t.denL r⟩)⟩⟩
  | @ref a n h =>
    obtain ⟨ds, e, q1⟩ := q1
    obtain ⟨h1, h2, vs, h3, h4⟩ := R1.cel _ _ _ e h
    refine ⟨_, vs, rfl, .inl ⟨SqL.of h3, q1 _ _ _ _ t1 R1.toRelH (walkD_enumL h4 fun t R g => ?_)⟩⟩
    obtain ⟨_, _, ws, h5, h6⟩ := R.cel _ _ _ g (t.ix _ _ h)
    exact ⟨ws, SqL.of h5, h6⟩
  | str z => exact q1.elim
  | non => exact q1.elim
  | bl _ => exact q1.elim
  | int _ => exact q1.elim
  | dct _ => exact q1.elim
  | fn => exact q1.elim
  | exc => exact q1.elim
end
end DL
namespace DL
open PySem PySem.Spec PyProof.Rows L2
variable [Bs]
section
variable {st : Sto} {d : D}
theorem rd_is {e : D} (h : rd st d = e) (h1 : ∀ ds, e ≠ .lst ds) (h2 : ∀ n, e ≠ .ref n) : d = e := by
  subst h
  exact (rd_not (fun ds q => h1 ds q) (fun n q => h2 n q)).symm
theorem rd_int {i : Int} (h : rd st d = .int i) : d = .int i := rd_is h (fun _ q => nomatch q) (fun _ q => nomatch q)
theorem rd_bl {i : Bool} (h : rd st d = .bl i) : d = .bl i := rd_is h (fun _ q => nomatch q) (fun _ q => nomatch q)
theorem rd_str {i : Str} (h : rd st d = .str i) : d = .str i := rd_is h (fun _ q => nomatch q) (fun _ q => nomatch q)
theorem rd_tup {i : List D} (h : rd st d = .tup i) : d = .tup i := rd_is h (fun _ q => nomatch q) (fun _ q => nomatch q)
theorem rd_scr {i : List D} (h : rd st d = .scr i) : d = .scr i := rd_is h (fun _ q => nomatch q) (fun _ q => nomatch q)
theorem rd_non (h : rd st d = .non) : d = .non := rd_is h (fun _ q => nomatch q) (fun _ q => nomatch q)
end
def dI (C : Int → Int → Prop) (g : Int → Int → D) : R2D := fun a b st Q => ∃ i j, a = .int i ∧ b = .int j ∧ C i j ∧ Q (g i j) st
theorem moI {C : Int → Int → Prop} {g : Int → Int → D} : MoR (dI C g) := fun _ _ _ _ _ h ⟨i, j, e1, e2, c, q⟩ => ⟨i, j, e1, e2, c, h _ _ q⟩
section
variable {K : PySem.W.Frag} {H : Hp} {io : List Addr} {F : Hp} {st : Sto} {Q : VK} {x y : V} {a b : D}
theorem kE_now {d : D} {v : V} (R : RelH K H io F st) (n : Den K io F v d) (q : kE K H io F Q d st) : Q v H := q v io F H Stp.refl R n
theorem z_I {C : Int → Int → Prop} {g : Int → Int → V} {g' : Int → Int → D} (hg : ∀ i j io F, Den K io F (g i j) (g' i j)) : Rz K (rI C g) (dI C g') where
  mo := moI
  on := fun R n1 n2 ⟨i, j, e1, e2, c, q⟩ => by
    subst e1 e2
    cases n1
    cases n2
    exact ⟨i, j, rfl, rfl, c, kE_now R (hg _ _ _ _) q⟩
theorem z_I0 {g : Int → Int → V} {g' : Int → Int → D} (hg : ∀ i j io F, Den K io F (g i j) (g' i j)) : Rz K (rI0 g) (dI (fun _ _ => True) g') where
  mo := moI
  on := fun R n1 n2 ⟨i, j, e1, e2, c, q⟩ => by
    subst e1 e2
    cases n1
    cases n2
    exact ⟨i, j, rfl, rfl, kE_now R (hg _ _ _ _) q⟩
end
section
variable {X : Cx}
abbrev T2 : Int → Int → Prop := fun _ _ => True
def dSub : R2D := dI T2 fun i j => .int (i - j)
def dMod : R2D := dI (fun _ j => 0 < j) fun i j => .int (i % j)
def CDv : Int → Int → Prop := fun _ j => 0 < j ∧ j < 2 ^ 62
def dFdiv : R2D := dI CDv fun i j => .int (i / j)
def dPow : R2D := dI CPow fun i j => .int (i ^ j.toNat)
theorem z_sub : Rz X.K (rI0 fun i j => .int (i - j)) dSub := z_I0 fun _ _ _ _ => .int _
theorem z_mod : Rz X.K (rI (fun _ j => 0 < j) fun i j => .int (i % j)) dMod := z_I fun _ _ _ _ => .int _
theorem z_pow : Rz X.K (rI CPow fun i j => .int (i ^ j.toNat)) dPow := z_I fun _ _ _ _ => .int _
theorem cdv {i j : Int} (h : CDv i j) : CDivW i j := by
  refine ⟨h.1, ?_⟩
  have h2 : j.natAbs < 2 ^ 62 := by have := h.2; have := h.1; omega
  have : j.natAbs.log2 < 62 := by
    rw [Nat.log2_lt (by have := h.1; omega)]
    exact h2
  omega
theorem z_fdiv : Rz X.K (rI CDivW fun i j => .int (i / j)) dFdiv where
  mo := moI
  on := fun R n1 n2 ⟨i, j, e1, e2, c, q⟩ => by
    subst e1 e2
    cases n1
    cases n2
    exact ⟨i, j, rfl, rfl, cdv c, kE_now R (.int _) q⟩
end
def dAdd : R2D := fun a b st Q => match rd st a, rd st b with
  | .int i, .int j => Q (.int (i + j)) st
  | .tup x, .tup y => x.length + y.length ≤ sizeLine ∧ Q (.tup (x ++ y)) st
  | .lst x, .lst y => x.length + y.length ≤ sizeLine ∧ Q (.lst (x ++ y)) st
  | .str x, .str y => x.length + y.length ≤ sizeLine ∧ Q (.str (x ++ y)) st
  | _, _ => False
def rAddD (K : PySem.W.Frag) : R2 := fun x y H Q => rI0 (fun i j => .int (i + j)) x y H Q ∨ rCatX K x y H Q ∨ rCat x y H Q ∨ (∃ i j, x = .str i ∧ y = .str j ∧ i.length + j.length ≤ sizeLine ∧ Q (.str (i ++ j)) H)
theorem op_addD {X : Cx} : OpR X (binaryOp .Add) (rAddD X.K) := op_add.or (op_catX.or (op_cat.or op_add_str))
theorem z_add {X : Cx} : Rz X.K (rAddD X.K) dAdd where
  mo := fun a b s Q Q' h q => by
    unfold dAdd at q ⊢
    split at q
    · exact h _ _ q
    · exact ⟨q.1, h _ _ q.2⟩
    · exact ⟨q.1, h _ _ q.2⟩
    · exact ⟨q.1, h _ _ q.2⟩
    · exact q
  on := fun {H io F st x y a b Q} R n1 n2 q => by
    unfold dAdd at q
    split at q
    · rename_i i j e1 e2
      cases rd_int e1
      cases rd_int e2
      cases n1
      cases n2
      exact .inl ⟨i, j, rfl, rfl, kE_now R (.int _) q⟩
    · rename_i i j e1 e2
      cases rd_tup e1
      cases rd_tup e2
      cases n1 with
      | tup s1 r1 z1 =>
        cases n2 with
        | tup s2 r2 z2 =>
          refine .inr (.inl ⟨_, _, _, _, rfl, rfl, SqT_mono R.sub s1.t, SqT_mono R.sub s2.t, by rw [r1.length, r2.length]; exact q.1, fun e => ?_, fun h1 e => ?_, fun _ _ => ?_⟩)
          · subst e
            cases r1
            exact kE_now R (.tup s2 r2 z2) q.2
          · subst e
            cases r2
            rw [List.append_nil] at q
            exact kE_now R (.tup s1 r1 z1) q.2
          · exact lay_tup R (r1.append r2) (by rw [List.length_append]; exact q.1) q.2
    · rename_i i j e1 e2
      obtain ⟨p1, xs, rfl, h1, r1, z1⟩ := rd_lst R n1 e1
      obtain ⟨p2, ys, rfl, h2, r2, z2⟩ := rd_lst R n2 e2
      exact .inr (.inr (.inl ⟨_, _, _, _, rfl, rfl, h1, h2, by rw [r1.length, r2.length]; exact q.1, lay_lst R (r1.append r2) (by rw [List.length_append]; exact q.1) q.2⟩))
    · rename_i i j e1 e2
      cases rd_str e1
      cases rd_str e2
      cases n1
      cases n2
      exact .inr (.inr (.inr ⟨i, j, rfl, rfl, q.1, kE_now R (.str _) q.2⟩))
    · exact q.elim
def kPy : Key → PyData
  | .inl i => .int i
  | .inr x => .str x
mutual
def D.py : D → PyData
  | .non => .none
  | .bl b => .bool b
  | .int i => .int i
  | .str s => .str s
  | .tup ds => .tuple (D.pyL ds)
  | .lst ds => .list (D.pyL ds)
  | .scr ds => .list (D.pyL ds)
  | .dct kvs => .dict (kvs.map fun p => (kPy p.1, kPy p.2))
  | .ref _ => .none
  | .fn _ _ _ => .none
  | .exc _ _ _ => .none
def D.pyL : List D → List PyData
  | [] => []
  | d :: r => d.py :: D.pyL r
end
mutual
/-- may be compared: no dict, no cell within, texts of right signs -/
def D.ok : D → Bool
  | .non => true
  | .bl _ => true
  | .int _ => true
  | .str s => PyData.canLay0 (.str s)
  | .tup ds => D.okL ds
  | .lst ds => D.okL ds
  | .scr _ => false
  | .dct _ => false
  | .ref _ => false
  | .fn _ _ _ => false
  | .exc _ _ _ => false
def D.okL : List D → Bool
  | [] => true
  | d :: r => d.ok && D.okL r
end
mutual
def D.dep : D → Nat
  | .tup ds => D.depL ds + 1
  | .lst ds => D.depL ds + 1
  | .scr ds => D.depL ds + 1
  | .non => 0
  | .bl _ => 0
  | .int _ => 0
  | .str _ => 0
  | .dct kvs => (PyData.dict (kvs.map fun p => (kPy p.1, kPy p.2))).depth
  | .ref _ => 0
  | .fn _ _ _ => 0
  | .exc _ _ _ => 0
def D.depL : List D → Nat
  | [] => 0
  | d :: r => max d.dep (D.depL r)
end
mutual
/-- Python's == -/
def D.eqv : D → D → Bool
  | .non, .non => true
  | .bl a, .bl b => a == b
  | .bl a, .int j => (if a then 1 else 0) == j
  | .int i, .bl b => i == (if b then 1 else 0)
  | .int i, .int j => i == j
  | .str x, .str y => x == y
  | .tup xs, .tup ys => D.eqvL xs ys
  | .lst xs, .lst ys => D.eqvL xs ys
  | _, _ => false
def D.eqvL : List D → List D → Bool
  | [], [] => true
  | x :: xs, y :: ys => D.eqv x y && D.eqvL xs ys
  | _, _ => false
end
mutual
theorem py_ok : ∀ d : D, d.ok = true → d.py.canLay0 = true
  | .non, _ => rfl
  | .bl _, _ => rfl
  | .int _, _ => rfl
  | .str s, h => h
  | .tup ds, h => by simp only [D.py, PyData.canLay0]; exact pyL_ok ds (by simpa only [D.ok] using h)
  | .lst ds, h => by simp only [D.py, PyData.canLay0]; exact pyL_ok ds (by simpa only [D.ok] using h)
  | .scr _, h => by simp [D.ok] at h
  | .dct _, h => by simp [D.ok] at h
  | .ref _, h => by simp [D.ok] at h
theorem pyL_ok : ∀ ds : List D, D.okL ds = true → PyData.canLayAll0 (D.pyL ds) = true
  | [], _ => rfl
  | d :: r, h => by
    simp only [D.okL, Bool.and_eq_true] at h
    simp only [D.pyL, PyData.canLayAll0, Bool.and_eq_true]
    exact ⟨py_ok d h.1, pyL_ok r h.2⟩
end
mutual
theorem py_dep : ∀ d : D, d.py.depth = d.dep
  | .non => rfl
  | .bl _ => rfl
  | .int _ => rfl
  | .str _ => rfl
  | .dct _ => rfl
  | .ref _ => rfl
  | .fn _ _ _ => rfl
  | .exc _ _ _ => rfl
  | .tup ds => by simp only [D.py, PyData.depth, D.dep]; rw [pyL_dep ds]
  | .lst ds => by simp only [D.py, PyData.depth, D.dep]; rw [pyL_dep ds]
  | .scr ds => by simp only [D.py, PyData.depth, D.dep]; rw [pyL_dep ds]
theorem pyL_dep : ∀ ds : List D, PyData.depthAll (D.pyL ds) = D.depL ds
  | [] => rfl
  | d :: r => by simp only [D.pyL, PyData.depthAll, D.depL]; rw [py_dep d, pyL_dep r]
end
mutual
theorem py_eqv : ∀ d e : D, d.ok = true → e.ok = true → PyData.eqv d.py e.py = D.eqv d e
  | .tup xs, .tup ys, h1, h2 => by
    simp only [D.py, PyData.eqv, D.eqv]
    exact pyL_eqv xs ys (by simpa only [D.ok] using h1) (by simpa only [D.ok] using h2)
  | .lst xs, .lst ys, h1, h2 => by
    simp only [D.py, PyData.eqv, D.eqv]
    exact pyL_eqv xs ys (by simpa only [D.ok] using h1) (by simpa only [D.ok] using h2)
  | .scr _, _, h, _ => by simp [D.ok] at h
  | _, .scr _, _, h => by simp [D.ok] at h
  | .dct _, _, h, _ => by simp [D.ok] at h
  | .ref _, _, h, _ => by simp [D.ok] at h
  | .fn _ _ _, _, h, _ => by simp [D.ok] at h
  | .exc _ _ _, _, h, _ => by simp [D.ok] at h
  | _, .dct _, _, h => by simp [D.ok] at h
  | _, .ref _, _, h => by simp [D.ok] at h
  | _, .fn _ _ _, _, h => by simp [D.ok] at h
  | _, .exc _ _ _, _, h => by simp [D.ok] at h
  | .non, .non, _, _ => rfl
  | .non, .bl _, _, _ => rfl
  | .non, .int _, _, _ => rfl
  | .non, .str _, _, _ => rfl
  | .non, .tup _, _, _ => by simp only [D.py, PyData.eqv, D.eqv]
  | .non, .lst _, _, _ => by simp only [D.py, PyData.eqv, D.eqv]
  | .bl _, .non, _, _ => rfl
  | .bl _, .bl _, _, _ => rfl
  | .bl _, .int _, _, _ => rfl
  | .bl _, .str _, _, _ => rfl
  | .bl _, .tup _, _, _ => by simp only [D.py, PyData.eqv, D.eqv]
  | .bl _, .lst _, _, _ => by simp only [D.py, PyData.eqv, D.eqv]
  | .int _, .non, _, _ => rfl
  | .int _, .bl _, _, _ => rfl
  | .int _, .int _, _, _ => rfl
  | .int _, .str _, _, _ => rfl
  | .int _, .tup _, _, _ => by simp only [D.py, PyData.eqv, D.eqv]
  | .int _, .lst _, _, _ => by simp only [D.py, PyData.eqv, D.eqv]
  | .str _, .non, _, _ => rfl
  | .str _, .bl _, _, _ => rfl
  | .str _, .int _, _, _ => rfl
  | .str _, .str _, _, _ => by simp only [D.py, PyData.eqv, D.eqv]
  | .str _, .tup _, _, _ => by simp only [D.py, PyData.eqv, D.eqv]
  | .str _, .lst _, _, _ => by simp only [D.py, PyData.eqv, D.eqv]
  | .tup _, .non, _, _ => by simp only [D.py, PyData.eqv, D.eqv]
  | .tup _, .bl _, _, _ => by simp only [D.py, PyData.eqv, D.eqv]
  | .tup _, .int _, _, _ => by simp only [D.py, PyData.eqv, D.eqv]
  | .tup _, .str _, _, _ => by simp only [D.py, PyData.eqv, D.eqv]
  | .tup _, .lst _, _, _ => by simp only [D.py, PyData.eqv, D.eqv]
  | .lst _, .non, _, _ => by simp only [D.py, PyData.eqv, D.eqv]
  | .lst _, .bl _, _, _ => by simp only [D.py, PyData.eqv, D.eqv]
  | .lst _, .int _, _, _ => by simp only [D.py, PyData.eqv, D.eqv]
  | .lst _, .str _, _, _ => by simp only [D.py, PyData.eqv, D.eqv]
  | .lst _, .tup _, _, _ => by simp only [D.py, PyData.eqv, D.eqv]
theorem pyL_eqv : ∀ ds es : List D, D.okL ds = true → D.okL es = true → PyData.eqvAll (D.pyL ds) (D.pyL es) = D.eqvL ds es
  | [], [], _, _ => by simp only [D.pyL, PyData.eqvAll, D.eqvL]
  | [], _ :: _, _, _ => by simp only [D.pyL, PyData.eqvAll, D.eqvL]
  | _ :: _, [], _, _ => by simp only [D.pyL, PyData.eqvAll, D.eqvL]
  | d :: r, e :: t, h1, h2 => by
    simp only [D.okL, Bool.and_eq_true] at h1 h2
    simp only [D.pyL, PyData.eqvAll, D.eqvL]
    rw [py_eqv d e h1.1 h2.1, pyL_eqv r t h1.2 h2.2]
end
end DL
namespace DL
open PySem PySem.Spec PyProof.Rows L2
variable [Bs]
section
variable {K : PySem.W.Frag} {io : List Addr} {F H : Hp} {st : Sto}
mutual
theorem den_dp (hs : ∀ a o, F a = some o → H a = some o) : ∀ {v : V} {d : D}, Den K io F v d → d.ok = true → Dp K H v d.py
  | _, _, .non, _ => by simp only [D.py]; exact .non
  | _, _, .bl b, _ => by simp only [D.py]; exact .bl b
  | _, _, .int i, _ => by simp only [D.py]; exact .int i
  | _, _, .str x, _ => by simp only [D.py]; exact .str x
  | _, _, .tup s r _, h => by simp only [D.py]; exact .tup (SqT_mono hs s.t) (den_dpL hs r (by simpa only [D.ok] using h))
  | _, _, .lst s r _, h => by simp only [D.py]; exact .lst (SqL.of (hs _ _ s)) (den_dpL hs r (by simpa only [D.ok] using h))
  | _, _, .scr s r _, h => by simp [D.ok] at h
  | _, _, .dct _, h => by simp [D.ok] at h
  | _, _, .ref _, h => by simp [D.ok] at h
  | _, _, .fn _ _, h => by simp [D.ok] at h
theorem den_dpL (hs : ∀ a o, F a = some o → H a = some o) : ∀ {vs : List V} {ds : List D}, DenL K io F vs ds → D.okL ds = true → DpAll K H vs (D.pyL ds)
  | _, _, .nil, _ => by simp only [D.pyL]; exact .nil
  | _, _, .cons a b, h => by
    simp only [D.okL, Bool.and_eq_true] at h
    simp only [D.pyL]
    exact .cons (den_dp hs a h.1) (den_dpL hs b h.2)
end
theorem rd_dp (R : RelH K H io F st) {v : V} {d : D} (n : Den K io F v d) (h : (rd st d).ok = true) : Dp K H v (rd st d).py := by
  cases e : rd st d with
  | lst ds =>
    obtain ⟨a, xs, rfl, h1, h2, h3⟩ := rd_lst R n e
    rw [e] at h
    simp only [D.py]
    exact .lst (SqL.of h1) (den_dpL R.sub h2 (by simpa only [D.ok] using h))
  | ref k => rw [e] at h; simp [D.ok] at h
  | non => cases rd_non e; exact den_dp R.sub n (by rw [e] at h; exact h)
  | bl b => cases rd_bl e; exact den_dp R.sub n (by rw [e] at h; exact h)
  | int i => cases rd_int e; exact den_dp R.sub n (by rw [e] at h; exact h)
  | str s => cases rd_str e; exact den_dp R.sub n (by rw [e] at h; exact h)
  | tup ds => cases rd_tup e; exact den_dp R.sub n (by rw [e] at h; exact h)
  | scr ds => rw [e] at h; simp [D.ok] at h
  | dct ds => rw [e] at h; simp [D.ok] at h
  | fn => rw [e] at h; simp [D.ok] at h
  | exc => rw [e] at h; simp [D.ok] at h
end
def dEqO (f : Bool → Bool) : R2D := fun a b st Q => (rd st a).ok = true ∧ (rd st b).ok = true ∧ min (rd st a).dep (rd st b).dep ≤ 60 ∧ Q (.bl (f ((rd st a).eqv (rd st b)))) st
/-- == : of two texts, or of two data -/
def dEqB (f : Bool → Bool) : R2D := fun a b st Q => (∃ x y, a = .str x ∧ b = .str y ∧ Q (.bl (f (x == y))) st) ∨ dEqO f a b st Q
abbrev dEq : R2D := dEqB fun b => b
abbrev dNe : R2D := dEqB fun b => !b
def rEqB (K : PySem.W.Frag) (f : Bool → Bool) : R2 := fun x y H Q => ∃ d e, Dp K H x d ∧ Dp K H y e ∧ d.canLay0 = true ∧ e.canLay0 = true ∧ min d.depth e.depth ≤ 60 ∧ Q (.bl (f (PyData.eqv d e))) H
theorem op_eqB {X : Cx} (hu : X.A.units + 64 < cLine) : OpR X (compareOp .Eq) (rEqB X.K fun b => b) := by
  intro pins s σ H x y v u Q I rx ry h
  obtain ⟨d, e, hd, he, sd, se, z, q⟩ := h
  obtain ⟨as, r1⟩ := Dp.reads I d x v hd rx
  obtain ⟨bs, r2⟩ := Dp.reads I e y u he ry
  exact SeqAt.compareEq_reads r1 r2 sd se (by omega) ⟨.bl _, H, I, rfl, q⟩
theorem op_neB {X : Cx} (hu : X.A.units + 64 < cLine) : OpR X (compareOp .NotEq) (rEqB X.K fun b => !b) := by
  intro pins s σ H x y v u Q I rx ry h
  obtain ⟨d, e, hd, he, sd, se, z, q⟩ := h
  obtain ⟨as, r1⟩ := Dp.reads I d x v hd rx
  obtain ⟨bs, r2⟩ := Dp.reads I e y u he ry
  exact SeqAt.compareNe_reads r1 r2 sd se (by omega) ⟨.bl _, H, I, rfl, q⟩
theorem z_eqO {K : PySem.W.Frag} {f : Bool → Bool} : Rz K (rEqB K f) (dEqO f) where
  mo := fun a b s Q Q' h ⟨h1, h2, h3, q⟩ => ⟨h1, h2, h3, h _ _ q⟩
  on := fun {H io F st x y a b Q} R n1 n2 ⟨h1, h2, h3, q⟩ => by
    refine ⟨_, _, rd_dp R n1 h1, rd_dp R n2 h2, py_ok _ h1, py_ok _ h2, by rw [py_dep, py_dep]; exact h3, ?_⟩
    rw [py_eqv _ _ h1 h2]
    exact kE_now R (.bl _) q
def rEqS (f : Bool → Bool) : R2 := fun x y H Q => scal x y = true ∧ Q (.bl (f (decide (x = y)))) H
theorem op_eqS {X : Cx} : OpR X (compareOp .Eq) (rEqS fun b => b) := op_eq
theorem op_neS {X : Cx} : OpR X (compareOp .NotEq) (rEqS fun b => !b) := op_ne
theorem op_eqC {X : Cx} (hu : X.A.units + 64 < cLine) : OpR X (compareOp .Eq) (fun x y H Q => rEqS (fun b => b) x y H Q ∨ rEqB X.K (fun b => b) x y H Q) := op_eqS.or (op_eqB hu)
theorem op_neC {X : Cx} (hu : X.A.units + 64 < cLine) : OpR X (compareOp .NotEq) (fun x y H Q => rEqS (fun b => !b) x y H Q ∨ rEqB X.K (fun b => !b) x y H Q) := op_neS.or (op_neB hu)
theorem z_eqB {K : PySem.W.Frag} {f : Bool → Bool} : Rz K (fun x y H Q => rEqS f x y H Q ∨ rEqB K f x y H Q) (dEqB f) where
  mo := fun a b s Q Q' h q => by
    rcases q with ⟨x, y, e1, e2, q⟩ | q
    · exact .inl ⟨x, y, e1, e2, h _ _ q⟩
    · exact .inr (z_eqO (K := K).mo _ _ _ _ _ h q)
  on := fun {H io F st x y a b Q} R n1 n2 q => by
    rcases q with ⟨x, y, rfl, rfl, q⟩ | q
    · cases n1
      cases n2
      refine .inl ⟨rfl, ?_⟩
      rw [dec_str]
      exact kE_now R (.bl _) q
    · exact .inr (z_eqO.on R n1 n2 q)
def dInB (f : Bool → Bool) : R2D := fun a b st Q => ∃ ds, (rd st b = .lst ds ∨ rd st b = .tup ds) ∧ (rd st a).ok = true ∧ D.okL ds = true ∧ min (D.depL ds) (rd st a).dep ≤ 60 ∧ Q (.bl (f (ds.any fun z => z.eqv (rd st a)))) st
abbrev dIn : R2D := dInB fun b => b
abbrev dNotIn : R2D := dInB fun b => !b
def rInB (K : PySem.W.Frag) (f : Bool → Bool) : R2 := fun x y H Q => ∃ d ds, Dp K H x d ∧ (Dp K H y (.list ds) ∨ Dp K H y (.tuple ds)) ∧ d.canLay0 = true ∧ PyData.canLayAll0 ds = true ∧ min (PyData.depthAll ds) d.depth ≤ 60 ∧ Q (.bl (f (ds.any fun z => PyData.eqv z d))) H
theorem op_inB {X : Cx} (hu : X.A.units + 64 < cLine) : OpR X (compareOp .In) (rInB X.K fun b => b) := by
  intro pins s σ H x y v u Q I rx ry h
  obtain ⟨d, ds, hd, he, sd, se, z, q⟩ := h
  obtain ⟨as, r1⟩ := Dp.reads I d x v hd rx
  rcases he with he | he
  · obtain ⟨bs, r2⟩ := Dp.reads I _ y u he ry
    exact SeqAt.in_list_reads r2 r1 se sd (by omega) ⟨.bl _, H, I, rfl, q⟩
  · obtain ⟨bs, r2⟩ := Dp.reads I _ y u he ry
    exact SeqAt.in_tuple_reads r2 r1 se sd (by omega) ⟨.bl _, H, I, rfl, q⟩
theorem op_notInB {X : Cx} (hu : X.A.units + 64 < cLine) : OpR X (compareOp .NotIn) (rInB X.K fun b => !b) := by
  intro pins s σ H x y v u Q I rx ry h
  obtain ⟨d, ds, hd, he, sd, se, z, q⟩ := h
  obtain ⟨as, r1⟩ := Dp.reads I d x v hd rx
  rcases he with he | he
  · obtain ⟨bs, r2⟩ := Dp.reads I _ y u he ry
    exact SeqAt.notIn_list_reads r2 r1 se sd (by omega) ⟨.bl _, H, I, rfl, q⟩
  · obtain ⟨bs, r2⟩ := Dp.reads I _ y u he ry
    exact SeqAt.notIn_tuple_reads r2 r1 se sd (by omega) ⟨.bl _, H, I, rfl, q⟩
theorem any_py {d : D} (h : d.ok = true) : ∀ ds : List D, D.okL ds = true → (D.pyL ds).any (fun z => PyData.eqv z d.py) = ds.any fun z => z.eqv d
  | [], _ => rfl
  | e :: r, h2 => by
    simp only [D.okL, Bool.and_eq_true] at h2
    simp only [D.pyL, List.any_cons]
    rw [py_eqv e d h2.1 h, any_py h r h2.2]
theorem z_inB {K : PySem.W.Frag} {f : Bool → Bool} : Rz K (rInB K f) (dInB f) where
  mo := fun a b s Q Q' h ⟨ds, h1, h2, h3, h4, q⟩ => ⟨ds, h1, h2, h3, h4, h _ _ q⟩
  on := fun {H io F st x y a b Q} R n1 n2 ⟨ds, h1, h2, h3, h4, q⟩ => by
    refine ⟨_, D.pyL ds, rd_dp R n1 h2, ?_, py_ok _ h2, pyL_ok ds h3, by rw [pyL_dep, py_dep]; exact h4, ?_⟩
    · rcases h1 with e | e
      · have := rd_dp R n2 (by rw [e]; simpa only [D.ok] using h3)
        rw [e] at this
        exact .inl (by simpa only [D.py] using this)
      · have := rd_dp R n2 (by rw [e]; simpa only [D.ok] using h3)
        rw [e] at this
        exact .inr (by simpa only [D.py] using this)
    · rw [any_py h2 ds h3]
      exact kE_now R (.bl _) q
end DL
namespace DL
open PySem PySem.Spec PyProof.Rows L2
variable [Bs]
def dIsBl (f : Bool → Bool) : R2D := fun a b st Q => ∃ x c, a = .bl x ∧ b = .bl c ∧ Q (.bl (f (decide (x = c)))) st
theorem z_isBl {K : PySem.W.Frag} {f : Bool → Bool} : Rz K (fun x y H Q => ∃ a b : Bool, x = .bl a ∧ y = .bl b ∧ Q (.bl (f (decide (a = b)))) H) (dIsBl f) where
  mo := fun a b s Q Q' h ⟨x, c, e1, e2, q⟩ => ⟨x, c, e1, e2, h _ _ q⟩
  on := fun R n1 n2 ⟨x, c, e1, e2, q⟩ => by
    subst e1 e2
    cases n1
    cases n2
    exact ⟨x, c, rfl, rfl, kE_now R (.bl _) q⟩
def D.ty : D → String
  | .non => "NoneType"
  | .bl _ => "bool"
  | .int _ => "int"
  | .str _ => "str"
  | .tup _ => "tuple"
  | .lst _ => "list"
  | .scr _ => "list"
  | .dct _ => "dict"
  | .ref _ => ""
  | .fn _ _ _ => ""
  | .exc _ _ _ => ""
def D.noRef : D → Prop
  | .ref _ => False
  | .fn _ _ _ => False
  | .exc _ _ _ => False
  | _ => True
def D.isa (T : String) : D → Bool
  | .bl _ => T == "bool" || T == "int"
  | d => d.ty == T
theorem den_ty {K : PySem.W.Frag} {H : Hp} {io : List Addr} {F : Hp} {st : Sto} {v : V} {d : D} (R : RelH K H io F st) (n : Den K io F v d) (h : d.noRef) : TyX K H v (.type d.ty) := by
  cases n with
  | non => exact .base .non
  | bl b => exact .base (.bl b)
  | int i => exact .base (.int i)
  | str s => exact .base (.str s)
  | tup s r z =>
    rcases s.t with (s | ⟨o, s⟩) | ⟨o, its, k, s, c, _⟩
    · exact .base (.tup (R.sub _ _ s))
    · exact .fTuple (R.sub _ _ s)
    · exact .kTuple s c
  | lst s r z => exact .base (.lst (R.sub _ _ s))
  | scr s r z =>
    rcases s with (s | ⟨o, s⟩) | ⟨o, its, k, s, c, _⟩
    · exact .base (.lst (R.sub _ _ s))
    · exact .base (.frz (R.sub _ _ s))
    · exact .kList s c
  | dct s => exact .base (.dK (R.sub _ _ s))
  | ref _ => exact h.elim
  | fn _ _ => exact h.elim
  | exc => exact h.elim
def wIsi (T : String) (we : DE) : DE := fun env st Q => we env st fun d s => d.noRef ∧ Q (.bl (d.isa T)) s
def TOk (T : String) : Prop := ∀ d : D, d.noRef → kitB d.ty T = some (d.isa T)
theorem tok_int : TOk "int" := fun d h => by cases d <;> first | exact h.elim | (dsimp only [D.ty, D.isa]; decide +kernel)
theorem tok_bool : TOk "bool" := fun d h => by cases d <;> first | exact h.elim | (dsimp only [D.ty, D.isa]; decide +kernel)
theorem tok_tuple : TOk "tuple" := fun d h => by cases d <;> first | exact h.elim | (dsimp only [D.ty, D.isa]; decide +kernel)
section
variable {X : Cx} {pos p p2 : Pos} {e : Expr} {we : DE} {x : Str}
theorem we_isi {T : String} (hT : TOk T) (hg : Gl X "isinstance") (hm : X.mg "isinstance" = none) (hg2 : Gl X x) (hm2 : X.mg x = none) (hv2 : bootBuiltins x = some (.type T)) (he : WE X e we) (hv : bootBuiltins "isinstance" = some (.builtin "isinstance") := by decide +kernel)
    (hn2 : x ≠ "__name__" := by decide) (hd2 : (x == ("__debug__" : Str)) = false := by decide)
    (s1 : starEach [e, .Name x p2] X.env = (false, eval e X.env) :: starEach [.Name x p2] X.env := by rfl) (s2 : starEach [.Name x p2] X.env = (false, eval (.Name x p2) X.env) :: starEach [] X.env := by rfl)
    (hpl : (backTo pos (starEach [.Name x p2] X.env)).any (·.1) = false := by rfl) : WE X (.Call (.Name "isinstance" p) [e, .Name x p2] [] pos) (wIsi T we) := by
  refine ⟨fun _ _ _ _ h q => he.mo _ _ _ _ (fun _ _ ⟨z, q⟩ => ⟨z, h _ _ q⟩) q, PE_imp (pe_callB (x := "isinstance") call_isi hg hm hv (pa_cons he.pe (pa_cons (pe_bltn (v := .ty T) hg2 hm2 hv2 rfl hn2 hd2) pa_nil s2) s1) (by decide) (by decide) s1 hpl) fun σ H Q ⟨env, io, F, st, R, q⟩ => ?_⟩
  refine tE_use he.mo R q fun d s1 v io1 F1 H1 ⟨z, q1⟩ t1 R1 n1 => ?_
  exact ⟨v, .ty T, _, _, _, rfl, .ty T, den_ty R1.toRelH n1 z, kit_ty (hT d z), kE_at q1 t1 R1.toRelH (.bl _)⟩
end
theorem CallR.or {X : Cx} {f : Value} {r r' : List V → Hp → VK → Prop} (h : CallR X f r) (h' : CallR X f r') : CallR X f (fun xs H Q => r xs H Q ∨ r' xs H Q) := by
  intro pins s σ H vs us Q I rv q
  rcases q with q | q
  · exact h pins s σ H vs us Q I rv q
  · exact h' pins s σ H vs us Q I rv q
def lenD (d : D) : Option Nat := match d with
  | .tup ds => some ds.length
  | .lst ds => some ds.length
  | .scr ds => some ds.length
  | .str z => if z.length ≤ sizeLine then some z.length else none
  | _ => none
def bLen : RLD := fun ds st Q => ∃ d n, ds = [d] ∧ lenD (rd st d) = some n ∧ Q (.int (n : Nat)) st
section
variable {K : PySem.W.Frag} {H : Hp} {io : List Addr} {F : Hp} {st : Sto} {Q : VK} {v : V} {d : D}
theorem DenL.one {vs : List V} (n : DenL K io F vs [d]) : ∃ v, vs = [v] ∧ Den K io F v d := by
  cases n with
  | cons a b => cases b; exact ⟨_, rfl, a⟩
theorem DenL.two {vs : List V} {e : D} (n : DenL K io F vs [d, e]) : ∃ v w, vs = [v, w] ∧ Den K io F v d ∧ Den K io F w e := by
  cases n with
  | cons a b =>
    cases b with
    | cons b c => cases c; exact ⟨_, _, rfl, a, b⟩
end
theorem z_len {X : Cx} : RzL X.K (fun xs H Q => (∃ p ys, xs = [.ref p] ∧ (SqL X.K H p ys ∨ SqT X.K H p ys) ∧ Q (.int ys.length) H) ∨ ∃ z, xs = [.str z] ∧ z.length ≤ sizeLine ∧ Q (.int z.length) H) bLen where
  mo := fun ds s Q Q' h ⟨d, n, e1, e2, q⟩ => ⟨d, n, e1, e2, h _ _ q⟩
  on := fun {H io F st vs ds Q} R nl ⟨d, n, e1, e2, q⟩ => by
    subst e1
    obtain ⟨v, rfl, n1⟩ := nl.one
    cases e : rd st d with
    | lst es =>
      obtain ⟨a, xs, rfl, h1, h2, h3⟩ := rd_lst R n1 e
      rw [e] at e2
      cases e2
      refine .inl ⟨a, xs, rfl, .inl (SqL.of h1), ?_⟩
      rw [h2.length]
      exact kE_now R (.int _) q
    | tup es =>
      rw [e] at e2
      cases e2
      cases rd_tup e
      cases n1 with
      | tup s r z =>
        refine .inl ⟨_, _, rfl, .inr (SqT_mono R.sub s.t), ?_⟩
        rw [r.length]
        exact kE_now R (.int _) q
    | scr es =>
      rw [e] at e2
      cases e2
      cases rd_scr e
      cases n1 with
      | scr s r z =>
        refine .inl ⟨_, _, rfl, .inl (SqL_mono R.sub s), ?_⟩
        rw [r.length]
        exact kE_now R (.int _) q
    | str z =>
      rw [e] at e2
      cases rd_str e
      cases n1
      unfold lenD at e2
      by_cases hz : z.length ≤ sizeLine
      · simp only [hz, if_true] at e2
        cases e2
        exact .inr ⟨z, rfl, hz, kE_now R (.int _) q⟩
      · simp only [hz, if_false] at e2
        cases e2
    | non => rw [e] at e2; cases e2
    | bl _ => rw [e] at e2; cases e2
    | int _ => rw [e] at e2; cases e2
    | dct _ => rw [e] at e2; cases e2
    | fn => rw [e] at e2; cases e2
    | exc => rw [e] at e2; cases e2
    | ref _ => rw [e] at e2; cases e2
def bAbs : RLD := fun ds st Q => ∃ i, ds = [.int i] ∧ Q (.int (if i < 0 then -i else i)) st
theorem z_abs {K : PySem.W.Frag} : RzL K (fun xs H Q => ∃ i, xs = [.int i] ∧ Q (.int (if i < 0 then -i else i)) H) bAbs where
  mo := fun ds s Q Q' h ⟨i, e, q⟩ => ⟨i, e, h _ _ q⟩
  on := fun R nl ⟨i, e, q⟩ => by
    subst e
    obtain ⟨v, rfl, n⟩ := nl.one
    cases n
    exact ⟨i, rfl, kE_now R (.int _) q⟩
def bMax2 : RLD := fun ds st Q => ∃ i j, ds = [.int i, .int j] ∧ Q (.int (if j > i then j else i)) st
def bMin2 : RLD := fun ds st Q => ∃ i j, ds = [.int i, .int j] ∧ Q (.int (if j < i then j else i)) st
theorem z_max2 {K : PySem.W.Frag} : RzL K (fun xs H Q => ∃ i j, xs = [.int i, .int j] ∧ Q (.int (if j > i then j else i)) H) bMax2 where
  mo := fun ds s Q Q' h ⟨i, j, e, q⟩ => ⟨i, j, e, h _ _ q⟩
  on := fun R nl ⟨i, j, e, q⟩ => by
    subst e
    obtain ⟨v, w, rfl, n, m⟩ := nl.two
    cases n
    cases m
    exact ⟨i, j, rfl, kE_now R (.int _) q⟩
theorem z_min2 {K : PySem.W.Frag} : RzL K (fun xs H Q => ∃ i j, xs = [.int i, .int j] ∧ Q (.int (if j < i then j else i)) H) bMin2 where
  mo := fun ds s Q Q' h ⟨i, j, e, q⟩ => ⟨i, j, e, h _ _ q⟩
  on := fun R nl ⟨i, j, e, q⟩ => by
    subst e
    obtain ⟨v, w, rfl, n, m⟩ := nl.two
    cases n
    cases m
    exact ⟨i, j, rfl, kE_now R (.int _) q⟩
def bInt : RLD := fun ds st Q => ∃ d, ds = [d] ∧ match d with
  | .int i => Q (.int i) st
  | .bl b => Q (.int (if b then 1 else 0)) st
  | _ => False
theorem z_int {K : PySem.W.Frag} : RzL K (fun xs H Q => (∃ i, xs = [.int i] ∧ Q (.int i) H) ∨ ∃ k, xs = [.bl k] ∧ Q (.int (if k then 1 else 0)) H) bInt where
  mo := fun ds s Q Q' h ⟨d, e, q⟩ => ⟨d, e, by cases d <;> first | exact h _ _ q | exact q⟩
  on := fun R nl ⟨d, e, q⟩ => by
    subst e
    obtain ⟨v, rfl, n⟩ := nl.one
    cases n <;> first
      | exact False.elim q
      | exact .inl ⟨_, rfl, kE_now R (.int _) q⟩
      | exact .inr ⟨_, rfl, kE_now R (.int _) q⟩
def D.ints : List D → Option (List Int)
  | [] => some []
  | .int i :: r => (D.ints r).map (i :: ·)
  | _ => none
def D.bools : List D → Option (List Bool)
  | [] => some []
  | .bl i :: r => (D.bools r).map (i :: ·)
  | _ => none
theorem bools_map : ∀ ns : List Bool, D.bools (ns.map .bl) = some ns
  | [] => rfl
  | n :: r => by rw [List.map_cons]; simp only [D.bools]; rw [bools_map r]; rfl
theorem ints_eq : ∀ {ds : List D} {ns : List Int}, D.ints ds = some ns → ds = ns.map .int
  | [], ns, h => by cases h; rfl
  | .int i :: r, ns, h => by
    simp only [D.ints] at h
    cases e : D.ints r with
    | none => rw [e] at h; cases h
    | some ms =>
      rw [e] at h
      cases h
      rw [List.map_cons, ints_eq e]
theorem bools_eq : ∀ {ds : List D} {ns : List Bool}, D.bools ds = some ns → ds = ns.map .bl
  | [], ns, h => by cases h; rfl
  | .bl i :: r, ns, h => by
    simp only [D.bools] at h
    cases e : D.bools r with
    | none => rw [e] at h; cases h
    | some ms =>
      rw [e] at h
      cases h
      rw [List.map_cons, bools_eq e]
theorem den_ints {K : PySem.W.Frag} {io : List Addr} {F : Hp} : ∀ {ns : List Int} {vs : List V}, DenL K io F vs (ns.map .int) → vs = ns.map V.int
  | [], _, .nil => rfl
  | n :: r, _, .cons a b => by cases a; rw [List.map_cons, den_ints b]
theorem den_bools {K : PySem.W.Frag} {io : List Addr} {F : Hp} : ∀ {ns : List Bool} {vs : List V}, DenL K io F vs (ns.map .bl) → vs = ns.map V.bl
  | [], _, .nil => rfl
  | n :: r, _, .cons a b => by cases a; rw [List.map_cons, den_bools b]
def bAny : RLD := fun ds st Q => ∃ d es bs, ds = [d] ∧ rd st d = .lst es ∧ D.bools es = some bs ∧ Q (.bl (bs.any id)) st
theorem on_B1 {K : PySem.W.Frag} {H : Hp} {io : List Addr} {F : Hp} {st : Sto} {vs : List V} {d : D} {es : List D} {ns : List Bool} (R : RelH K H io F st) (n : DenL K io F vs [d]) (e1 : rd st d = .lst es) (e2 : D.bools es = some ns) : ∃ a, vs = [.ref a] ∧ SqL K H a (ns.map V.bl) := by
  obtain ⟨v, rfl, n1⟩ := n.one
  obtain ⟨a, xs, rfl, h1, h2, _⟩ := rd_lst R n1 e1
  have := bools_eq e2
  subst this
  rw [den_bools h2] at h1
  exact ⟨a, rfl, SqL.of h1⟩
theorem z_any {K : PySem.W.Frag} : RzL K (rAny K) bAny where
  mo := fun ds s Q Q' h ⟨d, es, bs, e1, e2, e3, q⟩ => ⟨d, es, bs, e1, e2, e3, h _ _ q⟩
  on := fun R n ⟨d, es, bs, e1, e2, e3, q⟩ => by
    subst e1
    obtain ⟨a, rfl, h⟩ := on_B1 R n e2 e3
    exact ⟨a, bs, rfl, h, kE_now R (.bl _) q⟩
def bTuple : RLD := fun ds st Q => ∃ d es, ds = [d] ∧ (rd st d = .lst es ∨ rd st d = .tup es) ∧ Q (.tup es) st
theorem z_tuple {X : Cx} : RzL X.K (fun xs H Q => ∃ p ys, xs = [.ref p] ∧ ((SqL X.K H p ys ∧ XtK H Q ys) ∨ (SqT X.K H p ys ∧ Q (.ref p) H))) bTuple where
  mo := fun ds s Q Q' h ⟨d, es, e1, e2, q⟩ => ⟨d, es, e1, e2, h _ _ q⟩
  on := fun {H io F st vs ds Q} R n ⟨d, es, e1, e2, q⟩ => by
    subst e1
    obtain ⟨v, rfl, n1⟩ := n.one
    rcases e2 with e | e
    · obtain ⟨a, xs, rfl, h1, h2, h3⟩ := rd_lst R n1 e
      exact ⟨a, xs, rfl, .inl ⟨SqL.of h1, lay_tup R h2 h3 q⟩⟩
    · cases rd_tup e
      cases n1 with
      | tup s r z => exact ⟨_, _, rfl, .inr ⟨SqT_mono R.sub s.t, kE_now R (.tup s r z) q⟩⟩
def bList (m : Bool) : RLD := fun ds st Q => ∃ d es, ds = [d] ∧ (rd st d = .lst es ∨ rd st d = .tup es ∨ rd st d = .scr es) ∧ newL m es st Q
theorem z_list {X : Cx} {m : Bool} : RzL X.K (fun xs H Q => ∃ p ys, xs = [.ref p] ∧ (SqL X.K H p ys ∨ SqT X.K H p ys) ∧ ∀ l, H l = none → Q (.ref l) (upd H l (.lst ys))) (bList m) where
  mo := fun ds s Q Q' h ⟨d, es, e1, e2, q⟩ => ⟨d, es, e1, e2, newL_mo h q⟩
  on := fun {H io F st vs ds Q} R n ⟨d, es, e1, e2, q⟩ => by
    subst e1
    obtain ⟨v, rfl, n1⟩ := n.one
    rcases e2 with e | e | e
    · obtain ⟨a, xs, rfl, h1, h2, h3⟩ := rd_lst R n1 e
      exact ⟨a, xs, rfl, .inl (SqL.of h1), lay_new R h2 h3 q⟩
    · cases rd_tup e
      cases n1 with
      | tup s r z => exact ⟨_, _, rfl, .inr (SqT_mono R.sub s.t), lay_new R r z q⟩
    · cases rd_scr e
      cases n1 with
      | scr s r z => exact ⟨_, _, rfl, .inl (SqL_mono R.sub s), lay_new R r z q⟩
end DL
namespace DL
open PySem PySem.Spec PyProof.Rows L2
variable [Bs]
theorem atI_den {K : PySem.W.Frag} {io : List Addr} {F : Hp} {xs : List V} {ds : List D} {i : Int} {d : D} (r : DenL K io F xs ds) (h : atI ds i = some d) : ∃ v, atI xs i = some v ∧ Den K io F v d := by
  unfold atI at h ⊢
  rw [r.length]
  cases e : ixN ds.length i with
  | none => rw [e] at h; cases h
  | some j => rw [e] at h; exact r.get h
def dIx : R2D := fun a b st Q => ∃ i, b = .int i ∧ match rd st a with
  | .lst ds => ∃ d, atI ds i = some d ∧ Q d st
  | .tup ds => ∃ d, atI ds i = some d ∧ Q d st
  | .scr ds => ∃ d, atI ds i = some d ∧ Q d st
  | .str z => z.length ≤ sizeLine ∧ ∃ c, atI z.cps.toList i = some c ∧ Q (.str ⟨#[c]⟩) st
  | _ => False
theorem z_ix {X : Cx} : Rz X.K (rIx X.K) dIx where
  mo := fun a b s Q Q' h ⟨i, e, q⟩ => ⟨i, e, by
    split at q
    · exact ⟨q.choose, q.choose_spec.1, h _ _ q.choose_spec.2⟩
    · exact ⟨q.choose, q.choose_spec.1, h _ _ q.choose_spec.2⟩
    · exact ⟨q.choose, q.choose_spec.1, h _ _ q.choose_spec.2⟩
    · exact ⟨q.1, q.2.choose, q.2.choose_spec.1, h _ _ q.2.choose_spec.2⟩
    · exact q⟩
  on := fun {H io F st x y a b Q} R n1 n2 ⟨i, e, q⟩ => by
    subst e
    cases n2
    split at q
    · rename_i ds e
      obtain ⟨p, xs, rfl, h1, h2, h3⟩ := rd_lst R n1 e
      obtain ⟨d, h, q⟩ := q
      obtain ⟨v, h4, h5⟩ := atI_den h2 h
      exact .inl ⟨p, xs, i, v, rfl, rfl, SqL.of h1, h4, kE_now R h5 q⟩
    · rename_i ds e
      cases rd_tup e
      obtain ⟨d, h, q⟩ := q
      cases n1 with
      | tup s r z =>
        obtain ⟨v, h4, h5⟩ := atI_den r h
        exact .inr (.inl ⟨_, _, i, v, rfl, rfl, SqT_mono R.sub s.t, h4, kE_now R h5 q⟩)
    · rename_i ds e
      cases rd_scr e
      obtain ⟨d, h, q⟩ := q
      cases n1 with
      | scr s r z =>
        obtain ⟨v, h4, h5⟩ := atI_den r h
        exact .inl ⟨_, _, i, v, rfl, rfl, SqL_mono R.sub s, h4, kE_now R h5 q⟩
    · rename_i z e
      cases rd_str e
      obtain ⟨hz, c, h, q⟩ := q
      cases n1
      exact .inr (.inr ⟨z, i, c, rfl, rfl, hz, h, kE_now R (.str _) q⟩)
    · exact q.elim
section
variable {X : Cx} {pos p2 : Pos} {a b : Expr} {wa wb : DE}
theorem we_ix (ha : WE X a wa) (hb : WE X b wb) (hs : PlainIx b := by exact fun _ _ => rfl) : WE X (.Subscript a b pos) (wOp dIx wa wb) :=
  ⟨moOp (z_ix (X := X)).mo ha.mo hb.mo, PE_imp (pe_ix ix_seq ha.pe hb.pe hs) fun σ H Q h => tOp_of z_ix ha hb h⟩
def cutL {α : Type} (xs : List α) (lo hi : Option Int) : List α := (xs.drop (HT.sIx xs.length 0 lo)).take (HT.sIx xs.length xs.length hi - HT.sIx xs.length 0 lo)
theorem cutL_length {α : Type} (xs : List α) (lo hi : Option Int) : (cutL xs lo hi).length ≤ xs.length := by
  unfold cutL
  rw [List.length_take, List.length_drop]
  omega
theorem cut_den {K : PySem.W.Frag} {io : List Addr} {F : Hp} {xs : List V} {ds : List D} (r : DenL K io F xs ds) (lo hi : Option Int) : DenL K io F (cutV xs lo hi) (cutL ds lo hi) := by
  unfold cutV cutL
  rw [r.length]
  exact (r.drop _).take _
abbrev DO := En → Sto → (Option Int → Sto → Prop) → Prop
def MoO (w : DO) : Prop := ∀ (e : En) (s : Sto) (Q Q' : Option Int → Sto → Prop), (∀ d s, Q d s → Q' d s) → w e s Q → w e s Q'
def kO (K : PySem.W.Frag) (H : Hp) (io : List Addr) (F : Hp) (Q : Option Int → Hp → Prop) : Option Int → Sto → Prop := fun b st' => ∀ io' F' H', Stp H io F H' io' F' → RelH K H' io' F' st' → Q b H'
def tO (K : PySem.W.Frag) (w : DO) : TO := fun σ H Q => ∃ env io F st, Rel K σ H env io F st ∧ w env st (kO K H io F Q)
structure WO (X : Cx) (e : Option Expr) (w : DO) : Prop where
  mo : MoO w
  pe : PO X e (tO X.K w)
theorem PO_imp {e : Option Expr} {t t' : TO} (h : PO X e t) (i : ∀ σ H Q, t' σ H Q → t σ H Q) : PO X e t' := ⟨fun p s σ H Q I q => h.run p s σ H Q I (i σ H Q q)⟩
def oNo : DO := fun _ st Q => Q none st
def oPart (we : DE) : DO := fun env st Q => we env st fun d s => ∃ i, d = .int i ∧ Q (some i) s
theorem wo_none : WO X none oNo := ⟨fun _ _ _ _ h q => h _ _ q, PO_imp po_none fun σ H Q ⟨env, io, F, st, R, q⟩ => q _ _ _ Stp.refl R.toRelH⟩
theorem wo_some (ha : WE X a wa) : WO X (some a) (oPart wa) := by
  refine ⟨fun _ _ _ _ h q => ha.mo _ _ _ _ (fun _ _ ⟨i, e, q⟩ => ⟨i, e, h _ _ q⟩) q, PO_imp (po_some ha.pe) fun σ H Q ⟨env, io, F, st, R, q⟩ => ?_⟩
  refine tE_use ha.mo R q fun d s1 v io1 F1 H1 ⟨i, e, q1⟩ t1 R1 n1 => ?_
  subst e
  cases n1
  exact ⟨i, rfl, q1 _ _ _ t1 R1.toRelH⟩
def dSl (m : Bool) (a : D) (lo hi : Option Int) (st : Sto) (Q : DK) : Prop := match rd st a with
  | .lst ds => newL m (cutL ds lo hi) st Q
  | .scr ds => newL m (cutL ds lo hi) st Q
  | .tup ds => Q (.tup (cutL ds lo hi)) st
  | .str z => z.length ≤ sizeLine ∧ Q (.str (cutS z lo hi)) st
  | _ => False
def wSl (m : Bool) (wa : DE) (wl wh : DO) : DE := fun env st Q => wa env st fun a s1 => wl env s1 fun lo s2 => wh env s2 fun hi s3 => dSl m a lo hi s3 Q
theorem mo_dSl {m : Bool} {a : D} {lo hi : Option Int} {st : Sto} {Q Q' : DK} (h : ∀ d s, Q d s → Q' d s) (q : dSl m a lo hi st Q) : dSl m a lo hi st Q' := by
  unfold dSl at q ⊢
  split at q
  · exact newL_mo h q
  · exact newL_mo h q
  · exact h _ _ q
  · exact ⟨q.1, h _ _ q.2⟩
  · exact q
theorem cut_whole {α : Type} (xs : List α) (lo hi : Option Int) (h : HT.sIx xs.length 0 lo = 0 ∧ HT.sIx xs.length xs.length hi = xs.length) : cutL xs lo hi = xs := by
  unfold cutL
  rw [h.1, h.2, List.drop_zero, Nat.sub_zero, List.take_length]
theorem we_sl {m : Bool} {lo hi : Option Expr} {wl wh : DO} (ha : WE X a wa) (hl : WO X lo wl) (hh : WO X hi wh) : WE X (.Subscript a (.Slice lo hi none p2) pos) (wSl m wa wl wh) := by
  refine ⟨fun _ _ _ _ h q => ha.mo _ _ _ _ (fun _ _ q => hl.mo _ _ _ _ (fun _ _ q => hh.mo _ _ _ _ (fun _ _ q => mo_dSl h q) q) q) q, PE_imp (pe_slice (sl_list.or (sl_tupX.or sl_str)) ha.pe hl.pe hh.pe) fun σ H Q ⟨env, io, F, st, R, q⟩ => ?_⟩
  refine tE_use ha.mo R q fun d s1 v io1 F1 H1 q1 t1 R1 n1 => ?_
  refine ⟨env, io1, F1, s1, R1, hl.mo _ _ _ _ (fun l s2 q2 => ?_) q1⟩
  intro io2 F2 H2 t2 R2
  refine ⟨env, io2, F2, s2, R1.next t2 R2, hh.mo _ _ _ _ (fun u s3 q3 => ?_) q2⟩
  intro io3 F3 H3 t3 R3
  replace q3 := mo_dSl (fun d s => kE_later ((t1.trans t2).trans t3)) q3
  replace n1 := (t2.trans t3).den n1
  unfold dSl at q3
  split at q3
  · rename_i ds e
    obtain ⟨p, xs, rfl, h1, h2, h3⟩ := rd_lst R3 n1 e
    exact .inl ⟨p, xs, rfl, SqL.of h1, lay_new R3 (cut_den h2 _ _) (Nat.le_trans (cutL_length _ _ _) h3) q3⟩
  · rename_i ds e
    cases rd_scr e
    cases n1 with
    | scr s r z => exact .inl ⟨_, _, rfl, SqL_mono R3.sub s, lay_new R3 (cut_den r _ _) (Nat.le_trans (cutL_length _ _ _) z) q3⟩
  · rename_i ds e
    cases rd_tup e
    cases n1 with
    | tup s r z =>
      refine .inr (.inl ⟨_, _, rfl, SqT_mono R3.sub s.t, fun hw => ?_, fun _ => ?_⟩)
      · rw [r.length] at hw
        rw [cut_whole ds l u hw] at q3
        exact kE_now R3 (.tup s r z) q3
      · exact lay_tup R3 (cut_den r _ _) (Nat.le_trans (cutL_length _ _ _) z) q3
  · rename_i z e
    cases rd_str e
    cases n1
    exact .inr (.inr ⟨z, rfl, q3.1, kE_now R3 (.str _) q3.2⟩)
  · exact q3.elim
end
theorem nodup_at {io : List Addr} (h : io.Nodup) {i j : Nat} {a : Addr} (h1 : io[i]? = some a) (h2 : io[j]? = some a) : i = j := by
  obtain ⟨x1, e1⟩ := List.getElem?_eq_some_iff.mp h1
  obtain ⟨x2, e2⟩ := List.getElem?_eq_some_iff.mp h2
  exact (List.getElem_inj h).mp (e1.trans e2.symm)
section
variable {K : PySem.W.Frag} {io : List Addr} {F H : Hp} {st : Sto} {n : Nat} {a : Addr}
theorem RelH.write (R : RelH K H io F st) {c : Cel} {o : HO} (h : io[n]? = some a) (hf : F a = none) (hc : CelOk K (upd H a o) io F a c) : RelH K (upd H a o) io F (st.set n c) ∧ Stp H io F (upd H a o) io F := by
  have hmem := List.mem_of_getElem? h
  obtain ⟨o1, ho⟩ := R.there a hmem
  refine ⟨⟨fun b u e => ?_, by rw [List.length_set]; exact R.len, R.nd, fun b hb => ?_, fun m d b h1 h2 => ?_, fun q hq => ?_⟩, ⟨⟨[], by simp, fun _ h => by cases h⟩, fun _ _ h => h, fun b u e hn hb => ?_, fun b u e => ?_, fun _ _ h => .inl h⟩⟩
  · rw [upd_ne (fun z => by subst z; rw [hf] at e; cases e)]; exact R.sub _ _ e
  · by_cases z : b = a
    · subst z; exact ⟨_, upd_same⟩
    · rw [upd_ne z]; exact R.there b hb
  · by_cases z : m = n
    · subst z
      have hm : m < st.length := by rw [← R.len]; exact (List.getElem?_eq_some_iff.mp h).1
      rw [List.getElem?_set_self hm] at h1
      cases h1
      rw [h] at h2
      cases h2
      exact hc
    · rw [List.getElem?_set_ne (Ne.symm z)] at h1
      have ne : b ≠ a := fun q => by subst q; exact z (nodup_at R.nd h2 h)
      have := R.cel m d b h1 h2
      cases d with
      | lst ds => obtain ⟨q1, q2, vs, q3, q4⟩ := this; exact ⟨q1, q2, vs, by rw [upd_ne ne]; exact q3, q4⟩
      | dead => trivial
      | ins C fs => obtain ⟨q1, cc, dx, fv, qc, q3, q4⟩ := this; exact ⟨q1, cc, dx, fv, qc, by rw [upd_ne ne]; exact q3, q4⟩
      | dct b kvs => obtain ⟨q1, q2, u, q3, q4⟩ := this; exact ⟨q1, q2, u, by rw [upd_ne ne]; exact q3, q4⟩
  · obtain ⟨t1, t2, ps, t3, t4, t5⟩ := R.tab q hq
    exact ⟨t1, t2, ps, by rw [upd_ne (fun z => by rw [z] at t2; exact t2 hmem)]; exact t3, t4, t5⟩
  · rw [upd_ne (fun z => by subst z; exact hb hmem)]; exact e
  · by_cases z : b = a
    · subst z; exact ⟨_, upd_same⟩
    · rw [upd_ne z]; exact ⟨u, e⟩
theorem RelH.writeL (R : RelH K H io F st) {ds ds' : List D} {vs' : List V} (h : io[n]? = some a) (hn : st[n]? = some (.lst ds)) (r : DenL K io F vs' ds') (z : ds'.length ≤ sizeLine) : RelH K (upd H a (.lst vs')) io F (st.set n (.lst ds')) ∧ Stp H io F (upd H a (.lst vs')) io F :=
  R.write h (R.cel n _ a hn h).1 ⟨(R.cel n _ a hn h).1, z, vs', upd_same, r⟩
/-- a cell's list -/
theorem RelH.at (R : RelH K H io F st) {ds : List D} (h : io[n]? = some a) (hn : st[n]? = some (.lst ds)) : ∃ vs, H a = some (.lst vs) ∧ DenL K io F vs ds ∧ ds.length ≤ sizeLine := by
  obtain ⟨h1, h2, vs, h3, h4⟩ := R.cel n _ a hn h
  exact ⟨vs, h3, h4, h2⟩
end
abbrev RMD := D → List D → Sto → DK → Prop
structure RzM (K : PySem.W.Frag) (r : V → List V → Hp → VK → Prop) (f : RMD) : Prop where
  mo : ∀ d ds s Q Q', (∀ d s, Q d s → Q' d s) → f d ds s Q → f d ds s Q'
  on : ∀ {H io F st v vs d ds Q}, RelH K H io F st → Den K io F v d → DenL K io F vs ds → f d ds st (kE K H io F Q) → r v vs H Q
def wM (f : RMD) (wo : DE) (wa : DA) : DE := fun env st Q => wo env st fun d s1 => (∃ ds, rd s1 d = .lst ds) ∧ wa env s1 fun ds s2 => f d ds s2 Q
section
variable {X : Cx} {apos cpos : Pos} {o e : Expr} {es : List Expr} {wo : DE} {wa : DA} {name : Str} {id : String} {r : V → List V → Hp → VK → Prop} {f : RMD}
theorem moM (mo : MoE wo) (ma : MoA wa) (z : RzM X.K r f) : MoE (wM f wo wa) := fun _ _ _ _ h q => mo _ _ _ _ (fun _ _ ⟨t, q⟩ => ⟨t, ma _ _ _ _ (fun _ _ q => z.mo _ _ _ _ _ h q) q⟩) q
theorem tM_of {σ : L2.St} {H : Hp} {Q : VK} (ho : WE X o wo) (ma : MoA wa) (z : RzM X.K r f) (h : tE X.K (wM f wo wa) σ H Q) : tBM X.K "list" r (tE X.K wo) (tA X.K wa) σ H Q := by
  obtain ⟨env, io, F, st, R, q⟩ := h
  refine tE_use ho.mo R q fun d s1 v io1 F1 H1 ⟨⟨ds, e⟩, q1⟩ t1 R1 n1 => ?_
  obtain ⟨p, xs, rfl, h1, h2, h3⟩ := rd_lst R1.toRelH n1 e
  refine ⟨.inl ⟨rfl, _, SqL.of h1⟩, ?_⟩
  refine tA_use ma R1 q1 fun ds s2 vs io2 F2 H2 q2 t2 R2 n2 => ?_
  exact z.on R2.toRelH (t2.den n1) n2 (z.mo _ _ _ _ _ (fun _ _ => kE_later (t1.trans t2)) q2)
theorem we_m (slot : Slot "list" name id) (hty : typeOf (.builtin id) = pure (.type "method_descriptor")) (hm : MtR X id r) (z : RzM X.K r f) (ho : WE X o wo) (ha : WA X (e :: es) wa)
    (pe : ∀ {to : TE} {t : TA}, PE X o to → PA X (e :: es) t → PE X (.Call (.Attribute o name apos) (e :: es) [] cpos) (tBM X.K "list" r to t)) : WE X (.Call (.Attribute o name apos) (e :: es) [] cpos) (wM f wo wa) :=
  ⟨moM ho.mo ha.mo z, PE_imp (pe ho.pe ha.pe) fun σ H Q h => tM_of ho ha.mo z h⟩
end
def mAppend : RMD := fun d xs st Q => ∃ n ds x, d = .ref n ∧ xs = [x] ∧ st[n]? = some (.lst ds) ∧ ds.length < sizeLine ∧ Q .non (st.set n (.lst (ds ++ [x])))
theorem z_append {K : PySem.W.Frag} : RzM K rAppend mAppend where
  mo := fun _ _ _ _ _ h ⟨n, ds, x, e1, e2, e3, z, q⟩ => ⟨n, ds, x, e1, e2, e3, z, h _ _ q⟩
  on := fun {H io F st v vs d ds Q} R n1 n2 ⟨n, ds', x, e1, e2, e3, z, q⟩ => by
    subst e1 e2
    cases n1 with
    | ref h =>
      obtain ⟨y, rfl, ny⟩ := n2.one
      obtain ⟨xs, h1, h2, h3⟩ := R.at h e3
      obtain ⟨R', s⟩ := R.writeL (ds' := ds' ++ [x]) h e3 (h2.append (.cons ny .nil)) (by rw [List.length_append]; exact z)
      exact ⟨_, xs, y, rfl, rfl, h1, by rw [h2.length]; exact z, q _ _ _ _ s R' .non⟩
def mPopAt : RMD := fun d xs st Q => ∃ n ds i k x, d = .ref n ∧ xs = [.int i] ∧ st[n]? = some (.lst ds) ∧ -(2 ^ 63) ≤ i ∧ i < 2 ^ 63 ∧ ixN ds.length i = some k ∧ ds[k]? = some x ∧ Q x (st.set n (.lst (ds.eraseIdx k)))
theorem erase_le {α : Type} (xs : List α) (k : Nat) : (xs.eraseIdx k).length ≤ xs.length := by
  rw [List.length_eraseIdx]
  split <;> omega
theorem z_popAt {K : PySem.W.Frag} : RzM K rPopAt mPopAt where
  mo := fun _ _ _ _ _ h ⟨n, ds, i, k, x, e1, e2, e3, z1, z2, z3, z4, q⟩ => ⟨n, ds, i, k, x, e1, e2, e3, z1, z2, z3, z4, h _ _ q⟩
  on := fun {H io F st v vs d ds Q} R n1 n2 ⟨n, ds', i, k, x, e1, e2, e3, z1, z2, z3, z4, q⟩ => by
    subst e1 e2
    cases n1 with
    | ref h =>
      obtain ⟨y, rfl, ny⟩ := n2.one
      cases ny
      obtain ⟨xs, h1, h2, h3⟩ := R.at h e3
      obtain ⟨y, h4, h5⟩ := h2.get z4
      obtain ⟨R', s⟩ := R.writeL (ds' := ds'.eraseIdx k) h e3 (h2.erase k) (Nat.le_trans (erase_le _ _) h3)
      exact ⟨_, xs, i, k, y, rfl, rfl, h1, z1, z2, by rw [h2.length]; exact (ixN_seq z3).1, h4, q _ _ _ _ s R' (s.den h5)⟩
def mExtend : RMD := fun d xs st Q => ∃ n ds x es, d = .ref n ∧ xs = [x] ∧ st[n]? = some (.lst ds) ∧ rd st x = .lst es ∧ ds.length + es.length ≤ sizeLine ∧ Q .non (st.set n (.lst (ds ++ es)))
theorem z_extend {K : PySem.W.Frag} : RzM K rExtend mExtend where
  mo := fun _ _ _ _ _ h ⟨n, ds, x, es, e1, e2, e3, e4, z, q⟩ => ⟨n, ds, x, es, e1, e2, e3, e4, z, h _ _ q⟩
  on := fun {H io F st v vs d ds Q} R n1 n2 ⟨n, ds', x, es, e1, e2, e3, e4, z, q⟩ => by
    subst e1 e2
    cases n1 with
    | ref h =>
      obtain ⟨y, rfl, ny⟩ := n2.one
      obtain ⟨xs, h1, h2, h3⟩ := R.at h e3
      obtain ⟨b, ys, rfl, h5, h6, _⟩ := rd_lst R ny e4
      obtain ⟨R', s⟩ := R.writeL (ds' := ds' ++ es) h e3 (h2.append h6) (by rw [List.length_append]; exact z)
      exact ⟨_, b, xs, ys, rfl, rfl, h1, h5, by rw [h2.length, h6.length]; exact z, q _ _ _ _ s R' .non⟩
def gSet (wo wi : DE) : DG := fun d env st Q => wo env st fun o s1 => wi env s1 fun i s2 => ∃ n ds k j, o = .ref n ∧ i = .int k ∧ s2[n]? = some (.lst ds) ∧ ixN ds.length k = some j ∧ Q env (s2.set n (.lst (ds.set j d)))
section
variable {X : Cx} {pos : Pos} {o i : Expr} {wo wi : DE}
theorem wg_sub (ho : WE X o wo) (hi : WE X i wi)
    (ha : ∀ v, assign (.Subscript o i pos) X.env v = (do
      let ov ← holding [v] (eval o X.env)
      let iv ← holding [v, ov] (eval i X.env)
      standAt pos
      holding [v, ov, iv] (setItem ov iv v)
      release [v, ov, iv] []) := by intro _; rfl) : WG X (.Subscript o i pos) (gSet wo wi) := by
  refine ⟨fun _ _ _ _ _ h q => ho.mo _ _ _ _ (fun _ _ q => hi.mo _ _ _ _ (fun _ _ ⟨n, ds, k, j, e1, e2, e3, e4, q⟩ => ⟨n, ds, k, j, e1, e2, e3, e4, h _ _ q⟩) q) q, PG_imp (pg_sub ho.pe hi.pe set_list ha) fun v σ H Q ⟨d, env, io, F, st, R, n1, q⟩ => ?_⟩
  refine tE_use ho.mo R q fun o s1 vo io1 F1 H1 q1 t1 R1 no => ?_
  refine tE_use hi.mo R1 q1 fun ix s2 vi io2 F2 H2 q2 t2 R2 ni => ?_
  obtain ⟨n, ds, k, j, e1, e2, e3, e4, q2⟩ := q2
  subst e1 e2
  cases ni
  cases no with
  | ref h =>
    have h' := t2.ix _ _ h
    obtain ⟨xs, h1, h2, h3⟩ := R2.at h' e3
    obtain ⟨R', s⟩ := R2.writeL (ds' := ds.set j d) h' e3 (h2.setAt j ((t1.trans t2).den n1)) (by rw [List.length_set]; exact h3)
    exact ⟨_, xs, k, j, rfl, rfl, h1, by rw [h2.length]; exact e4, q2 _ _ _ _ ((t1.trans t2).trans s) (R2.next s R')⟩
end
end DL
namespace DL
open PySem PySem.Spec PyProof.Rows L2
variable [Bs]
section
variable {X : Cx} {pos spos : Pos} {elt tg iter : Expr} {ifs : List Expr} {scope : Scope} {own : List (Str × Nat)} {wi : DI} {t : Tg} {c : DT} {w : DE} {m : Bool}
theorem moComp (mi : MoI wi) (mc : MoT c) (mw : MoE w) {vs : List Nat} : MoE (wComp m wi t c w vs) := fun _ _ _ _ h q => mi _ _ _ _ (fun _ _ _ ⟨z, q⟩ => ⟨z, moCompL mc mw (fun _ _ q => newL_mo h q) _ _ _ q⟩) q
theorem we_lc (hc : X.calm = true) (hN : X.N.Nodup) (hi : WI X tg iter wi) (ok : BlkOk X.N X.env.scope scope own) (hv : ∀ i ∈ t.ix, i ∈ own.map (·.2))
    (hg : ∀ (s : Shared) (H : Hp) (C : Addr) (cl : List (Str × Addr)) (fp : List Addr), PG (X.blk s H scope (compEnvC scope cl C X.env) fp) tg (t.tg X.K))
    (ht : ∀ (s : Shared) (H : Hp) (C : Addr) (cl : List (Str × Addr)) (fp : List Addr), WTs (X.blk s H scope (compEnvC scope cl C X.env) fp) ifs c)
    (he : ∀ (s : Shared) (H : Hp) (C : Addr) (cl : List (Str × Addr)) (fp : List Addr), WE (X.blk s H scope (compEnvC scope cl C X.env) fp) elt w) (hs : ∀ x, foldedSetIterable iter X.env x = pure x := by intro _; rfl) :
    WE X (.ListComp elt [⟨tg, iter, ifs, 0⟩] scope pos) (wComp m wi t c w (own.map (·.2))) :=
  ⟨moComp hi.mo (ht X.s_0 X.H_0 0 [] []).mo (he X.s_0 X.H_0 0 [] []).mo, PE_imp (pe_lc hc hN hi.pe ok hg (fun s H C cl fp => (ht s H C cl fp).pe) (fun s H C cl fp => (he s H C cl fp).pe) hs) fun σ H Q h =>
    tLc_of hi.mo (ht X.s_0 X.H_0 0 [] []).mo (he X.s_0 X.H_0 0 [] []).mo hv h⟩
theorem ws_setLc {i : Nat} {y : Str} {py : Pos} (hc : X.calm = true) (hN : X.N.Nodup) (hy : X.N[i]? = some y) (hyl : X.env.scope.names.lookup y = some .local)
    (hsw : swapsWith (.ListComp elt [⟨tg, iter, ifs, 0⟩] scope pos) (some (.Name y py)) spos.line X.env = pure true) (hi : WI X tg iter wi) (ok : BlkOk X.N X.env.scope scope own) (hv : ∀ i ∈ t.ix, i ∈ own.map (·.2))
    (hg : ∀ (s : Shared) (H : Hp) (C : Addr) (cl : List (Str × Addr)) (fp : List Addr), PG (X.blk s H scope (compEnvC scope cl C X.env) fp) tg (t.tg X.K))
    (ht : ∀ (s : Shared) (H : Hp) (C : Addr) (cl : List (Str × Addr)) (fp : List Addr), WTs (X.blk s H scope (compEnvC scope cl C X.env) fp) ifs c)
    (he : ∀ (s : Shared) (H : Hp) (C : Addr) (cl : List (Str × Addr)) (fp : List Addr), WE (X.blk s H scope (compEnvC scope cl C X.env) fp) elt w) (hs : ∀ x, foldedSetIterable iter X.env x = pure x := by intro _; rfl) :
    WS X (.Assign [.Name y py] (.ListComp elt [⟨tg, iter, ifs, 0⟩] scope pos) spos) (wAsg (wComp m wi t c w (own.map (·.2))) (gNm i)) := by
  have mo := moComp (m := m) (t := t) (vs := own.map (·.2)) hi.mo (ht X.s_0 X.H_0 0 [] []).mo (he X.s_0 X.H_0 0 [] []).mo
  refine ⟨fun _ _ _ _ l q => mo _ _ _ _ (fun _ _ q => l.nx _ _ q) q, PS_imp (ps_setLc (te := tE X.K w) (tt := tT X.K c) hc hN hy hyl hsw hi.pe ok hg (fun s H C cl fp => (ht s H C cl fp).pe) (fun s H C cl fp => (he s H C cl fp).pe) hs) fun D σ H ⟨env, io, F, st, R, q⟩ => ?_⟩
  show tLc _ _ _ _ _ σ H _
  refine tLc_of (m := m) (Q := fun x H1 => gName i x σ H1 D.nx) hi.mo (ht X.s_0 X.H_0 0 [] []).mo (he X.s_0 X.H_0 0 [] []).mo hv ?_
  exact tE_use mo R q fun d s1 v io1 F1 H1 q1 t1 R1 n1 => q1 _ _ _ _ t1 (R1.set n1)
end
def startE (N : List Str) (ds : List D) : En := ds.map some ++ List.replicate (N.length - ds.length) none
omit [Bs] in
theorem start_rel {K : PySem.W.Frag} {H : Hp} {io : List Addr} {F : Hp} {st : Sto} {N : List Str} {vs : List V} {ds : List D} (R : RelH K H io F st) (n : DenL K io F vs ds) : @Rel ⟨H, io, F⟩ K (L2.start N vs) H (startE N ds) io F st :=
  letI : Bs := ⟨H, io, F⟩
  { R with
    bs := Stp.refl
    sl := by unfold L2.start startE; simp [n.length]
    slot := fun i d e => by
      unfold startE at e
      unfold L2.start
      by_cases hi : i < ds.length
      · rw [List.getElem?_append_left (by simpa using hi)] at e
        rw [List.getElem?_append_left (by rw [List.length_map, n.length]; exact hi)]
        rw [List.getElem?_map] at e ⊢
        cases q : ds[i]? with
        | none => rw [q] at e; cases e
        | some d' =>
          rw [q] at e
          cases e
          obtain ⟨v, h1, h2⟩ := n.get q
          exact ⟨v, by rw [h1]; rfl, h2⟩
      · rw [List.getElem?_append_right (by simpa using hi)] at e
        have := List.mem_of_getElem? e
        rw [List.mem_replicate] at this
        cases this.2 }
/-- how a body ends -/
def bodyEnds (post : D → Sto → Prop) : DEnds := ⟨fun _ st => post .non st, post, fun _ _ => False, fun _ _ => False⟩
section
variable {P : Program} {w : World} {K : PySem.W.Frag} {mg : Str → Option Value} {base : Heap}
omit [Bs] in
theorem fn_ok {x qual : Str} {st : Stmt} {f : Addr} {fd : FuncData} {N ps : List Str} {k : Nat} {S : Spec} {wb : DS} (F : Fun K x qual st f fd) (sc : FnScope N ps (defScope st)) (hn : S.n = ps.length)
    (body : ∀ [Bs] (cdv : Value) (A : Around) (outer : List Env) (s : Shared) (H : Hp) (E : XK), Room k (A.deeper (envOfC qual (defScope st) s.heap.objs.size f cdv)) → A.guards = some [] → WB (cxOf CX0 P w K mg base N qual (defScope st) f cdv A outer s H E).nox (defBody st) wb)
    (vc : ∀ g sto, (S.args g).length = S.n → S.pre g sto → wb (bodyEnds (S.post g sto)) (startE N (S.args g)) sto) : FnG P w K mg base CX0 (k + 1) f fd ps (spOf K S) := by
  refine fnG_of F sc (fun vs H Q E h => ?_) (fun cdv A outer s H vs Q E _ hr hgd h => ?_)
  · obtain ⟨g, io, Fz, sto, z, R, n, p, q⟩ := h
    rw [n.length, z, hn]
  · obtain ⟨g, io, Fz, sto, z, R, n, p, q⟩ := h
    letI : Bs := ⟨H, io, Fz⟩
    have B := body cdv A outer s H E hr hgd
    refine ⟨_, B.pe.nox, startE N (S.args g), io, Fz, sto, start_rel R n, B.mo (bodyEnds (S.post g sto)) _ _ _ ?_ (vc g sto z p)⟩
    refine ⟨fun e s h => ?_, fun d s h => ?_, fun e s h => h.elim, fun e s h => h.elim⟩
    · exact fun σ' io' F' H' t R' => q .non s h .non io' F' H' t R'.toRelH .non
    · exact q d s h
mutual
def D.blw (n : Nat) : D → Bool
  | .tup ds => D.blwL n ds
  | .lst ds => D.blwL n ds
  | .scr ds => D.blwL n ds
  | .ref k => decide (k < n)
  | .fn _ io0 _ => decide (0 < n ∧ io0.length ≤ n)
  | .exc _ _ ds => decide (0 < n) && D.blwL n ds
  | .non => true
  | .bl _ => true
  | .int _ => true
  | .str _ => true
  | .dct _ => true
def D.blwL (n : Nat) : List D → Bool
  | [] => true
  | d :: r => d.blw n && D.blwL n r
end
def Cel.blw (n : Nat) : Cel → Bool
  | .lst ds => D.blwL n ds
  | .dead => true
  | .ins _ fs => D.blwL n (fs.map (·.2))
  | .dct _ _ => true
mutual
theorem Den.cut {K : PySem.W.Frag} {io io' : List Addr} {F : Hp} (h : ∀ (n : Nat) a, n < io.length → io'[n]? = some a → io[n]? = some a) : ∀ {v : V} {d : D}, Den K io' F v d → d.blw io.length = true → Den K io F v d
  | _, _, .non, _ => .non
  | _, _, .bl b, _ => .bl b
  | _, _, .int i, _ => .int i
  | _, _, .str x, _ => .str x
  | _, _, .dct e, _ => .dct e
  | _, _, .tup s r z, b => .tup s (DenL.cut h r (by simpa only [D.blw] using b)) z
  | _, _, .lst s r z, b => .lst s (DenL.cut h r (by simpa only [D.blw] using b)) z
  | _, _, .scr s r z, b => .scr s (DenL.cut h r (by simpa only [D.blw] using b)) z
  | _, _, .ref e, b => .ref (h _ _ (by simpa only [D.blw, decide_eq_true_eq] using b) e)
  | _, _, .fn e1 e2, b => .fn (fun n a e => h n a (Nat.lt_of_lt_of_le (List.getElem?_eq_some_iff.mp e).1 (of_decide_eq_true (show decide (0 < io.length ∧ _) = true by simpa only [D.blw] using b)).2) (e1 n a e)) e2
  | _, _, .exc n e x a1 a2 r, b => .exc n e x a1 a2 (DenL.cut h r (by simp only [D.blw, Bool.and_eq_true] at b; exact b.2))
theorem DenL.cut {K : PySem.W.Frag} {io io' : List Addr} {F : Hp} (h : ∀ (n : Nat) a, n < io.length → io'[n]? = some a → io[n]? = some a) : ∀ {vs : List V} {ds : List D}, DenL K io' F vs ds → D.blwL io.length ds = true → DenL K io F vs ds
  | _, _, .nil, _ => .nil
  | _, _, .cons a b, q => by
    simp only [D.blwL, Bool.and_eq_true] at q
    exact .cons (Den.cut h a q.1) (DenL.cut h b q.2)
end
mutual
theorem Den.blw {K : PySem.W.Frag} {io : List Addr} {F : Hp} (h0 : 0 < io.length) : ∀ {v : V} {d : D}, Den K io F v d → d.blw io.length = true
  | _, _, .non => rfl
  | _, _, .bl b => rfl
  | _, _, .int i => rfl
  | _, _, .str x => rfl
  | _, _, .dct e => rfl
  | _, _, .tup s r z => by simpa only [D.blw] using DenL.blw h0 r
  | _, _, .lst s r z => by simpa only [D.blw] using DenL.blw h0 r
  | _, _, .scr s r z => by simpa only [D.blw] using DenL.blw h0 r
  | _, _, .ref e => by simpa only [D.blw, decide_eq_true_eq] using (List.getElem?_eq_some_iff.mp e).1
  | _, _, .exc n e x a1 a2 r => by
    simp only [D.blw, Bool.and_eq_true, decide_eq_true_eq]
    exact ⟨h0, DenL.blw h0 r⟩
  | _, _, @Den.fn _ _ _ _ io0 _ e1 _ => by
    simp only [D.blw, decide_eq_true_eq]
    rcases Nat.lt_or_ge io.length io0.length with q | q
    · have h1 : io0[io.length]? = some io0[io.length] := List.getElem?_eq_getElem q
      exact absurd (List.getElem?_eq_some_iff.mp (e1 _ _ h1)).1 (Nat.lt_irrefl _)
    · exact ⟨h0, q⟩
theorem DenL.blw {K : PySem.W.Frag} {io : List Addr} {F : Hp} (h0 : 0 < io.length) : ∀ {vs : List V} {ds : List D}, DenL K io F vs ds → D.blwL io.length ds = true
  | _, _, .nil => rfl
  | _, _, .cons a b => by simp only [D.blwL, Bool.and_eq_true]; exact ⟨Den.blw h0 a, DenL.blw h0 b⟩
end
theorem DenF.cut {K : PySem.W.Frag} {io io' : List Addr} {F : Hp} (h : ∀ (n : Nat) a, n < io.length → io'[n]? = some a → io[n]? = some a) : ∀ {vs : List (Str × V)} {ds : List (Str × D)}, DenF K io' F vs ds → D.blwL io.length (ds.map (·.2)) = true → DenF K io F vs ds
  | _, _, .nil, _ => .nil
  | _, _, .cons a b, q => by
    simp only [List.map_cons, D.blwL, Bool.and_eq_true] at q
    exact .cons ⟨a.1, a.2.cut h q.1⟩ (DenF.cut h b q.2)
theorem DenF.blw {K : PySem.W.Frag} {io : List Addr} {F : Hp} (h0 : 0 < io.length) : ∀ {vs : List (Str × V)} {ds : List (Str × D)}, DenF K io F vs ds → D.blwL io.length (ds.map (·.2)) = true
  | _, _, .nil => rfl
  | _, _, .cons a b => by simp only [List.map_cons, D.blwL, Bool.and_eq_true]; exact ⟨a.2.blw h0, DenF.blw h0 b⟩
/-- the end of a def that forgets its own cells: the cells that were there, and what is handed back, know nothing of them -/
def popEnds (n : Nat) (st0 : Sto) (post : D → Sto → Prop) : D → Sto → Prop := fun d st' => ∃ st1 ex, st' = st1 ++ ex ∧ st1.length = n ∧ d.blw n = true ∧ (∀ (i : Nat) c, st1[i]? = some c → st0[i]? = some c ∨ c.blw n = true) ∧ post d st1
theorem pop_rel {K : PySem.W.Frag} {H H' : Hp} {io io' : List Addr} {F F' : Hp} {st st1 ex : Sto} (R : RelH K H io F st) (t : Stp H io F H' io' F') (R' : RelH K H' io' F' (st1 ++ ex)) (hl : st1.length = st.length)
    (hb : ∀ (i : Nat) c, st1[i]? = some c → st[i]? = some c ∨ c.blw st.length = true) : RelH K H' io F' st1 ∧ Stp H io F H' io F' := by
  obtain ⟨more, em, hm⟩ := t.ext
  have cutH : ∀ (n : Nat) a, n < io.length → io'[n]? = some a → io[n]? = some a := fun n a h e => by
    rw [em, List.getElem?_append_left h] at e; exact e
  have mem' : ∀ a ∈ io, a ∈ io' := fun a h => by rw [em]; exact List.mem_append_left _ h
  refine ⟨⟨R'.sub, by rw [hl]; exact R.len, R.nd, fun a ha => R'.there a (mem' a ha), fun n c a h1 h2 => ?_, fun q hq => let ⟨t1, t2, r⟩ := R'.tab q hq; ⟨t1, fun h => t2 (mem' _ h), r⟩⟩, ⟨⟨[], by simp, fun _ h => by cases h⟩, t.fr, t.keep, t.dom, t.fnw⟩⟩
  have hn : n < st1.length := (List.getElem?_eq_some_iff.mp h1).1
  have q := R'.cel n c a (by rw [List.getElem?_append_left hn]; exact h1) (t.ix _ _ h2)
  have b : c.blw io.length = true := by
    rw [R.len]
    rcases hb n c h1 with e | e
    · have z := R.cel n c a e h2
      have h0 : 0 < io.length := Nat.lt_of_le_of_lt (Nat.zero_le _) (List.getElem?_eq_some_iff.mp h2).1
      rw [← R.len]
      cases c with
      | lst ds => obtain ⟨_, _, vs, _, z⟩ := z; exact z.blw h0
      | dead => rfl
      | ins C fs => obtain ⟨_, _, dx, fv, _, _, z⟩ := z; exact DenF.blw h0 z
      | dct b kvs => rfl
    · exact e
  cases c with
  | lst ds => obtain ⟨q1, q2, vs, q3, q4⟩ := q; exact ⟨q1, q2, vs, q3, q4.cut cutH b⟩
  | dead => trivial
  | ins C fs => obtain ⟨q1, cc, dx, fv, qc, q3, q4⟩ := q; exact ⟨q1, cc, dx, fv, qc, q3, DenF.cut cutH q4 b⟩
  | dct b kvs => exact q
omit [Bs] in
theorem fn_okP {x qual : Str} {st : Stmt} {f : Addr} {fd : FuncData} {N ps : List Str} {k : Nat} {S : Spec} {wb : DS} (F : Fun K x qual st f fd) (sc : FnScope N ps (defScope st)) (hn : S.n = ps.length)
    (body : ∀ [Bs] (cdv : Value) (A : Around) (outer : List Env) (s : Shared) (H : Hp) (E : XK), Room k (A.deeper (envOfC qual (defScope st) s.heap.objs.size f cdv)) → A.guards = some [] → WB (cxOf CX0 P w K mg base N qual (defScope st) f cdv A outer s H E).nox (defBody st) wb)
    (vc : ∀ g sto, (S.args g).length = S.n → S.pre g sto → wb (bodyEnds (popEnds sto.length sto (S.post g sto))) (startE N (S.args g)) sto) : FnG P w K mg base CX0 (k + 1) f fd ps (spOf K S) := by
  refine fnG_of F sc (fun vs H Q E h => ?_) (fun cdv A outer s H vs Q E _ hr hgd h => ?_)
  · obtain ⟨g, io, Fz, sto, z, R, n, p, q⟩ := h
    rw [n.length, z, hn]
  · obtain ⟨g, io, Fz, sto, z, R, n, p, q⟩ := h
    letI : Bs := ⟨H, io, Fz⟩
    have B := body cdv A outer s H E hr hgd
    refine ⟨_, B.pe.nox, startE N (S.args g), io, Fz, sto, start_rel R n, B.mo (bodyEnds (popEnds sto.length sto (S.post g sto))) _ _ _ ?_ (vc g sto z p)⟩
    have fin : ∀ {d : D} {s : Sto} {v : V} {io' : List Addr} {F' H' : Hp}, popEnds sto.length sto (S.post g sto) d s → Stp H io Fz H' io' F' → RelH K H' io' F' s → Den K io' F' v d → Q v H' := fun {d s v io' F' H'} h t R' nd => by
      obtain ⟨st1, ex, rfl, hl, hd, hb, h⟩ := h
      obtain ⟨R2, t2⟩ := pop_rel R t R' hl hb
      refine q d st1 h v io F' H' t2 R2 (nd.cut (fun n a h e => ?_) (by rw [R.len]; exact hd))
      obtain ⟨more, em, hm⟩ := t.ext
      rw [em, List.getElem?_append_left h] at e
      exact e
    refine ⟨fun e s h => ?_, fun d s h => ?_, fun e s h => h.elim, fun e s h => h.elim⟩
    · exact fun σ' io' F' H' t R' => fin h t R'.toRelH .non
    · exact fun v io' F' H' t R' nd => fin h t R' nd
end
end DL
namespace DL
open PySem PySem.Spec PyProof.Rows L2
variable [Bs]
def lexG (r : Int → Int → Bool) (z : Nat → Nat → Bool) : List Int → List Int → Bool
  | x :: xs, y :: ys => if x = y then lexG r z xs ys else r x y
  | xs, ys => z xs.length ys.length
theorem lexAt_shift (e r : Nat → Bool) (z : Bool) : ∀ (k i : Nat), Ob.lexAt e r z (i + 1) k = Ob.lexAt (fun j => e (j + 1)) (fun j => r (j + 1)) z i k
  | 0, i => rfl
  | k + 1, i => by rw [Ob.lexAt_succ, Ob.lexAt_succ, lexAt_shift e r z k (i + 1)]
theorem lexAt_G (r : Int → Int → Bool) (z : Nat → Nat → Bool) (hz : ∀ a b, z (a + 1) (b + 1) = z a b) : ∀ ns ms : List Int,
    Ob.lexAt (fun j => decide (ns.getD j 0 = ms.getD j 0)) (fun j => r (ns.getD j 0) (ms.getD j 0)) (z ns.length ms.length) 0 (min ns.length ms.length) = lexG r z ns ms
  | [], ms => by
    rw [show min ([] : List Int).length ms.length = 0 by simp]
    cases ms <;> rfl
  | x :: xs, [] => rfl
  | x :: xs, y :: ys => by
    rw [show min (x :: xs).length (y :: ys).length = min xs.length ys.length + 1 by simp only [List.length_cons]; omega, Ob.lexAt_succ, lexAt_shift]
    simp only [List.getD_cons_zero, List.getD_cons_succ, List.length_cons, hz]
    rw [lexAt_G r z hz xs ys]
    by_cases h : x = y
    · simp [lexG, h]
    · simp [lexG, h]
theorem lexG_lt : ∀ ns ms : List Int, lexG (fun x y => decide (x < y)) (fun a b => decide (a < b)) ns ms = HT.lexLt ns ms
  | [], [] => rfl
  | [], _ :: _ => by simp [lexG, HT.lexLt]
  | _ :: _, [] => by simp [lexG, HT.lexLt]
  | x :: xs, y :: ys => by simp only [lexG, HT.lexLt]; rw [lexG_lt xs ys]
theorem lexG_gt : ∀ ns ms : List Int, lexG (fun x y => decide (x > y)) (fun a b => decide (a > b)) ns ms = HT.lexLt ms ns
  | [], [] => rfl
  | [], _ :: _ => by simp [lexG, HT.lexLt]
  | _ :: _, [] => by simp [lexG, HT.lexLt]
  | x :: xs, y :: ys => by
    simp only [lexG, HT.lexLt]
    rw [lexG_gt xs ys]
    by_cases h : x = y
    · simp [h]
    · have h' : ¬ y = x := fun e => h e.symm
      simp [h, h']
theorem lexG_le : ∀ ns ms : List Int, lexG (fun x y => decide (x ≤ y)) (fun a b => decide (a ≤ b)) ns ms = !HT.lexLt ms ns
  | [], [] => rfl
  | [], _ :: _ => by simp [lexG, HT.lexLt]
  | _ :: _, [] => by simp [lexG, HT.lexLt]
  | x :: xs, y :: ys => by
    simp only [lexG, HT.lexLt]
    rw [lexG_le xs ys]
    by_cases h : x = y
    · simp [h]
    · have h' : ¬ y = x := fun e => h e.symm
      simp only [h, h', if_false]
      by_cases q : x ≤ y
      · have : ¬ y < x := by omega
        simp [q, this]
      · have : y < x := by omega
        simp [q, this]
theorem lexG_ge : ∀ ns ms : List Int, lexG (fun x y => decide (x ≥ y)) (fun a b => decide (a ≥ b)) ns ms = !HT.lexLt ns ms
  | [], [] => rfl
  | [], _ :: _ => by simp [lexG, HT.lexLt]
  | _ :: _, [] => by simp [lexG, HT.lexLt]
  | x :: xs, y :: ys => by
    simp only [lexG, HT.lexLt]
    rw [lexG_ge xs ys]
    by_cases h : x = y
    · simp [h]
    · simp only [h, if_false]
      by_cases q : x ≥ y
      · have : ¬ x < y := by omega
        simp [q, this]
      · have : x < y := by omega
        simp [q, this]
def rCmpT (K : PySem.W.Frag) (f : List Int → List Int → Bool) : R2 := fun x y H Q => ∃ (a b : Addr) (ns ms : List Int), x = .ref a ∧ y = .ref b ∧ SqT K H a (ns.map V.int) ∧ SqT K H b (ms.map V.int) ∧ Q (.bl (f ns ms)) H
theorem tupsOf {X : Cx} {pins : List (Addr × Obj)} {s : Shared} {σ : L2.St} {H : Hp} {a : Addr} {ns : List Int} (I : Inv X pins σ H s) (ha : SqT X.K H a (ns.map V.int)) :
    ∃ its : Array Value, s.heap.IsTuple a its ∧ its.size = ns.length ∧ ∀ j (h : j < its.size), ∃ t, its[j] = .int (ns.getD j 0) t := by
  obtain ⟨its, r1, p1, _⟩ := I.tuple ha
  have i1 : IntsAre its ns := Vals.ints r1
  exact ⟨its.toArray, p1, by rw [List.size_toArray]; exact i1.length, fun j h1 => PyProof.Rows.IntsAre.int_at i1 _ _ (by simp at h1; simp [h1])⟩
theorem op_cmpT {X : Cx} {op : CmpOp} (r : Int → Int → Bool) (z : Nat → Nat → Bool) (hz : ∀ a b, z (a + 1) (b + 1) = z a b) (hop : ∀ v u, compareOp op v u = richCompare op v u)
    (base : ∀ (A : Around) (s : Shared) (i j : Int) (t u : Tok), Ob.RcOp op A s (.int i t) (.int j u) (r i j))
    (tups : ∀ {A : Around} {s : Shared} {l b : Addr} {items items2 : Array Value} {e r : Nat → Bool}, s.heap.IsTuple l items → s.heap.IsTuple b items2 → A.units < cLine → (∀ j (h1 : j < items.size) (h2 : j < items2.size), SeqAt.EqAt A.in1 s items[j] items2[j] (e j)) →
      (∀ j (h1 : j < items.size) (h2 : j < items2.size), e j = false → Ob.RcOp op A.in1 s items[j] items2[j] (r j)) → Ob.RcOp op A s (.ref l) (.ref b) (Ob.lexAt e r (z items.size items2.size) 0 (min items.size items2.size)))
    (hu : X.A.units < cLine) : OpR X (compareOp op) (rCmpT X.K (lexG r z)) := by
  intro pins s σ H x y v u Q I rx ry h
  obtain ⟨a, b, ns, ms, rfl, rfl, ha, hb, q⟩ := h
  cases rx
  cases ry
  obtain ⟨its, p1, z1, g1⟩ := tupsOf I ha
  obtain ⟨its2, p2, z2, g2⟩ := tupsOf I hb
  have R := tups (e := fun j => decide (ns.getD j 0 = ms.getD j 0)) (r := fun j => r (ns.getD j 0) (ms.getD j 0)) p1 p2 hu (fun j h1 h2 => by
    obtain ⟨t, et⟩ := g1 j h1
    obtain ⟨t', et'⟩ := g2 j h2
    rw [et, et', ← Bool.beq_eq_decide_eq]
    exact SeqAt.EqAt.int_int _ _ _ _) (fun j h1 h2 _ => by
    obtain ⟨t, et⟩ := g1 j h1
    obtain ⟨t', et'⟩ := g2 j h2
    rw [et, et']
    exact base _ _ _ _ _ _)
  rw [z1, z2, lexAt_G r z hz] at R
  rw [hop]
  exact R X.prog X.w X.xe _ ⟨.bl _, H, I, rfl, q⟩
theorem op_ltD {X : Cx} (hu : X.A.units < cLine) : OpR X (compareOp .Lt) (fun x y H Q => rI0 (fun i j => .bl (decide (i < j))) x y H Q ∨ rCmpT X.K (lexG (fun x y => decide (x < y)) (fun a b => decide (a < b))) x y H Q) :=
  op_lt.or (op_cmpT _ (fun a b => decide (a < b)) (fun a b => by simp) (fun _ _ => rfl) (fun _ _ _ _ _ _ => Ob.RcOp.lt_int _ _ _ _) Ob.RcOp.tuples_lt hu)
theorem op_gtD {X : Cx} (hu : X.A.units < cLine) : OpR X (compareOp .Gt) (fun x y H Q => rI0 (fun i j => .bl (decide (j < i))) x y H Q ∨ rCmpT X.K (lexG (fun x y => decide (x > y)) (fun a b => decide (a > b))) x y H Q) :=
  op_gt.or (op_cmpT _ (fun a b => decide (a > b)) (fun a b => by simp) (fun _ _ => rfl) (fun _ _ _ _ _ _ => Ob.RcOp.gt_int _ _ _ _) Ob.RcOp.tuples_gt hu)
theorem op_leD {X : Cx} (hu : X.A.units < cLine) : OpR X (compareOp .LtE) (fun x y H Q => rI0 (fun i j => .bl (decide (i ≤ j))) x y H Q ∨ rCmpT X.K (lexG (fun x y => decide (x ≤ y)) (fun a b => decide (a ≤ b))) x y H Q) :=
  op_le.or (op_cmpT _ (fun a b => decide (a ≤ b)) (fun a b => by simp) (fun _ _ => rfl) (fun _ _ _ _ _ _ => Ob.RcOp.le_int _ _ _ _) Ob.RcOp.tuples_le hu)
theorem op_geD {X : Cx} (hu : X.A.units < cLine) : OpR X (compareOp .GtE) (fun x y H Q => rI0 (fun i j => .bl (decide (j ≤ i))) x y H Q ∨ rCmpT X.K (lexG (fun x y => decide (x ≥ y)) (fun a b => decide (a ≥ b))) x y H Q) :=
  op_ge.or (op_cmpT _ (fun a b => decide (a ≥ b)) (fun a b => by simp) (fun _ _ => rfl) (fun _ _ _ _ _ _ => Ob.RcOp.ge_int _ _ _ _) Ob.RcOp.tuples_ge hu)
def dCmp (p : Int → Int → Bool) (f : List Int → List Int → Bool) : R2D := fun a b st Q => match a, b with
  | .int i, .int j => Q (.bl (p i j)) st
  | .tup x, .tup y => ∃ ns ms, D.ints x = some ns ∧ D.ints y = some ms ∧ Q (.bl (f ns ms)) st
  | _, _ => False
theorem z_cmp {K : PySem.W.Frag} {p : Int → Int → Bool} {f g : List Int → List Int → Bool} (h : ∀ ns ms, g ns ms = f ns ms) : Rz K (fun x y H Q => rI0 (fun i j => .bl (p i j)) x y H Q ∨ rCmpT K g x y H Q) (dCmp p f) where
  mo := fun a b s Q Q' h q => by
    unfold dCmp at q ⊢
    split at q
    · exact h _ _ q
    · obtain ⟨ns, ms, e1, e2, q⟩ := q; exact ⟨ns, ms, e1, e2, h _ _ q⟩
    · exact q
  on := fun {H io F st x y a b Q} R n1 n2 q => by
    unfold dCmp at q
    split at q
    · cases n1
      cases n2
      exact .inl ⟨_, _, rfl, rfl, kE_now R (.bl _) q⟩
    · obtain ⟨ns, ms, e1, e2, q⟩ := q
      cases ints_eq e1
      cases ints_eq e2
      cases n1 with
      | tup s1 r1 _ =>
        cases n2 with
        | tup s2 r2 _ =>
          rw [den_ints r1] at s1
          rw [den_ints r2] at s2
          refine .inr ⟨_, _, ns, ms, rfl, rfl, SqT_mono R.sub s1.t, SqT_mono R.sub s2.t, ?_⟩
          rw [h]
          exact kE_now R (.bl _) q
    · exact q.elim
def dLt : R2D := dCmp (fun i j => decide (i < j)) HT.lexLt
def dGt : R2D := dCmp (fun i j => decide (j < i)) fun ns ms => HT.lexLt ms ns
def dLe : R2D := dCmp (fun i j => decide (i ≤ j)) fun ns ms => !HT.lexLt ms ns
def dGe : R2D := dCmp (fun i j => decide (j ≤ i)) fun ns ms => !HT.lexLt ns ms
theorem z_lt {K : PySem.W.Frag} : Rz K (fun x y H Q => rI0 (fun i j => .bl (decide (i < j))) x y H Q ∨ rCmpT K (lexG (fun x y => decide (x < y)) (fun a b => decide (a < b))) x y H Q) dLt := z_cmp (p := fun i j => decide (i < j)) lexG_lt
theorem z_gt {K : PySem.W.Frag} : Rz K (fun x y H Q => rI0 (fun i j => .bl (decide (j < i))) x y H Q ∨ rCmpT K (lexG (fun x y => decide (x > y)) (fun a b => decide (a > b))) x y H Q) dGt := z_cmp (p := fun i j => decide (j < i)) lexG_gt
theorem z_le {K : PySem.W.Frag} : Rz K (fun x y H Q => rI0 (fun i j => .bl (decide (i ≤ j))) x y H Q ∨ rCmpT K (lexG (fun x y => decide (x ≤ y)) (fun a b => decide (a ≤ b))) x y H Q) dLe := z_cmp (p := fun i j => decide (i ≤ j)) lexG_le
theorem z_ge {K : PySem.W.Frag} : Rz K (fun x y H Q => rI0 (fun i j => .bl (decide (j ≤ i))) x y H Q ∨ rCmpT K (lexG (fun x y => decide (x ≥ y)) (fun a b => decide (a ≥ b))) x y H Q) dGe := z_cmp (p := fun i j => decide (j ≤ i)) lexG_ge
mutual
/-- no list, no cell within; dicts are allowed -/
def D.okd : D → Bool
  | .non => true
  | .bl _ => true
  | .int _ => true
  | .str _ => true
  | .tup ds => D.okdL ds
  | .lst _ => false
  | .scr _ => false
  | .dct _ => true
  | .ref _ => false
  | .fn _ _ _ => false
  | .exc _ _ _ => false
def D.okdL : List D → Bool
  | [] => true
  | d :: r => d.okd && D.okdL r
end
mutual
inductive DpD (K : PySem.W.Frag) (H : Hp) : V → PyData → Prop
  | non : DpD K H .non .none
  | bl (b : Bool) : DpD K H (.bl b) (.bool b)
  | int (i : Int) : DpD K H (.int i) (.int i)
  | str (x : Str) : DpD K H (.str x) (.str x)
  | tup {a : Addr} {xs : List V} {ds : List PyData} : SqT K H a xs → DpDL K H xs ds → DpD K H (.ref a) (.tuple ds)
  | dct {a : Addr} {kvs : List (Key × Key)} : H a = some (.dK (kvs.map fun p => (p.1, kV p.2))) → DpD K H (.ref a) (.dict (kvs.map fun p => (kPy p.1, kPy p.2)))
inductive DpDL (K : PySem.W.Frag) (H : Hp) : List V → List PyData → Prop
  | nil : DpDL K H [] []
  | cons {v : V} {vs : List V} {d : PyData} {ds : List PyData} : DpD K H v d → DpDL K H vs ds → DpDL K H (v :: vs) (d :: ds)
end
theorem key_reads {h : Heap} {k : Key} {v : Value} (r : RelV (kV k) v) : Reads h v (kPy k) [] := by
  cases k with
  | inl i => obtain ⟨t, rfl⟩ := r; exact .int i t
  | inr x => obtain ⟨t, rfl⟩ := r; exact .str x t
theorem pairs_read {h : Heap} : ∀ (kvs : List (Key × Key)) (vs : List (Key × Value)), KV (kvs.map fun p => (p.1, kV p.2)) vs → PyProof.V.PairsRead h kPy vs (kvs.map fun p => (kPy p.1, kPy p.2)) []
  | [], vs, r => by rw [List.map_nil] at r; cases r; exact .nil
  | p :: kvs, vs, r => by
    rw [List.map_cons] at r
    cases r with
    | @cons a b as bs h1 t =>
      obtain ⟨b1, b2⟩ := b
      obtain ⟨e1, e2⟩ := h1
      subst e1
      exact .cons (as := []) (key_reads e2) (pairs_read kvs bs t)
section
variable {X : Cx} {pins : List (Addr × Obj)} {σ : L2.St} {H : Hp} {s : Shared}
mutual
theorem DpD.reads (I : Inv X pins σ H s) : ∀ {v : V} {d : PyData}, DpD X.K H v d → ∀ u : Value, RelV v u → ∃ as, Reads s.heap u d as ∧ sysModules ∉ as
  | _, _, .non, u, r => by cases r; exact ⟨_, .none, by simp⟩
  | _, _, .bl b, u, r => by cases r; exact ⟨_, .bool b, by simp⟩
  | _, _, .int i, u, r => by obtain ⟨t, rfl⟩ := r; exact ⟨_, .int i t, by simp⟩
  | _, _, .str x, u, r => by obtain ⟨t, rfl⟩ := r; exact ⟨_, .str x t, by simp⟩
  | _, _, .tup hs ha, u, r => by
    cases r
    obtain ⟨its, rv, ⟨o, ho, hc, n, hd⟩, _⟩ := I.tuple hs
    obtain ⟨as, hr, hn⟩ := DpDL.reads I ha its rv
    exact ⟨_, Reads.tuple ho hc hd hr, hn⟩
  | _, _, .dct e, u, r => by
    cases r
    obtain ⟨z, hs, vs, rk, hd⟩ := dk_of I.hok e
    refine ⟨_, PyProof.V.reads_dictOf (enc := kPy) (fun k key hk => key_reads (keyIs_rel hk)) hd (pairs_read _ vs rk), ?_⟩
    have hs := beq_eq_false_iff_ne.mp hs
    simp only [List.mem_singleton]
    exact fun z => hs z.symm
theorem DpDL.reads (I : Inv X pins σ H s) : ∀ {vs : List V} {ds : List PyData}, DpDL X.K H vs ds → ∀ us : List Value, Vals vs us → ∃ as, ReadsAll s.heap us ds as ∧ sysModules ∉ as
  | _, _, .nil, us, r => by cases r; exact ⟨_, .nil, by simp⟩
  | _, _, .cons h1 h2, us, r => by
    cases r with
    | cons r1 r2 =>
      obtain ⟨as, q1, n1⟩ := DpD.reads I h1 _ r1
      obtain ⟨bs, q2, n2⟩ := DpDL.reads I h2 _ r2
      exact ⟨_, .cons q1 q2, fun z => (List.mem_append.mp z).elim n1 n2⟩
end
end
section
variable {K : PySem.W.Frag} {io : List Addr} {F H : Hp}
mutual
theorem den_dpd (hs : ∀ a o, F a = some o → H a = some o) : ∀ {v : V} {d : D}, Den K io F v d → d.okd = true → DpD K H v d.py
  | _, _, .non, _ => by simp only [D.py]; exact .non
  | _, _, .bl b, _ => by simp only [D.py]; exact .bl b
  | _, _, .int i, _ => by simp only [D.py]; exact .int i
  | _, _, .str x, _ => by simp only [D.py]; exact .str x
  | _, _, .tup s r _, h => by simp only [D.py]; exact .tup (SqT_mono hs s.t) (den_dpdL hs r (by simpa only [D.okd] using h))
  | _, _, .dct e, _ => by simp only [D.py]; exact .dct (hs _ _ e)
  | _, _, .lst _ _ _, h => by simp [D.okd] at h
  | _, _, .scr _ _ _, h => by simp [D.okd] at h
  | _, _, .ref _, h => by simp [D.okd] at h
  | _, _, .fn _ _, h => by simp [D.okd] at h
theorem den_dpdL (hs : ∀ a o, F a = some o → H a = some o) : ∀ {vs : List V} {ds : List D}, DenL K io F vs ds → D.okdL ds = true → DpDL K H vs (D.pyL ds)
  | _, _, .nil, _ => .nil
  | _, _, .cons a b, h => by
    simp only [D.okdL, Bool.and_eq_true] at h
    exact .cons (den_dpd hs a h.1) (den_dpdL hs b h.2)
end
end
mutual
/-- all numbers below 10 ^ 12 -/
def D.sml : D → Bool
  | .non => true
  | .bl _ => true
  | .int i => decide (i.natAbs < 10 ^ 12)
  | .str s => PyData.leavesShort 13 (.str s)
  | .tup ds => D.smlL ds
  | .lst ds => D.smlL ds
  | .scr ds => D.smlL ds
  | .dct kvs => (PyData.dict (kvs.map fun p => (kPy p.1, kPy p.2))).leavesShort 13 && (PyData.dict (kvs.map fun p => (kPy p.1, kPy p.2))).showable
  | .ref _ => false
  | .fn _ _ _ => false
  | .exc _ _ _ => false
def D.smlL : List D → Bool
  | [] => true
  | d :: r => d.sml && D.smlL r
end
mutual
/-- how many things -/
def D.blk : D → Nat
  | .str s => s.cps.size
  | .tup ds => D.blkL ds
  | .lst ds => D.blkL ds
  | .scr ds => D.blkL ds
  | .non => 0
  | .bl _ => 0
  | .int _ => 0
  | .dct kvs => (PyData.dict (kvs.map fun p => (kPy p.1, kPy p.2))).bulk
  | .ref _ => 0
  | .fn _ _ _ => 0
  | .exc _ _ _ => 0
def D.blkL : List D → Nat
  | [] => 0
  | d :: r => d.blk + 1 + D.blkL r
end
def D.rep (d : D) : Str := d.py.shown
def wFrz (i : Nat) : DE := fun env st Q => ∃ n ds, env[i]? = some (some (.ref n)) ∧ st[n]? = some (.lst ds) ∧ Q (.lst ds) (st.set n .dead)
theorem we_frz {X : Cx} {pos : Pos} {i : Nat} {x : Str} (hN : X.N[i]? = some x) (hv : Vis X.env.scope x) (hd : (x == ("__debug__" : Str)) = false := by decide) (hcd : (x == ("__classdict__" : Str)) = false := by decide) : WE X (.Name x pos) (wFrz i) := by
  refine ⟨fun e s Q Q' h ⟨n, ds, h1, h2, q⟩ => ⟨n, ds, h1, h2, h _ _ q⟩, PE_imp (pe_var hN hv hd hcd) fun σ H Q ⟨env, io, F, st, R, n, ds, e1, e2, q⟩ => ?_⟩
  obtain ⟨v, h1, h2⟩ := R.slot i _ e1
  refine ⟨v, h1, ?_⟩
  cases h2 with
  | @ref a _ h =>
    obtain ⟨xs, h3, h4, h5⟩ := R.at h e2
    have hF : F a = none := (R.cel n _ a e2 h).1
    have fr : ∀ b u, F b = some u → upd F a (.lst xs) b = some u := fun b u e => by
      rw [upd_ne (fun z => by subst z; rw [hF] at e; cases e)]; exact e
    have hmem := List.mem_of_getElem? h
    refine q _ io (upd F a (.lst xs)) H ⟨⟨[], by simp, fun _ h => by cases h⟩, fr, fun _ _ h _ _ => h, fun _ o h => ⟨o, h⟩, fun b u e => ?_⟩ ⟨fun b u e => ?_, by rw [List.length_set]; exact R.len, R.nd, R.there, fun m c b hm hb => ?_, fun q hq => let ⟨t1, t2, ps, t3, t4, t5⟩ := R.tab q hq; ⟨by rw [upd_ne (fun z => by rw [z] at t2; exact t2 hmem)]; exact t1, t2, ps, t3, t4, fun pos cv hc => let ⟨c, e1, e2⟩ := t5 pos cv hc; ⟨c, e1, fr _ _ e2⟩⟩⟩ (.lst upd_same (h4.mono (fun _ _ h => h) fr) h5)
    · by_cases z : b = a
      · subst z; exact .inr (.inr hmem)
      · rw [upd_ne z] at e; exact .inl e
    · by_cases z : b = a
      · subst z; rw [upd_same] at e; cases e; exact h3
      · rw [upd_ne z] at e; exact R.sub _ _ e
    · by_cases z : m = n
      · subst z
        have hl : m < st.length := by rw [← R.len]; exact (List.getElem?_eq_some_iff.mp h).1
        rw [List.getElem?_set_self hl] at hm
        cases hm
        trivial
      · rw [List.getElem?_set_ne (Ne.symm z)] at hm
        have ne : b ≠ a := fun e => by subst e; exact z (nodup_at R.nd hb h)
        have := R.cel m c b hm hb
        cases c with
        | lst ds => obtain ⟨q1, q2, vs, q3, q4⟩ := this; exact ⟨by rw [upd_ne ne]; exact q1, q2, vs, q3, q4.mono (fun _ _ h => h) fr⟩
        | dead => trivial
        | ins C fs => obtain ⟨q1, cc, dx, fv, qc, q3, q4⟩ := this; exact ⟨by rw [upd_ne ne]; exact q1, cc, dx, fv, qc, q3, Paired.mapP q4 fun _ _ z => ⟨z.1, z.2.mono (fun _ _ h => h) fr⟩⟩
        | dct b kvs => obtain ⟨q1, q2, u, q3, q4⟩ := this; exact ⟨by rw [upd_ne ne]; exact q1, q2, u, q3, q4⟩
theorem tup_mul_same (l : Addr) (items : Array Value) (n : Nat) (dd : Option Addr) (sl : Array (Option Value)) (x : Int) (u : Tok) (c0 : (decide (x < -(2 ^ 63)) || decide (x ≥ 2 ^ 63)) = false) (c1 : (items.isEmpty || x == 1) = true) :
    Meets (Builtin.«tuple.__mul__» ⟨[.ref l, .int x u], []⟩) (fun _ R s => s.heap.get? l = some { cls := .type "tuple", dict := dd, data := .seq items n, slots := sl } ∧ R (.ok (.ret (Value.ref l))) s) :=
  .of_wp fun prog w A R s h => by
    obtain ⟨hp, g, d, tk, os⟩ := s
    obtain ⟨hl, h⟩ := h
    have f1 := AutoSeq1.idx_int
    have hT : (⟨hp, g, d, tk, os⟩ : Shared).TypeIs (.ref l) "tuple" := ⟨_, hl, rfl⟩
    wp_walk using wpAny_loadPart' hl
    repeat (first
      | (refine wpAny_ite_false (decide_eq_false (by rw [c0]; exact Bool.false_ne_true)) ?_; wp_walk using wpAny_loadPart' hl)
      | (refine wpAny_ite_true (decide_eq_true c1) ?_; wp_walk using wpAny_loadPart' hl))
    exact ⟨_, rfl, h⟩
theorem tup_mul_none (l : Addr) (items : Array Value) (n : Nat) (dd : Option Addr) (sl : Array (Option Value)) (x : Int) (u : Tok) (c0 : (decide (x < -(2 ^ 63)) || decide (x ≥ 2 ^ 63)) = false) (c1 : (items.isEmpty || x == 1) = false) (c2 : (decide (x ≤ 0) || items.isEmpty) = true) :
    Meets (Builtin.«tuple.__mul__» ⟨[.ref l, .int x u], []⟩) (fun _ R s => s.heap.get? l = some { cls := .type "tuple", dict := dd, data := .seq items n, slots := sl } ∧
      R (.ok (.ret (Value.ref s.heap.objs.size))) { s with heap := s.heap.push { cls := Value.type "tuple", data := Data.seq #[] }, toks := s.toks }) :=
  .of_wp fun prog w A R s h => by
    obtain ⟨hp, g, d, tk, os⟩ := s
    obtain ⟨hl, h⟩ := h
    have f1 := AutoSeq1.idx_int
    wp_walk using wpAny_loadPart' hl
    repeat (first
      | (refine wpAny_ite_false (decide_eq_false (by rw [c0]; exact Bool.false_ne_true)) ?_; wp_walk using wpAny_loadPart' hl)
      | (refine wpAny_ite_false (decide_eq_false (by rw [c1]; exact Bool.false_ne_true)) ?_; wp_walk using wpAny_loadPart' hl)
      | (refine wpAny_ite_true (decide_eq_true c2) ?_; wp_walk using wpAny_loadPart' hl))
    exact ⟨_, rfl, h⟩
def rRep1 (K : PySem.W.Frag) : R2 := fun x y H Q => ∃ l k xs, x = .ref l ∧ y = .int k ∧ SqT K H l xs ∧ -(2 ^ 63) ≤ k ∧ k < 2 ^ 63 ∧ (((xs = [] ∨ k = 1) ∧ Q (.ref l) H) ∨ (xs ≠ [] ∧ k ≤ 0 ∧ XtK H Q []) ∨ (xs ≠ [] ∧ 2 ≤ k ∧ k ≤ 1000 ∧ xs.length ≤ 1000 ∧ XtK H Q (List.replicate k.toNat xs).flatten))
theorem op_rep1 {X : Cx} : OpR X (binaryOp .Mult) (rRep1 X.K) := by
  intro pins s σ H x y v u Q I rx ry h
  obtain ⟨l, k, xs, rfl, rfl, hT, k0, k1, h⟩ := h
  cases rx
  obtain ⟨t, rfl⟩ := ry
  obtain ⟨its, r, ⟨⟨cls, dd, data, sl⟩, ho, hc, n, hd⟩, hs⟩ := I.tuple hT
  simp only at hc hd
  subst hc hd
  have c0 : (decide (k < -(2 ^ 63)) || decide (k ≥ 2 ^ 63)) = false := by
    rw [decide_eq_false (by omega), decide_eq_false (by omega)] <;> rfl
  have emp : its.toArray.isEmpty = decide (xs = []) := by
    cases r with
    | nil => rfl
    | cons _ _ => rfl
  have road : ∀ {Q₁ : Value → Shared → Prop}, wpAny (model X.prog X.w) X.A (call (.builtin "tuple.__mul__") [.ref l, .int k t]) Q₁ X.xe s → wpAny (model X.prog X.w) X.A (binaryOp .Mult (.ref l) (.int k t)) Q₁ X.xe s := fun {Q₁} hq =>
    wpAny_binaryOp_repeat_ref (T := "tuple") (U := "int") (by decide) ⟨_, ho, rfl⟩ (fun s' => typeIs_int s' k t) noFill_tuple_mul F.fills_int_mul F.slot_int_rmul repeat_tuple F.slot_int_index.lookup
      (call_meets F.slot_int_rmul (typeIs_int s k t) F.entry_int_rmul (F.args_int_rmul_2 _ _) (int_rmul_tuple k t l its.toArray n dd sl) ⟨ho, rfl, ⟨_, ho, rfl⟩, hq⟩)
  rcases h with ⟨hk, q⟩ | ⟨hne, hk, q⟩ | ⟨hne, hk, hk2, hx, q⟩
  · refine road (call_meets F.slot_tuple_mul ⟨_, ho, rfl⟩ F.entry_tuple_mul (F.args_tuple_mul_2 _ _) (tup_mul_same l its.toArray n dd sl k t c0 ?_) ⟨ho, .ref l, H, I, rfl, q⟩)
    rw [emp]
    rcases hk with e | e
    · rw [decide_eq_true e]; rfl
    · subst e; exact Bool.or_true _
  · have e1 : (its.toArray.isEmpty || k == 1) = false := by
      rw [emp, decide_eq_false hne, Bool.false_or]
      exact beq_eq_false_iff_ne.mpr (by omega)
    refine road (call_meets F.slot_tuple_mul ⟨_, ho, rfl⟩ F.entry_tuple_mul (F.args_tuple_mul_2 _ _) (tup_mul_none l its.toArray n dd sl k t c0 e1 ?_) ⟨ho, ?_⟩)
    · rw [decide_eq_true hk]; rfl
    · exact new_tup (its := []) I (Nat.zero_le _) .nil q
  · have le := r.length
    have e0 : its.toArray.isEmpty = false := by rw [emp]; exact decide_eq_false hne
    have e1 : (its.toArray.isEmpty || k == 1) = false := by rw [e0, Bool.false_or]; exact beq_eq_false_iff_ne.mpr (by omega)
    have e2 : (decide (k ≤ 0) || its.toArray.isEmpty) = false := by rw [e0, Bool.or_false]; exact decide_eq_false (by omega)
    have mm : k.toNat * xs.length ≤ 1000 * 1000 := Nat.mul_le_mul (by omega) hx
    have sz : its.toArray.size = xs.length := by rw [List.size_toArray]; exact le.symm
    have ml : ((its.toArray.size : Nat) : Int) * k ≤ 1000000 := by
      rw [sz, show k = ((k.toNat : Nat) : Int) by omega, ← Int.natCast_mul, Nat.mul_comm]
      omega
    have fl : (List.replicate k.toNat its).flatten.length ≤ sizeLine := by rw [PyProof.Rows.lm_len_rep_flat, ← le, sizeLine_eq]; omega
    refine road (call_meets F.slot_tuple_mul ⟨_, ho, rfl⟩ F.entry_tuple_mul (F.args_tuple_mul_2 _ _) (tuple_mulW l its.toArray n dd sl k t c0 e1 e2 (by omega) (by unfold Builtin.Tuple.tupleTooMany; rw [sizeLine_eq]; exact decide_eq_false (by omega)) (by rw [size_rep, List.size_toArray]; exact fl)) ⟨ho, ?_⟩)
    rw [size_rep]
    exact new_tup I (by rw [PyProof.Rows.lm_len_rep_flat, sizeLine_eq]; omega) (r.rep k.toNat) q
def dMul : R2D := fun a b st Q => match rd st a, b with
  | .int i, .int j => CMul i j ∧ Q (.int (i * j)) st
  | .lst x, .int k => -(2 ^ 63) ≤ k ∧ k < 2 ^ 63 ∧ x.length * k.toNat ≤ sizeLine ∧ Q (.lst (List.replicate k.toNat x).flatten) st
  | .tup x, .int k => -(2 ^ 63) ≤ k ∧ k ≤ 1000 ∧ x.length ≤ 1000 ∧ Q (.tup (List.replicate k.toNat x).flatten) st
  | _, _ => False
/-- a list whose cell is one's own -/
def dMulM : R2D := fun a b st Q => ∃ x k, rd st a = .lst x ∧ b = .int k ∧ -(2 ^ 63) ≤ k ∧ k < 2 ^ 63 ∧ x.length * k.toNat ≤ sizeLine ∧ Q (.ref st.length) (st ++ [.lst (List.replicate k.toNat x).flatten])
def rMulD (K : PySem.W.Frag) : R2 := fun x y H Q => rI CMul (fun i j => .int (i * j)) x y H Q ∨ rRep x y H Q ∨ rRep1 K x y H Q
theorem op_mulD {X : Cx} : OpR X (binaryOp .Mult) (rMulD X.K) := op_mul.or (op_rep.or op_rep1)
theorem flat_len {α : Type} (x : List α) : ∀ n : Nat, (List.replicate n x).flatten.length = x.length * n
  | 0 => by simp
  | n + 1 => by rw [List.replicate_succ, List.flatten_cons, List.length_append, flat_len x n, Nat.mul_succ, Nat.add_comm]
theorem flat_nil {α : Type} : ∀ n : Nat, (List.replicate n ([] : List α)).flatten = []
  | 0 => rfl
  | n + 1 => by rw [List.replicate_succ, List.flatten_cons, flat_nil n]; rfl
theorem z_mul {X : Cx} : Rz X.K (rMulD X.K) dMul where
  mo := fun a b s Q Q' h q => by
    unfold dMul at q ⊢
    split at q
    · exact ⟨q.1, h _ _ q.2⟩
    · exact ⟨q.1, q.2.1, q.2.2.1, h _ _ q.2.2.2⟩
    · exact ⟨q.1, q.2.1, q.2.2.1, h _ _ q.2.2.2⟩
    · exact q
  on := fun {H io F st x y a b Q} R n1 n2 q => by
    unfold dMul at q
    split at q
    · rename_i i j e1
      cases rd_int e1
      cases n1
      cases n2
      exact .inl ⟨_, _, rfl, rfl, q.1, kE_now R (.int _) q.2⟩
    · rename_i xs k e1
      obtain ⟨p, vs, rfl, h1, h2, h3⟩ := rd_lst R n1 e1
      cases n2
      exact .inr (.inl ⟨p, k, vs, rfl, rfl, h1, q.1, q.2.1, by rw [h2.length]; exact q.2.2.1, lay_lst R (h2.flat _) (by rw [flat_len]; exact q.2.2.1) q.2.2.2⟩)
    · rename_i xs k e1
      cases rd_tup e1
      cases n2
      cases n1 with
      | @tup p vs _ s r z =>
        obtain ⟨q1, q2, q3, q⟩ := q
        have hz : (List.replicate k.toNat xs).flatten.length ≤ sizeLine := by
          rw [flat_len, sizeLine_eq]
          have : xs.length * k.toNat ≤ 1000 * 1000 := Nat.mul_le_mul q3 (by omega)
          omega
        by_cases hx : xs = []
        · subst hx
          cases r
          rw [flat_nil] at q
          exact .inr (.inr ⟨p, k, [], rfl, rfl, SqT_mono R.sub s.t, q1, by omega, .inl ⟨.inl rfl, kE_now R (.tup s .nil z) q⟩⟩)
        · have hv : vs ≠ [] := fun e => hx (by subst e; cases r; rfl)
          by_cases h1 : k = 1
          · subst h1
            have e : (List.replicate (1 : Int).toNat xs).flatten = xs := by simp
            rw [e] at q
            exact .inr (.inr ⟨p, 1, vs, rfl, rfl, SqT_mono R.sub s.t, by omega, by omega, .inl ⟨.inr rfl, kE_now R (.tup s r z) q⟩⟩)
          · by_cases h0 : k ≤ 0
            · have e : k.toNat = 0 := by omega
              rw [e] at q
              exact .inr (.inr ⟨p, k, vs, rfl, rfl, SqT_mono R.sub s.t, by omega, by omega, .inr (.inl ⟨hv, h0, lay_tup R .nil (Nat.zero_le _) q⟩)⟩)
            · exact .inr (.inr ⟨p, k, vs, rfl, rfl, SqT_mono R.sub s.t, by omega, by omega, .inr (.inr ⟨hv, by omega, q2, by rw [r.length]; exact q3, lay_tup R (r.flat _) hz q⟩)⟩)
    · exact q.elim
theorem z_mulM {X : Cx} : Rz X.K (rMulD X.K) dMulM where
  mo := fun a b s Q Q' h ⟨x, k, e1, e2, h1, h2, h3, q⟩ => ⟨x, k, e1, e2, h1, h2, h3, h _ _ q⟩
  on := fun {H io F st x y a b Q} R n1 n2 ⟨xs, k, e1, e2, q1, q2, q3, q⟩ => by
    subst e2
    obtain ⟨p, vs, rfl, h1, h2, h3⟩ := rd_lst R n1 e1
    cases n2
    exact .inr (.inl ⟨p, k, vs, rfl, rfl, h1, q1, q2, by rw [h2.length]; exact q3, lay_cell R (h2.flat _) (by rw [flat_len]; exact q3) q⟩)
end DL
namespace DL
open PySem PySem.Spec PyProof.Rows L2
variable [Bs]
theorem bb_len : bootBuiltins "len" = some (.builtin "len") := by decide +kernel
theorem bb_abs : bootBuiltins "abs" = some (.builtin "abs") := by decide +kernel
theorem bb_any : bootBuiltins "any" = some (.builtin "any") := by decide +kernel
theorem bb_min : bootBuiltins "min" = some (.builtin "min") := by decide +kernel
theorem bb_max : bootBuiltins "max" = some (.builtin "max") := by decide +kernel
theorem bb_int : bootBuiltins "int" = some (.type "int") := by decide +kernel
theorem bb_bool : bootBuiltins "bool" = some (.type "bool") := by decide +kernel
theorem bb_tuple : bootBuiltins "tuple" = some (.type "tuple") := by decide +kernel
theorem bb_list : bootBuiltins "list" = some (.type "list") := by decide +kernel
theorem hu1 {k : Nat} {A : Around} (hr : Room k A) : A.units + 65 < cLine := by have := hr.un; omega
/-- a law's def, at the end -/
theorem law_end {K : PySem.W.Frag} {S : Spec} (hn : S.n = 1) (g : List Int → S.G) (ha : ∀ ns, S.args (g ns) = [.scr (ns.map .int)]) (hpre : ∀ ns : List Int, ns.length ≤ 63 → S.pre (g ns) []) (hpost : ∀ x st d st', S.post x st d st' → d = .bl true) (H : Hp) (a : Addr) (ns : List Int) (hl : ns.length ≤ 63) (hT : ∀ p ∈ tabCs K, H p.2 = some (.tbl #[])) (hS : SqL K H a (ns.map V.int)) :
    spOf K S [.ref a] H (fun v _ => v = .bl true) fun _ _ _ => False := by
  have den : ∀ ns : List Int, DenL K [] H (ns.map V.int) (ns.map D.int) := fun ns => by
    induction ns with
    | nil => exact .nil
    | cons n r ih => exact .cons (.int n) ih
  have hz : (ns.map D.int).length ≤ sizeLine := by rw [List.length_map, sizeLine_eq]; omega
  let F : Hp := fun b => match H b with
    | some (.tbl _) => none
    | o => o
  have fS : ∀ b o, F b = some o → H b = some o := fun b o e => by
    have e : (match H b with | some (.tbl _) => none | o => o) = some o := e
    split at e
    · cases e
    · exact e
  have fN : ∀ b o, H b = some o → (∀ ps, o ≠ .tbl ps) → F b = some o := fun b o e n => by
    show (match H b with | some (.tbl _) => none | o => o) = some o
    rw [e]
    cases o <;> first | rfl | exact absurd rfl (n _)
  have sq : SqL K F a (ns.map V.int) := by
    rcases hS with (h | ⟨o, h⟩) | h
    · exact .inl (.inl (fN _ _ h fun _ z => nomatch z))
    · exact .inl (.inr ⟨o, fN _ _ h fun _ z => nomatch z⟩)
    · exact .inr h
  have ht : ∀ p ∈ tabsOf K, F p.1 = none ∧ p.1 ∉ ([] : List Addr) ∧ ∃ ps, H p.1 = some (.tbl ps) ∧ TriplesOk ps.toList ∧ ∀ (pos : Pos) (cv : Value), codeAmong pos ps.toList = some cv → ∃ c, cv = .ref c ∧ F c = some (LamX.CodeO c p.2) := fun p hp => by
    obtain ⟨c, hc⟩ := tabs_cs hp
    have hH := hT _ hc
    refine ⟨?_, by simp, #[], hH, True.intro, fun pos cv h => ?_⟩
    · show (match H p.1 with | some (.tbl _) => none | o => o) = none
      have hH : H p.1 = some (.tbl #[]) := hH
      rw [hH]
    · have : codeAmong pos [] = some cv := h
      simp [codeAmong] at this
  have den : ∀ ns : List Int, DenL K [] F (ns.map V.int) (ns.map D.int) := fun ns => by
    induction ns with
    | nil => exact .nil
    | cons n r ih => exact .cons (.int n) ih
  refine ⟨g ns, [], F, [], by rw [ha, hn]; rfl, ⟨fS, rfl, List.nodup_nil, (fun _ h => nomatch h), (fun n c e h1 h2 => by simp at h1), ht⟩, by rw [ha]; exact .cons (.scr sq (den ns) hz) .nil, hpre ns hl, fun d st' h => ?_⟩
  · have e := hpost _ _ _ _ h
    subst e
    intro v io' F' H' s r n
    cases n
    rfl
end DL
namespace DL
open PySem PySem.Spec PyProof.Rows L2
variable [Bs]
theorem compL_inv {G : Sto → Prop} {t : Tg} {c : DT} {w : DE} {env : En} {Q : LK} {ds : List D} (I : Nat → Sto → List D → Prop)
    (step : ∀ i st acc d, I i st acc → ds[i]? = some d → ∀ R : Sto → List D → Prop, (∀ s a, I (i + 1) s a → R s a) → G st ∧ t.dg d env st fun e s => c e s fun b s1 => if b = true then w e s1 fun x s2 => R s2 (acc ++ [x]) else R s1 acc)
    (fin : ∀ st acc, I ds.length st acc → G st ∧ Q acc st) (st : Sto) (acc : List D) (h : I 0 st acc) : wCompL G t c w env ds st acc Q := by
  have key : ∀ (n i : Nat) (st : Sto) (acc : List D), i + n = ds.length → I i st acc → wCompL G t c w env (ds.drop i) st acc Q := fun n => by
    induction n with
    | zero =>
      intro i st acc e hI
      have e' : i = ds.length := by omega
      subst e'
      rw [List.drop_length]
      exact fin st acc hI
    | succ n ih =>
      intro i st acc e hI
      have hlt : i < ds.length := by omega
      rw [List.drop_eq_getElem_cons hlt]
      exact step i st acc _ hI (List.getElem?_eq_getElem hlt) (fun s a => wCompL G t c w env (ds.drop (i + 1)) s a Q) fun s a h => ih (i + 1) s a (by omega) h
  have := key ds.length 0 st acc (by omega) h
  rwa [List.drop_zero] at this
theorem forL_inv {G : Sto → Prop} {g : DG} {b : DS} {A : DEnds} {ds : List D} (I : Nat → En → Sto → Prop)
    (step : ∀ i env st d, I i env st → ds[i]? = some d → ∀ R : En → Sto → Prop, (∀ e s, I (i + 1) e s → R e s) → G st ∧ g d env st fun e s => b { nx := R, rt := A.rt, bk := A.nx, ct := R } e s)
    (fin : ∀ env st, I ds.length env st → G st ∧ A.nx env st) (env : En) (st : Sto) (h : I 0 env st) : wForL G g b A ds env st := by
  have key : ∀ (n i : Nat) (env : En) (st : Sto), i + n = ds.length → I i env st → wForL G g b A (ds.drop i) env st := fun n => by
    induction n with
    | zero =>
      intro i env st e hI
      have e' : i = ds.length := by omega
      subst e'
      rw [List.drop_length]
      exact fin env st hI
    | succ n ih =>
      intro i env st e hI
      have hlt : i < ds.length := by omega
      rw [List.drop_eq_getElem_cons hlt]
      exact step i env st _ hI (List.getElem?_eq_getElem hlt) (wForL G g b A (ds.drop (i + 1))) fun e s h => ih (i + 1) e s (by omega) h
  have := key ds.length 0 env st (by omega) h
  rwa [List.drop_zero] at this
/-- a comprehension that leaves the store, over encoded items -/
theorem compL_map {α : Type} {G : Sto → Prop} {t : Tg} {c : DT} {w : DE} {env : En} {Q : LK} {st : Sto} (enc : α → D) (f : α → Option D) (hG : G st) :
    ∀ (xs : List α) (acc : List D), (∀ x ∈ xs, ∀ R : Option D → Sto → Prop, R (f x) st → t.dg (enc x) env st fun e s => c e s fun b s1 => if b = true then w e s1 fun y s2 => R (some y) s2 else R none s1) →
    Q (acc ++ xs.filterMap f) st → wCompL G t c w env (xs.map enc) st acc Q
  | [], acc, _, q => ⟨hG, by simpa using q⟩
  | x :: xs, acc, step, q => by
    refine ⟨hG, step x List.mem_cons_self (fun o s => match o with | some y => wCompL G t c w env (xs.map enc) s (acc ++ [y]) Q | none => wCompL G t c w env (xs.map enc) s acc Q) ?_⟩
    cases e : f x with
    | some y =>
      refine compL_map enc f hG xs _ (fun z hz => step z (List.mem_cons_of_mem _ hz)) ?_
      rw [List.filterMap_cons, e] at q
      rwa [List.append_assoc]
    | none =>
      refine compL_map enc f hG xs _ (fun z hz => step z (List.mem_cons_of_mem _ hz)) ?_
      rw [List.filterMap_cons, e] at q
      exact q
theorem rangeD_at {lo : Int} {n i : Nat} {d : D} (h : (rangeD lo n)[i]? = some d) : i < n ∧ d = .int (lo + i) := by
  unfold rangeD at h
  rw [List.getElem?_map] at h
  cases e : (List.range n)[i]? with
  | none => rw [e] at h; cases h
  | some j =>
    rw [e] at h
    cases h
    obtain ⟨h1, h2⟩ := List.getElem?_eq_some_iff.mp e
    rw [List.length_range] at h1
    rw [List.getElem_range] at h2
    subst h2
    exact ⟨h1, rfl⟩
@[simp] theorem rangeD_len (lo : Int) (n : Nat) : (rangeD lo n).length = n := by simp [rangeD]
def rangeI (lo : Int) (n : Nat) : List Int := (List.range n).map fun (i : Nat) => lo + i
theorem rangeD_eq (lo : Int) (n : Nat) : rangeD lo n = (rangeI lo n).map D.int := by simp [rangeD, rangeI]
theorem mem_rangeI {lo x : Int} {n : Nat} : x ∈ rangeI lo n ↔ lo ≤ x ∧ x < lo + n := by
  unfold rangeI
  rw [List.mem_map]
  constructor
  · rintro ⟨i, hi, rfl⟩
    rw [List.mem_range] at hi
    omega
  · rintro ⟨h1, h2⟩
    exact ⟨(x - lo).toNat, List.mem_range.mpr (by omega), by omega⟩
@[simp] theorem rangeI_len (lo : Int) (n : Nat) : (rangeI lo n).length = n := by simp [rangeI]
@[simp] theorem rd_int' (st : Sto) (i : Int) : rd st (.int i) = .int i := rfl
@[simp] theorem rd_bl' (st : Sto) (i : Bool) : rd st (.bl i) = .bl i := rfl
@[simp] theorem rd_str' (st : Sto) (i : Str) : rd st (.str i) = .str i := rfl
@[simp] theorem rd_tup' (st : Sto) (i : List D) : rd st (.tup i) = .tup i := rfl
@[simp] theorem rd_lst' (st : Sto) (i : List D) : rd st (.lst i) = .lst i := rfl
@[simp] theorem rd_scr' (st : Sto) (i : List D) : rd st (.scr i) = .scr i := rfl
@[simp] theorem rd_non' (st : Sto) : rd st .non = .non := rfl
theorem rd_ref' {st : Sto} {n : Nat} {ds : List D} (h : st[n]? = some (.lst ds)) : rd st (.ref n) = .lst ds := by
  unfold rd; simp only [h]
theorem atI_of {α : Type} {xs : List α} {i : Int} {x : α} (h0 : 0 ≤ i) (h : xs[i.toNat]? = some x) : atI xs i = some x := by
  have hl := (List.getElem?_eq_some_iff.mp h).1
  unfold atI ixN
  rw [if_pos h0, if_pos (by omega)]
  exact h
theorem atI_map {α β : Type} {f : α → β} {xs : List α} {i : Int} {x : α} (h : atI xs i = some x) : atI (xs.map f) i = some (f x) := by
  unfold atI at h ⊢
  rw [List.length_map]
  cases e : ixN xs.length i with
  | none => rw [e] at h; cases h
  | some j =>
    rw [e] at h
    show (xs.map f)[j]? = _
    rw [List.getElem?_map, show xs[j]? = some x from h]
    rfl
end DL
namespace DL
open PySem PySem.Spec PyProof.Rows L2
variable [Bs]
section
variable {C : Int → Int → Prop} {g : Int → Int → D} {i j : Int} {st : Sto} {Q : DK} {env : En} {a b : D} {ds es : List D}
theorem v_dI : dI C g (.int i) (.int j) st Q = (C i j ∧ Q (g i j) st) := propext ⟨fun ⟨_, _, e1, e2, c, q⟩ => by cases e1; cases e2; exact ⟨c, q⟩, fun ⟨c, q⟩ => ⟨_, _, rfl, rfl, c, q⟩⟩
theorem v_sub : dSub (.int i) (.int j) st Q = Q (.int (i - j)) st := by unfold dSub; rw [v_dI]; simp
theorem v_mod : dMod (.int i) (.int j) st Q = (0 < j ∧ Q (.int (i % j)) st) := v_dI
theorem v_fdiv : dFdiv (.int i) (.int j) st Q = ((0 < j ∧ j < 2 ^ 62) ∧ Q (.int (i / j)) st) := v_dI
theorem v_pow : dPow (.int i) (.int j) st Q = ((0 ≤ j ∧ j ≤ 1000000 ∧ i.natAbs < 2 ^ 64) ∧ Q (.int (i ^ j.toNat)) st) := v_dI
theorem v_iadd : dI T2 (fun i j => .int (i + j)) (.int i) (.int j) st Q = Q (.int (i + j)) st := by rw [v_dI]; simp
theorem v_add : dAdd (.int i) (.int j) st Q = Q (.int (i + j)) st := rfl
theorem v_addT : dAdd (.tup ds) (.tup es) st Q = (ds.length + es.length ≤ sizeLine ∧ Q (.tup (ds ++ es)) st) := rfl
theorem v_addL : dAdd (.lst ds) (.lst es) st Q = (ds.length + es.length ≤ sizeLine ∧ Q (.lst (ds ++ es)) st) := rfl
theorem v_mul : dMul (.int i) (.int j) st Q = (CMul i j ∧ Q (.int (i * j)) st) := rfl
theorem v_lt : dLt (.int i) (.int j) st Q = Q (.bl (decide (i < j))) st := rfl
theorem v_le : dLe (.int i) (.int j) st Q = Q (.bl (decide (i ≤ j))) st := rfl
theorem v_gt : dGt (.int i) (.int j) st Q = Q (.bl (decide (j < i))) st := rfl
theorem v_ge : dGe (.int i) (.int j) st Q = Q (.bl (decide (j ≤ i))) st := rfl
theorem v_eqO {f : Bool → Bool} (h : ∀ x, a ≠ .str x) : dEqB f a b st Q = dEqO f a b st Q := propext ⟨fun q => by rcases q with ⟨x, _, e, _⟩ | q; exact absurd e (h x); exact q, .inr⟩
theorem v_eqi {f : Bool → Bool} : dEqB f (.int i) (.int j) st Q = Q (.bl (f (i == j))) st := by
  rw [v_eqO (a := .int i) (fun _ h => nomatch h)]
  unfold dEqO; simp [D.ok, D.dep, D.eqv]
theorem v_ixT : dIx (.tup ds) (.int i) st Q = ∃ d, atI ds i = some d ∧ Q d st := propext ⟨fun ⟨_, e, q⟩ => by cases e; exact q, fun q => ⟨_, rfl, q⟩⟩
theorem v_ixL : dIx (.lst ds) (.int i) st Q = ∃ d, atI ds i = some d ∧ Q d st := propext ⟨fun ⟨_, e, q⟩ => by cases e; exact q, fun q => ⟨_, rfl, q⟩⟩
theorem v_ixS : dIx (.scr ds) (.int i) st Q = ∃ d, atI ds i = some d ∧ Q d st := propext ⟨fun ⟨_, e, q⟩ => by cases e; exact q, fun q => ⟨_, rfl, q⟩⟩
theorem v_var {k : Nat} {d : D} (h : env[k]? = some (some d)) : wVar k env st Q = Q d st := propext ⟨fun ⟨e, h2, q⟩ => by rw [h] at h2; cases h2; exact q, fun q => ⟨_, h, q⟩⟩
theorem v_var0 {d : D} : wVar 0 (some d :: env) st Q = Q d st := v_var rfl
theorem v_varS {k : Nat} {x : Option D} : wVar (k + 1) (x :: env) st Q = wVar k env st Q := propext ⟨fun ⟨e, h2, q⟩ => ⟨e, by simpa using h2, q⟩, fun ⟨e, h2, q⟩ => ⟨e, by simpa using h2, q⟩⟩
theorem v_len {n : Nat} (h : lenD (rd st a) = some n) : bLen [a] st Q = Q (.int (n : Nat)) st := propext ⟨fun ⟨_, _, e, h2, q⟩ => by cases e; rw [h] at h2; cases h2; exact q, fun q => ⟨_, _, rfl, h, q⟩⟩
theorem v_lenT : bLen [.tup ds] st Q = Q (.int ds.length) st := v_len rfl
theorem v_lenL : bLen [.lst ds] st Q = Q (.int ds.length) st := v_len rfl
theorem v_lenS : bLen [.scr ds] st Q = Q (.int ds.length) st := v_len rfl
theorem v_abs : bAbs [.int i] st Q = Q (.int (if i < 0 then -i else i)) st := propext ⟨fun ⟨_, e, q⟩ => by cases e; exact q, fun q => ⟨_, rfl, q⟩⟩
theorem v_min2 : bMin2 [.int i, .int j] st Q = Q (.int (if j < i then j else i)) st := propext ⟨fun ⟨_, _, e, q⟩ => by cases e; exact q, fun q => ⟨_, _, rfl, q⟩⟩
theorem v_max2 : bMax2 [.int i, .int j] st Q = Q (.int (if j > i then j else i)) st := propext ⟨fun ⟨_, _, e, q⟩ => by cases e; exact q, fun q => ⟨_, _, rfl, q⟩⟩
theorem v_intI : bInt [.int i] st Q = Q (.int i) st := propext ⟨fun ⟨_, e, q⟩ => by cases e; exact q, fun q => ⟨_, rfl, q⟩⟩
theorem v_intB {c : Bool} : bInt [.bl c] st Q = Q (.int (if c then 1 else 0)) st := propext ⟨fun ⟨_, e, q⟩ => by cases e; exact q, fun q => ⟨_, rfl, q⟩⟩
theorem v_tupL (h : rd st a = .lst ds) : bTuple [a] st Q = Q (.tup ds) st := propext ⟨fun ⟨_, _, e, h2, q⟩ => by cases e; rw [h] at h2; rcases h2 with h2 | h2 <;> cases h2; exact q, fun q => ⟨_, _, rfl, .inl h, q⟩⟩
theorem v_tupl : bTuple [.lst ds] st Q = Q (.tup ds) st := v_tupL rfl
theorem v_tupT : bTuple [.tup ds] st Q = Q (.tup ds) st := propext ⟨fun ⟨_, _, e, h2, q⟩ => by cases e; rcases h2 with h2 | h2 <;> cases h2; exact q, fun q => ⟨_, _, rfl, .inr rfl, q⟩⟩
theorem v_any {bs : List Bool} : bAny [.lst (bs.map .bl)] st Q = Q (.bl (bs.any id)) st := propext ⟨fun ⟨_, _, _, e, h2, h3, q⟩ => by cases e; cases h2; rw [bools_map] at h3; cases h3; exact q, fun q => ⟨_, _, _, rfl, rfl, bools_map _, q⟩⟩
theorem v_bl {x : Bool} {P : Bool → Prop} : (∃ b, D.bl x = .bl b ∧ P b) = P x := propext ⟨fun ⟨_, e, q⟩ => by cases e; exact q, fun q => ⟨_, rfl, q⟩⟩
theorem v_in {x : Int} {P : Int → Prop} : (∃ b, D.int x = .int b ∧ P b) = P x := propext ⟨fun ⟨_, e, q⟩ => by cases e; exact q, fun q => ⟨_, rfl, q⟩⟩
theorem v_some {α : Type} {x : α} {P : α → Prop} : (∃ b, some x = some b ∧ P b) = P x := propext ⟨fun ⟨_, e, q⟩ => by cases e; exact q, fun q => ⟨_, rfl, q⟩⟩
theorem v_gTp {n : Nat} {gs : DGs} {Q : En → Sto → Prop} : gTp n gs (.tup ds) env st Q = (ds.length = n ∧ gs ds env st Q) := propext ⟨fun ⟨_, e, q⟩ => by cases e; exact q, fun q => ⟨_, rfl, q⟩⟩
theorem v_gCn {h : DG} {gs : DGs} {d : D} {Q : En → Sto → Prop} : gCn h gs (d :: ds) env st Q = h d env st fun e s => gs ds e s Q := propext ⟨fun ⟨_, _, e, q⟩ => by cases e; exact q, fun q => ⟨_, _, rfl, q⟩⟩
theorem v_gNl {Q : En → Sto → Prop} : gNl [] env st Q = Q env st := propext ⟨fun ⟨_, q⟩ => q, fun q => ⟨rfl, q⟩⟩
theorem v_newT : newL true ds st Q = Q (.ref st.length) (st ++ [.lst ds]) := rfl
theorem v_newF : newL false ds st Q = Q (.lst ds) st := rfl
theorem v_app {n : Nat} {d : D} (h : st[n]? = some (.lst ds)) : mAppend (.ref n) [d] st Q = (ds.length < sizeLine ∧ Q .non (st.set n (.lst (ds ++ [d])))) := propext ⟨fun ⟨_, _, _, e1, e2, e3, q⟩ => by cases e1; cases e2; rw [h] at e3; cases e3; exact q, fun q => ⟨_, _, _, rfl, rfl, h, q⟩⟩
theorem get_last {α : Type} (st : List α) (c : α) : (st ++ [c])[st.length]? = some c := by simp
theorem set_last {α : Type} (st : List α) (c e : α) : (st ++ [c]).set st.length e = st ++ [e] := by
  rw [List.set_append_right _ _ (Nat.le_refl _), Nat.sub_self]; rfl
theorem at0 {α : Type} {x : α} {xs : List α} : atI (x :: xs) 0 = some x := atI_of (by decide) rfl
theorem at1 {α : Type} {x y : α} {xs : List α} : atI (x :: y :: xs) 1 = some y := atI_of (by decide) rfl
theorem at2 {α : Type} {x y z : α} {xs : List α} : atI (x :: y :: z :: xs) 2 = some z := atI_of (by decide) rfl
theorem at3 {α : Type} {x y z u : α} {xs : List α} : atI (x :: y :: z :: u :: xs) 3 = some u := atI_of (by decide) rfl
theorem at4 {α : Type} {x y z u v : α} {xs : List α} : atI (x :: y :: z :: u :: v :: xs) 4 = some v := atI_of (by decide) rfl
end
theorem v_rg1 {a : DE} {env : En} {st : Sto} {R : GK} : iRange1 (wCons a wNil) env st R = a env st fun d s => ∃ j, d = .int j ∧ (-(2 ^ 62) ≤ j ∧ j < 2 ^ 62) ∧ R (rangeD 0 j.toNat) (fun _ => True) s := by
  unfold iRange1 wCons wNil
  congr 1
  funext d s
  exact propext ⟨fun ⟨j, e, h1, h2, q⟩ => by cases e; exact ⟨_, rfl, ⟨h1, h2⟩, q⟩, fun ⟨j, e, h, q⟩ => by cases e; exact ⟨_, rfl, h.1, h.2, q⟩⟩
theorem v_rg2 {a b : DE} {env : En} {st : Sto} {R : GK} : iRange2 (wCons a (wCons b wNil)) env st R = a env st fun d s => b env s fun e s => ∃ i, d = .int i ∧ ∃ j, e = .int j ∧ (-(2 ^ 62) ≤ i ∧ i < 2 ^ 62 ∧ -(2 ^ 62) ≤ j ∧ j < 2 ^ 62) ∧ R (rangeD i (j - i).toNat) (fun _ => True) s := by
  unfold iRange2 wCons wNil
  congr 1
  funext d s
  congr 1
  funext e s
  exact propext ⟨fun ⟨i, j, e, h, q⟩ => by cases e; exact ⟨_, rfl, _, rfl, h, q⟩, fun ⟨i, e, j, e2, h, q⟩ => by cases e; cases e2; exact ⟨_, _, rfl, h, q⟩⟩
theorem forL_foldN {α σ : Type} {G : Sto → Prop} {g : DG} {b : DS} {A : DEnds} (enc : α → D) (f : σ → α → σ) (Rp : Nat → σ → En → Sto → Prop) (N : Nat) :
    ∀ (xs : List α) (i : Nat) (s0 : σ) (env : En) (st : Sto), i + xs.length = N → (∀ i s x e st, i < N → x ∈ xs → Rp i s e st → ∀ R : En → Sto → Prop, (∀ e' st', Rp (i + 1) (f s x) e' st' → R e' st') → G st ∧ g (enc x) e st fun e s => b { nx := R, rt := A.rt, bk := A.nx, ct := R } e s) →
    (∀ e st, Rp N (xs.foldl f s0) e st → G st ∧ A.nx e st) → Rp i s0 env st → wForL G g b A (xs.map enc) env st
  | [], i, _, env, st, hN, _, fin, h => fin env st (by rw [List.length_nil] at hN; rw [← hN]; exact h)
  | x :: xs, i, s0, env, st, hN, step, fin, h => by
    rw [List.length_cons] at hN
    refine step i s0 x env st (by omega) List.mem_cons_self h (wForL G g b A (xs.map enc)) fun e' st' h' => ?_
    exact forL_foldN enc f Rp N xs (i + 1) (f s0 x) e' st' (by omega) (fun j s y e st hj hy => step j s y e st hj (List.mem_cons_of_mem _ hy)) fin h'
/-- a loop as a fold -/
theorem forL_fold {α σ : Type} {G : Sto → Prop} {g : DG} {b : DS} {A : DEnds} (enc : α → D) (f : σ → α → σ) (Rp : Nat → σ → En → Sto → Prop) (xs : List α) (s0 : σ) (env : En) (st : Sto)
    (step : ∀ i s x e st, i < xs.length → x ∈ xs → Rp i s e st → ∀ R : En → Sto → Prop, (∀ e' st', Rp (i + 1) (f s x) e' st' → R e' st') → G st ∧ g (enc x) e st fun e s => b { nx := R, rt := A.rt, bk := A.nx, ct := R } e s)
    (fin : ∀ e st, Rp xs.length (xs.foldl f s0) e st → G st ∧ A.nx e st) (h : Rp 0 s0 env st) : wForL G g b A (xs.map enc) env st :=
  forL_foldN enc f Rp xs.length xs 0 s0 env st (Nat.zero_add _) step fin h
end DL
namespace DL
open PySem PySem.Spec PyProof.Rows L2
variable [Bs]
def wFrzA (i : Nat) : DE := fun env st Q => (∃ ds, env[i]? = some (some (.lst ds)) ∧ Q (.lst ds) st) ∨ wFrz i env st Q
theorem we_frzA {X : Cx} {pos : Pos} {i : Nat} {x : Str} (hN : X.N[i]? = some x) (hv : Vis X.env.scope x) (hd : (x == ("__debug__" : Str)) = false := by decide) (hcd : (x == ("__classdict__" : Str)) = false := by decide) : WE X (.Name x pos) (wFrzA i) := by
  have h1 := we_var hN hv hd hcd (pos := pos)
  have h2 := we_frz hN hv hd hcd (pos := pos)
  refine ⟨fun e s Q Q' h q => ?_, ⟨fun p s σ H Q I q => ?_⟩⟩
  · rcases q with ⟨ds, e1, q⟩ | q
    · exact .inl ⟨ds, e1, h _ _ q⟩
    · exact .inr (h2.mo _ _ _ _ h q)
  · obtain ⟨env, io, F, st, R, q⟩ := q
    rcases q with ⟨ds, e1, q⟩ | q
    · exact h1.pe.run p s σ H Q I ⟨env, io, F, st, R, _, e1, q⟩
    · exact h2.pe.run p s σ H Q I ⟨env, io, F, st, R, q⟩
theorem zipD_len (ds es : List D) : (zipD ds es).length = min ds.length es.length := by unfold zipD; rw [List.length_zipWith]
section
variable {K : PySem.W.Frag} {io : List Addr} {F H : Hp} {a b : Addr} {xs ys : List V} {ds es : List D}
theorem zipD_at {i : Nat} (hi : i < (zipD ds es).length) : ∃ d e, ds[i]? = some d ∧ es[i]? = some e ∧ (zipD ds es)[i]? = some (.tup [d, e]) := by
  rw [zipD_len] at hi
  have h1 : i < ds.length := by omega
  have h2 : i < es.length := by omega
  refine ⟨ds[i], es[i], List.getElem?_eq_getElem h1, List.getElem?_eq_getElem h2, ?_⟩
  unfold zipD
  rw [List.getElem?_zipWith, List.getElem?_eq_getElem h1, List.getElem?_eq_getElem h2]
theorem walkD_zipT (s1 : SqT K F a xs) (r1 : DenL K io F xs ds) (s2 : SqT K F b ys) (r2 : DenL K io F ys es) : WalkD K (ItzX (SqT K) (SqT K) a b) H io F (zipD ds es) (fun _ => True) where
  go := fun i t R _ hi => by
    obtain ⟨d, e, h1, h2, _⟩ := zipD_at hi
    obtain ⟨v, e1, _⟩ := (t.denL r1).get h1
    obtain ⟨w, e2, _⟩ := (t.denL r2).get h2
    exact ⟨xs, ys, v, w, SqT_mono R.sub (SqT_mono t.fr s1), SqT_mono R.sub (SqT_mono t.fr s2), e1, e2⟩
  stop := fun t R _ => by
    refine ⟨xs, ys, SqT_mono R.sub (SqT_mono t.fr s1), SqT_mono R.sub (SqT_mono t.fr s2), ?_⟩
    rw [zipD_len, r1.length, r2.length]
    exact ⟨by omega, by omega, by omega⟩
  yld := fun {H2 io2 F2 st2} i x H3 t R _ hi y => by
    obtain ⟨d, e, h1, h2, h3⟩ := zipD_at hi
    obtain ⟨v, e1, n1⟩ := (t.denL r1).get h1
    obtain ⟨w, e2, n2⟩ := (t.denL r2).get h2
    obtain ⟨T, u, u', o, q1, hT, ho, q2, hu, hu'⟩ := y
    subst q1
    subst q2
    have p1 := hu xs (SqT_mono R.sub (SqT_mono t.fr s1))
    have p2 := hu' ys (SqT_mono R.sub (SqT_mono t.fr s2))
    rw [e1] at p1
    rw [e2] at p2
    cases p1
    cases p2
    obtain ⟨F3, s3, R3, n3⟩ := lay_pair R hT ho n1 n2
    exact ⟨F3, _, s3, R3, h3, n3⟩
theorem walkD_zipL (s1 : F a = some (.lst xs)) (r1 : DenL K io F xs ds) (s2 : F b = some (.lst ys)) (r2 : DenL K io F ys es) : WalkD K (ItzX (SqL K) (SqL K) a b) H io F (zipD ds es) (fun _ => True) where
  go := fun i t R _ hi => by
    obtain ⟨d, e, h1, h2, _⟩ := zipD_at hi
    obtain ⟨v, e1, _⟩ := (t.denL r1).get h1
    obtain ⟨w, e2, _⟩ := (t.denL r2).get h2
    exact ⟨xs, ys, v, w, SqL.of (R.sub _ _ (t.fr _ _ s1)), SqL.of (R.sub _ _ (t.fr _ _ s2)), e1, e2⟩
  stop := fun t R _ => by
    refine ⟨xs, ys, SqL.of (R.sub _ _ (t.fr _ _ s1)), SqL.of (R.sub _ _ (t.fr _ _ s2)), ?_⟩
    rw [zipD_len, r1.length, r2.length]
    exact ⟨by omega, by omega, by omega⟩
  yld := fun {H2 io2 F2 st2} i x H3 t R _ hi y => by
    obtain ⟨d, e, h1, h2, h3⟩ := zipD_at hi
    obtain ⟨v, e1, n1⟩ := (t.denL r1).get h1
    obtain ⟨w, e2, n2⟩ := (t.denL r2).get h2
    obtain ⟨T, u, u', o, q1, hT, ho, q2, hu, hu'⟩ := y
    subst q1
    subst q2
    have p1 := hu xs (SqL.of (R.sub _ _ (t.fr _ _ s1)))
    have p2 := hu' ys (SqL.of (R.sub _ _ (t.fr _ _ s2)))
    rw [e1] at p1
    rw [e2] at p2
    cases p1
    cases p2
    obtain ⟨F3, s3, R3, n3⟩ := lay_pair R hT ho n1 n2
    exact ⟨F3, _, s3, R3, h3, n3⟩
theorem walkD_zipLT (s1 : F a = some (.lst xs)) (r1 : DenL K io F xs ds) (s2 : SqT K F b ys) (r2 : DenL K io F ys es) : WalkD K (ItzX (SqL K) (SqT K) a b) H io F (zipD ds es) (fun _ => True) where
  go := fun i t R _ hi => by
    obtain ⟨d, e, h1, h2, _⟩ := zipD_at hi
    obtain ⟨v, e1, _⟩ := (t.denL r1).get h1
    obtain ⟨w, e2, _⟩ := (t.denL r2).get h2
    exact ⟨xs, ys, v, w, SqL.of (R.sub _ _ (t.fr _ _ s1)), SqT_mono R.sub (SqT_mono t.fr s2), e1, e2⟩
  stop := fun t R _ => by
    refine ⟨xs, ys, SqL.of (R.sub _ _ (t.fr _ _ s1)), SqT_mono R.sub (SqT_mono t.fr s2), ?_⟩
    rw [zipD_len, r1.length, r2.length]
    exact ⟨by omega, by omega, by omega⟩
  yld := fun {H2 io2 F2 st2} i x H3 t R _ hi y => by
    obtain ⟨d, e, h1, h2, h3⟩ := zipD_at hi
    obtain ⟨v, e1, n1⟩ := (t.denL r1).get h1
    obtain ⟨w, e2, n2⟩ := (t.denL r2).get h2
    obtain ⟨T, u, u', o, q1, hT, ho, q2, hu, hu'⟩ := y
    subst q1
    subst q2
    have p1 := hu xs (SqL.of (R.sub _ _ (t.fr _ _ s1)))
    have p2 := hu' ys (SqT_mono R.sub (SqT_mono t.fr s2))
    rw [e1] at p1
    rw [e2] at p2
    cases p1
    cases p2
    obtain ⟨F3, s3, R3, n3⟩ := lay_pair R hT ho n1 n2
    exact ⟨F3, _, s3, R3, h3, n3⟩
theorem walkD_zipTL (s1 : SqT K F a xs) (r1 : DenL K io F xs ds) (s2 : F b = some (.lst ys)) (r2 : DenL K io F ys es) : WalkD K (ItzX (SqT K) (SqL K) a b) H io F (zipD ds es) (fun _ => True) where
  go := fun i t R _ hi => by
    obtain ⟨d, e, h1, h2, _⟩ := zipD_at hi
    obtain ⟨v, e1, _⟩ := (t.denL r1).get h1
    obtain ⟨w, e2, _⟩ := (t.denL r2).get h2
    exact ⟨xs, ys, v, w, SqT_mono R.sub (SqT_mono t.fr s1), SqL.of (R.sub _ _ (t.fr _ _ s2)), e1, e2⟩
  stop := fun t R _ => by
    refine ⟨xs, ys, SqT_mono R.sub (SqT_mono t.fr s1), SqL.of (R.sub _ _ (t.fr _ _ s2)), ?_⟩
    rw [zipD_len, r1.length, r2.length]
    exact ⟨by omega, by omega, by omega⟩
  yld := fun {H2 io2 F2 st2} i x H3 t R _ hi y => by
    obtain ⟨d, e, h1, h2, h3⟩ := zipD_at hi
    obtain ⟨v, e1, n1⟩ := (t.denL r1).get h1
    obtain ⟨w, e2, n2⟩ := (t.denL r2).get h2
    obtain ⟨T, u, u', o, q1, hT, ho, q2, hu, hu'⟩ := y
    subst q1
    subst q2
    have p1 := hu xs (SqT_mono R.sub (SqT_mono t.fr s1))
    have p2 := hu' ys (SqL.of (R.sub _ _ (t.fr _ _ s2)))
    rw [e1] at p1
    rw [e2] at p2
    cases p1
    cases p2
    obtain ⟨F3, s3, R3, n3⟩ := lay_pair R hT ho n1 n2
    exact ⟨F3, _, s3, R3, h3, n3⟩
end
def zipI (a b : D) (s : Sto) (R : GK) : Prop := match a, b with
  | .tup xs, .tup ys => R (zipD xs ys) (fun _ => True) s
  | .lst xs, .lst ys => R (zipD xs ys) (fun _ => True) s
  | .lst xs, .tup ys => R (zipD xs ys) (fun _ => True) s
  | .tup xs, .lst ys => R (zipD xs ys) (fun _ => True) s
  | _, _ => False
theorem zipI_mo {a b : D} {s : Sto} {R R' : GK} (h : ∀ ds G s, R ds G s → R' ds G s) (q : zipI a b s R) : zipI a b s R' := by
  unfold zipI at q ⊢
  split at q
  · exact h _ _ _ q
  · exact h _ _ _ q
  · exact h _ _ _ q
  · exact h _ _ _ q
  · exact q
def iZip (wa wb : DE) : DI := fun env st R => wa env st fun a s1 => wb env s1 fun b s2 => zipI a b s2 R
theorem wi_zip {X : Cx} {p pos tpos : Pos} {e e2 : Expr} {we we2 : DE} {elts : List Expr} {kk : Nat} (hg : Gl X "zip") (hm : X.mg "zip" = none) (he : WE X e we) (he2 : WE X e2 we2) (ha : starEach [e, e2] X.env = (false, eval e X.env) :: starEach [e2] X.env := by rfl) (hs : starEach [e2] X.env = (false, eval e2 X.env) :: starEach [] X.env := by rfl)
    (hpl : (backTo pos (starEach [e2] X.env)).any (·.1) = false := by rfl) :
    WI X (.Tuple elts kk tpos) (.Call (.Name "zip" p) [e, e2] [] pos) (iZip we we2) := by
  refine ⟨fun _ _ _ _ h q => he.mo _ _ _ _ (fun _ _ q => he2.mo _ _ _ _ (fun _ _ q => zipI_mo (fun _ _ _ q => h _ _ _ q) q) q) q, PI_imp (pi_zipX hg hm (pa_cons he.pe (pa_cons he2.pe pa_nil hs) ha) ha hpl) fun σ H R ⟨env, io, F, st, Rl, q⟩ => ?_⟩
  refine tE_use he.mo Rl q fun d s1 v io1 F1 H1 q1 t1 R1 n1 => ?_
  refine tE_use he2.mo R1 q1 fun d2 s2 v2 io2 F2 H2 q2 t2 R2 n2 => ?_
  have n1' := t2.den n1
  unfold zipI at q2
  split at q2
  · cases n1' with
    | tup s r z =>
      cases n2 with
      | tup s' r' z' => exact ⟨_, _, _, _, rfl, .inr (.inl ⟨SqT_mono R2.sub s.t, SqT_mono R2.sub s'.t, q2 _ _ _ _ (t1.trans t2) R2.toRelH (walkD_zipT s.t r s'.t r')⟩)⟩
  · cases n1' with
    | lst s r z =>
      cases n2 with
      | lst s' r' z' => exact ⟨_, _, _, _, rfl, .inl ⟨SqL.of (R2.sub _ _ s), SqL.of (R2.sub _ _ s'), q2 _ _ _ _ (t1.trans t2) R2.toRelH (walkD_zipL s r s' r')⟩⟩
  · cases n1' with
    | lst s r z =>
      cases n2 with
      | tup s' r' z' => exact ⟨_, _, _, _, rfl, .inr (.inr (.inl ⟨SqL.of (R2.sub _ _ s), SqT_mono R2.sub s'.t, q2 _ _ _ _ (t1.trans t2) R2.toRelH (walkD_zipLT s r s'.t r')⟩))⟩
  · cases n1' with
    | tup s r z =>
      cases n2 with
      | lst s' r' z' => exact ⟨_, _, _, _, rfl, .inr (.inr (.inr ⟨SqT_mono R2.sub s.t, SqL.of (R2.sub _ _ s'), q2 _ _ _ _ (t1.trans t2) R2.toRelH (walkD_zipTL s.t r s' r')⟩))⟩
  · exact q2.elim
theorem zipI_tup {xs ys : List D} {s : Sto} {R : GK} : zipI (.tup xs) (.tup ys) s R = R (zipD xs ys) (fun _ => True) s := rfl
theorem zipI_lt {xs ys : List D} {s : Sto} {R : GK} : zipI (.lst xs) (.tup ys) s R = R (zipD xs ys) (fun _ => True) s := rfl
theorem zipI_tl {xs ys : List D} {s : Sto} {R : GK} : zipI (.tup xs) (.lst ys) s R = R (zipD xs ys) (fun _ => True) s := rfl
theorem zipI_lst {xs ys : List D} {s : Sto} {R : GK} : zipI (.lst xs) (.lst ys) s R = R (zipD xs ys) (fun _ => True) s := rfl
end DL
namespace DL
open PySem PySem.Spec PyProof.Rows L2
variable [Bs]
section
variable {X : Cx} {pos : Pos}
theorem we_dict0 : WE X (.Dict [] [] pos) (wC (.dct [])) :=
  ⟨moC _, PE_imp pe_dnewK fun σ H Q ⟨env, io, F, st, R, q⟩ => fun p hp => q _ io (upd F p (.dK [])) _ (Stp.laid hp R.sub) (R.toRelH.laid hp) (.dct (by rw [upd_same]; rfl))⟩
theorem we_dict1 {a b : Int} {j k} {p1 p2 : Pos} : WE X (.Dict [some (.Constant (.int a) j p1)] [.Constant (.int b) k p2] pos) (wC (.dct [(.inl a, .inl b)])) := by
  refine ⟨moC _, PE_imp (pe_disp (pps_cons pe_int pe_int pps_nil) rfl rfl (by simp) (by simp)) fun σ H Q ⟨env, io, F, st, R, q⟩ => fun p hp => ?_⟩
  refine ⟨upd_same, [(.inl a, .int b)], rfl, by simp, ?_⟩
  rw [upd_upd]
  exact q _ io (upd F p _) _ (Stp.laid hp R.sub) (R.toRelH.laid hp) (.dct (by rw [upd_same]; rfl))
end
def rgD (a b : Int) : List D := (List.range (b - a).toNat).map fun i => D.int (a + (i : Nat))
theorem rg_den {K : PySem.W.Frag} {io : List Addr} {F : Hp} (a b : Int) : DenL K io F (rgV a b) (rgD a b) := by
  unfold rgV rgD
  generalize List.range (b - a).toNat = l
  induction l with
  | nil => exact .nil
  | cons i r ih => exact .cons (.int _) ih
theorem rgD_len (a b : Int) : (rgD a b).length = (b - a).toNat := by unfold rgD; simp
theorem rgD_fit {a b : Int} (h : RgOk a b) : (rgD a b).length ≤ sizeLine := by
  rw [rgD_len, sizeLine_eq]
  have := h.2.2.2.2
  omega
def wRgL1 (m : Bool) (wa : DE) : DE := fun env st Q => wa env st fun d s => ∃ b, d = .int b ∧ RgOk 0 b ∧ newL m (rgD 0 b) s Q
def wRgL2 (m : Bool) (wa wb : DE) : DE := fun env st Q => wa env st fun d s => wb env s fun d2 s2 => ∃ a b, d = .int a ∧ d2 = .int b ∧ RgOk a b ∧ newL m (rgD a b) s2 Q
def wRgT1 (wa : DE) : DE := fun env st Q => wa env st fun d s => ∃ b, d = .int b ∧ RgOk 0 b ∧ Q (.tup (rgD 0 b)) s
def wRgT2 (wa wb : DE) : DE := fun env st Q => wa env st fun d s => wb env s fun d2 s2 => ∃ a b, d = .int a ∧ d2 = .int b ∧ RgOk a b ∧ Q (.tup (rgD a b)) s2
section
variable {X : Cx} {pos p pos' p' : Pos} {e e2 : Expr} {wa wb : DE} {m : Bool}
theorem we_rgT1 (hc : X.calm = true) (hl : Gl X "tuple") (hml : X.mg "tuple" = none) (hr : Gl X "range") (hmr : X.mg "range" = none) (ha : WE X e wa) (na : starEach [e] X.env = (false, eval e X.env) :: starEach [] X.env := by rfl)
    (nb : starEach [Expr.Call (.Name "range" p') [e] [] pos'] X.env = (false, eval (Expr.Call (.Name "range" p') [e] [] pos') X.env) :: starEach [] X.env := by rfl) : WE X (.Call (.Name "tuple" p) [.Call (.Name "range" p') [e] [] pos'] [] pos) (wRgT1 wa) := by
  refine ⟨fun _ _ _ _ i q => ha.mo _ _ _ _ (fun _ _ ⟨b, h1, h2, q⟩ => ⟨b, h1, h2, i _ _ q⟩) q, PE_imp (pe_tupRgX hc hl hml (prg_1 hr hmr ha.pe na) nb) fun σ H Q ⟨env, io, F, st, Rl, q⟩ => ?_⟩
  refine tE_use ha.mo Rl q fun d s1 v io1 F1 H1 ⟨b, eb, h1, q1⟩ t1 R1 n1 => ?_
  subst eb
  cases n1
  exact ⟨b, rfl, h1, lay_tup R1.toRelH (rg_den 0 b) (rgD_fit h1) (kE_later t1 q1)⟩
end
def repS (x : Str) (n : Int) : Str := ⟨(List.replicate n.toNat x.cps).foldl (· ++ ·) #[]⟩
theorem repS_len (x : Str) (n : Int) : (repS x n).length = x.length * n.toNat := by
  have h : ∀ (k : Nat) (acc : Array Nat), ((List.replicate k x.cps).foldl (· ++ ·) acc).size = acc.size + x.cps.size * k := fun k => by
    induction k with
    | zero => intro acc; simp
    | succ k ih => intro acc; rw [List.replicate_succ, List.foldl_cons, ih, Array.size_append, Nat.mul_succ]; omega
  have := h n.toNat #[]
  simp only [Array.size_empty, Nat.zero_add] at this
  exact this
def rRepS : R2 := fun x y H Q => ∃ z n, x = .str z ∧ y = .int n ∧ 2 ≤ n ∧ n ≤ 1000000 ∧ z.length ≠ 0 ∧ z.length * n.toNat ≤ sizeLine ∧ Q (.str (repS z n)) H
theorem op_repS {X : Cx} : OpR X (binaryOp .Mult) rRepS := by
  intro pins s σ H x y v u Q I rx ry h
  obtain ⟨z, n, rfl, rfl, h1, h2, h3, h4, q⟩ := h
  obtain ⟨t, rfl⟩ := rx
  obtain ⟨t', rfl⟩ := ry
  have c1 : (decide (n < -(2 ^ 63 : Int)) || decide (n ≥ 2 ^ 63)) = false := by
    rw [decide_eq_false (by omega), decide_eq_false (by omega)]; rfl
  have c2 : (n == 1 || z.length == 0) = false := by
    rw [beq_eq_false_iff_ne.mpr (by omega : n ≠ 1), beq_eq_false_iff_ne.mpr h3]; rfl
  have hn : ((n.toNat : Nat) : Int) = n := Int.toNat_of_nonneg (by omega)
  have h5 : z.length ≤ 16777216 := by
    rw [sizeLine_eq] at h4
    have : z.length * 1 ≤ z.length * n.toNat := Nat.mul_le_mul_left _ (by omega)
    omega
  refine PySem.P.mul_str c1 (fun _ _ => ?_) (fun _ _ => ?_) ?_
  · have h6 : (2 ^ 63 - 1 : Int) / 1000000 ≤ (2 ^ 63 - 1) / n := by
      refine (Int.le_ediv_iff_mul_le (by omega)).mpr ?_
      have : (2 ^ 63 - 1 : Int) / 1000000 * n ≤ (2 ^ 63 - 1 : Int) / 1000000 * 1000000 := Int.mul_le_mul_of_nonneg_left h2 (by decide)
      omega
    omega
  · unfold Builtin.Str.tooLong
    exact decide_eq_false (by omega)
  · rw [if_neg (by omega), c2, if_neg (by exact Bool.false_ne_true)]
    exact ⟨by rw [show (⟨List.foldl (fun x1 x2 => x1 ++ x2) #[] (List.replicate n.toNat z.cps)⟩ : Str) = repS z n from rfl, repS_len]; exact h4, .str (repS z n), H, I.tok _, ⟨_, rfl⟩, q⟩
def dMulS : R2D := fun a b st Q => ∃ z n, a = .str z ∧ b = .int n ∧ 2 ≤ n ∧ n ≤ 1000000 ∧ z.length ≠ 0 ∧ z.length * n.toNat ≤ sizeLine ∧ Q (.str (repS z n)) st
theorem z_mulS {K : PySem.W.Frag} : Rz K rRepS dMulS where
  mo := fun _ _ _ _ _ h ⟨z, n, e1, e2, h1, h2, h3, h4, q⟩ => ⟨z, n, e1, e2, h1, h2, h3, h4, h _ _ q⟩
  on := fun {H io F st x y a b Q} R n1 n2 ⟨z, n, e1, e2, h1, h2, h3, h4, q⟩ => by
    subst e1 e2
    cases n1
    cases n2
    exact ⟨z, n, rfl, rfl, h1, h2, h3, h4, kE_now R (.str _) q⟩
theorem v_mulS {x : Str} {k : Int} {st : Sto} {Q : DK} : dMulS (.str x) (.int k) st Q = (2 ≤ k ∧ k ≤ 1000000 ∧ x.length ≠ 0 ∧ x.length * k.toNat ≤ sizeLine ∧ Q (.str (repS x k)) st) :=
  propext ⟨fun ⟨_, _, e1, e2, h⟩ => by cases e1; cases e2; exact h, fun h => ⟨_, _, rfl, rfl, h⟩⟩
theorem v_rgx1 {n : Int} {P : Int → Prop} : (∃ b, D.int n = .int b ∧ P b) = P n := propext ⟨fun ⟨_, e, h⟩ => by cases e; exact h, fun h => ⟨_, rfl, h⟩⟩
theorem v_rgx2 {m n : Int} {P : Int → Int → Prop} : (∃ a b, D.int m = .int a ∧ D.int n = .int b ∧ P a b) = P m n := propext ⟨fun ⟨_, _, e, e2, h⟩ => by cases e; cases e2; exact h, fun h => ⟨_, _, rfl, rfl, h⟩⟩
section
variable {prog : Program} {w : World} {A : Around} {E : Value → Shared → Prop} {s : Shared}
theorem places_rev (n : Nat) : Builtin.Slice.slicePlaces ((n : Int) - 1) (-1) (-1) = n := by
  unfold Builtin.Slice.slicePlaces
  rw [if_neg (by decide : ¬ ((-1 : Int) > 0))]
  by_cases h : (n : Int) - 1 > -1
  · rw [if_pos h, show (n : Int) - 1 - -1 - 1 = (n : Int) - 1 by omega, show (- (-1) : Int) = 1 from rfl, Int.ediv_one]
    omega
  · rw [if_neg h]
    have : n = 0 := by omega
    subst this; rfl
theorem pick_rev (xs : Array Value) : ((List.range xs.size).filterMap fun (m : Nat) => xs[(((xs.size : Int) - 1) + (m : Int) * (-1)).toNat]?).toArray = xs.toList.reverse.toArray := by
  congr 1
  apply List.ext_getElem?
  intro i
  have key : ∀ k : Nat, k ≤ xs.size → (List.range k).filterMap (fun (m : Nat) => xs[(((xs.size : Int) - 1) + (m : Int) * (-1)).toNat]?) = xs.toList.reverse.take k := by
    intro k
    induction k with
    | zero => intro _; simp
    | succ k ih =>
      intro hk
      have e : (((xs.size : Int) - 1) + (k : Int) * (-1)).toNat = xs.size - 1 - k := by omega
      have hx : xs[xs.size - 1 - k]? = some xs[xs.size - 1 - k] := Array.getElem?_eq_getElem (by omega)
      rw [List.range_succ, List.filterMap_append, ih (by omega), List.take_add_one]
      congr 1
      rw [List.filterMap_cons, List.filterMap_nil, e, hx, List.getElem?_reverse (by rw [Array.length_toList]; omega), Array.length_toList, Array.getElem?_toList, hx]
      rfl
  rw [key xs.size (Nat.le_refl _), List.take_of_length_le (by rw [List.length_reverse, Array.length_toList]; omega)]
theorem sliceApplied_rev {sl : Addr} {vl vu vs : Value} {n : Nat} {Q : Int × Int × Nat → Shared → Prop} (hs : s.heap.IsSliceOf sl vl vu vs) (pl : IsPart vl none) (pu : IsPart vu none) (ps : IsPart vs (some (-1)))
    (h : Q ((n : Int) - 1, -1, n) s) : wpAny (model prog w) A (Builtin.Slice.sliceApplied (.ref sl) (pure (n : Int))) Q E s := by
  obtain ⟨os, hos, hcs, hds⟩ := id hs
  unfold Builtin.Slice.sliceApplied Builtin.Slice.sliceFields
  refine wpAny_bind (wpAny_bind (wpAny_field hos hds (x := vl) rfl (wpAny_bind (wpAny_field hos hds (x := vu) rfl (wpAny_bind (wpAny_field hos hds (x := vs) rfl (wpAny_pure ?_)))))))
  refine wpAny_bind (HT.slicePart_ ps ?_)
  show wpAny _ _ (if ((-1 : Int) == 0) = true then _ else _) _ _ s
  rw [if_neg (by decide)]
  refine wpAny_bind (HT.slicePart_ pl (wpAny_bind (HT.slicePart_ pu (wpAny_bind (wpAny_pure ?_)))))
  show wpAny _ _ (pure (((n : Int) - 1), (-1 : Int), Builtin.Slice.slicePlaces ((n : Int) - 1) (-1) (-1))) _ _ s
  rw [places_rev]
  exact wpAny_pure h
theorem getItem_tuple_rev {t sl : Addr} {items : Array Value} {vl vu vs : Value} {Q : Value → Shared → Prop} (ht : IsTup s.heap t items) (hs : s.heap.IsSliceOf sl vl vu vs) (pl : IsPart vl none) (pu : IsPart vu none) (ps : IsPart vs (some (-1)))
    (h : Q (.ref s.heap.objs.size) { s with heap := s.heap.push { cls := .type "tuple", data := .seq items.toList.reverse.toArray } }) (hsz : items.size ≤ sizeLine) : wpAny (model prog w) A (getItem (.ref t) (.ref sl)) Q E s := by
  have htake : sizeOk (.seq items.toList.reverse.toArray) := by
    show items.toList.reverse.toArray.size ≤ sizeLine
    rw [List.size_toArray, List.length_reverse, Array.length_toList]
    exact hsz
  obtain ⟨os, hos, hcs, hds⟩ := id hs
  have hTs : s.TypeIs (.ref sl) "slice" := ⟨os, hos, hcs⟩
  unfold getItem
  try with_reducible refine wpAny_holding ?_
  first | refine wpAny_bind (wpAny_pure ?_) | skip
  refine wpAny_bind (wpAny_sequenceKey ht.typeIs (by decide) ?_)
  refine wpAny_bind (wpAny_callSpecial?_slot (name := Str.ofString "__getitem__") ht.typeIs PyProof.Rows.slot_tuple_getitem
    (wpAny_call_entry PyProof.Rows.slot_tuple_getitem ht.typeIs entry_tuple_getitem ?_ (args_tuple_getitem _ _)))
  show wpAny _ _ (Builtin.Tuple.tupleItemsOf (.ref t) >>= _) _ _ s
  refine wpAny_bind (PyProof.Rows.tupleItemsOf_ ht ?_)
  refine wpAny_bind (wpAny_typeOf hTs ?_)
  rw [if_pos (by decide)]
  refine wpAny_bind (sliceApplied_rev hs pl pu ps ?_)
  have hno : ¬ ((((items.size : Int) - 1) == 0 && (-1 : Int) == 1 && items.size == items.size) = true) := by simp
  show wpAny _ _ (if (((items.size : Int) - 1) == 0 && (-1 : Int) == 1 && items.size == items.size) = true then _ else _) _ _ s
  rw [if_neg hno, pick_rev]
  first
    | exact wpAny_bind (m := Builtin.Tuple.tupleExact _) (wpAny_newObj_type (wpAny_pure ⟨_, rfl, wpAny_pure h⟩) htake)
    | exact wpAny_bind (m := Builtin.Tuple.tupleExact _) (wpAny_newObj_type (wpAny_bind (wpAny_pure (wpAny_pure ⟨_, rfl, wpAny_pure h⟩))) htake)
    | exact wpAny_bind (wpAny_bind (m := Builtin.Tuple.tupleExact _) (wpAny_newObj_type (wpAny_pure (wpAny_pure ⟨_, rfl, wpAny_pure h⟩)) htake))
    | exact wpAny_bind (wpAny_bind (m := Builtin.Tuple.tupleExact _) (wpAny_newObj_type (wpAny_pure ⟨_, rfl, wpAny_pure h⟩) htake))
end
def tRevA (K : PySem.W.Frag) (te : TE) : TE := fun σ H Q => te σ H fun x H1 => ∃ a xs, x = .ref a ∧ ((SqL K H1 a xs ∧ ∀ p, H1 p = none → Q (.ref p) (upd H1 p (.lst xs.reverse))) ∨ (SqT K H1 a xs ∧ XtK H1 Q xs.reverse))
theorem pe_revA {X : Cx} {e : Expr} {te : TE} {k : Nat} {p1 p2 p3 pos : Pos} (he : PE X e te) : PE X (.Subscript e (.Slice none none (some (.UnaryOp .USub (.Constant (.int 1) k p1) p2)) p3) pos) (tRevA X.K te) := by
  refine ⟨fun pins s σ H Q I h => ?_⟩
  refine Subscript_ (thn (he.run pins s σ H _ I h) fun v s1 ⟨x, H1, I1, r1, q1⟩ => ?_)
  obtain ⟨a, xs, ex, hx⟩ := q1
  subst ex
  cases r1
  have hst : PO X (some (.UnaryOp .USub (.Constant (.int 1) k p1) p2)) (tPart (tUn (rU fun i => .int (-i)) (tC (.int 1)))) := po_some (pe_un un_neg pe_int)
  refine wpAny_Slice (thn (po_none.run pins s1 σ H1 (fun o H2 => o = none ∧ H2 = H1) I1 ⟨rfl, rfl⟩) fun vl s2 ⟨l, H2, I2, pl, el, e2⟩ => ?_)
  subst el e2
  refine thn (po_none.run pins s2 σ H2 (fun o H3 => o = none ∧ H3 = H2) I2 ⟨rfl, rfl⟩) fun vu s3 ⟨u, H3, I3, pu, eu, e3⟩ => ?_
  subst eu e3
  refine thn (hst.run pins s3 σ H3 (fun o H4 => o = some (-1) ∧ H4 = H3) I3 ⟨1, rfl, -1, rfl, rfl, rfl⟩) fun vs s4 ⟨o, H4, I4, ps, eo, e4⟩ => ?_
  subst eo e4
  have I5 : Inv X pins σ H4 { s4 with heap := s4.heap.push { cls := .type "slice", data := .fields #[vl, vu, vs] } } := I4.kept (t' := s4.toks) fun b ob q => Heap.get?_push_of_some _ q
  show wpAny (model X.prog X.w) X.A (subscriptTail e (.Slice none none (some (.UnaryOp .USub (.Constant (.int 1) k p1) p2)) p3) (.ref a) (.ref s4.heap.objs.size)) (EP X pins σ Q) X.xe { s4 with heap := s4.heap.push { cls := .type "slice", data := .fields #[vl, vu, vs] } }
  rcases hx with ⟨hx, q⟩ | ⟨hx, q⟩
  · obtain ⟨its, r, ht, hz⟩ := I5.list hx
    have hlen := r.length
    refine tail_any (ops := [.ref a, .ref s4.heap.objs.size]) ht.isList.typeIs (PySem.slot_list_getitem.lookup) ?_ (by with_unfolding_all rfl)
    refine wpAny_getItem_list_slice ht.isList (Heap.IsSliceOf.new _ vl vu vs) pl pu ps (by decide) ?_ (by rw [List.size_toArray]; omega)
    rw [PySem.W.krv_pick]
    refine ⟨.ref _, _, I5.laid (t' := s4.toks) (o := .lst xs.reverse) (fun b ob q => Heap.get?_push_of_some _ q) (Nat.le_refl _) ?_, rfl, q _ (I5.hok.fresh (Nat.le_refl _))⟩
    exact ⟨by rw [List.length_reverse]; exact hz, _, 0, r.reverse, Heap.get?_push_size _ rfl⟩
  · obtain ⟨its, r, ht, hz⟩ := I5.tuple hx
    have hlen := r.length
    refine tail_any (ops := [.ref a, .ref s4.heap.objs.size]) ht.typeIs (PyProof.Rows.slot_tuple_getitem.lookup) ?_ (by with_unfolding_all rfl)
    refine getItem_tuple_rev ht (Heap.IsSliceOf.new _ vl vu vs) pl pu ps ?_ (by rw [List.size_toArray]; omega)
    exact new_tup I5 (by rw [List.length_reverse]; exact hz) r.reverse q
def dRev (m : Bool) (a : D) (s : Sto) (Q : DK) : Prop := match rd s a with
  | .lst ds => newL m ds.reverse s Q
  | .tup ds => Q (.tup ds.reverse) s
  | _ => False
def wRevA (m : Bool) (wa : DE) : DE := fun env st Q => wa env st fun a s => dRev m a s Q
theorem we_revA {X : Cx} {a : Expr} {wa : DE} {pos : Pos} {m : Bool} {k : Nat} {p1 p2 p3 : Pos} (ha : WE X a wa) : WE X (.Subscript a (.Slice none none (some (.UnaryOp .USub (.Constant (.int 1) k p1) p2)) p3) pos) (wRevA m wa) := by
  refine ⟨fun _ _ _ _ h q => ha.mo _ _ _ _ (fun _ _ q => ?_) q, PE_imp (pe_revA ha.pe) fun σ H Q ⟨env, io, F, st, R, q⟩ => ?_⟩
  · unfold dRev at q ⊢
    split at q
    · exact newL_mo h q
    · exact h _ _ q
    · exact q
  refine tE_use ha.mo R q fun d s1 v io1 F1 H1 q1 t1 R1 n1 => ?_
  unfold dRev at q1
  split at q1
  · rename_i ds e
    obtain ⟨p, xs, rfl, h1, h2, h3⟩ := rd_lst R1.toRelH n1 e
    exact ⟨p, xs, rfl, .inl ⟨SqL.of h1, lay_new R1.toRelH h2.rev (by rw [List.length_reverse]; exact h3) (newL_mo (fun _ _ => kE_later t1) q1)⟩⟩
  · rename_i ds e
    cases rd_tup e
    cases n1 with
    | @tup p vs _ s r z =>
      exact ⟨p, vs, rfl, .inr ⟨SqT_mono R1.sub s.t, lay_tup R1.toRelH r.rev (by rw [List.length_reverse]; exact z) (kE_later t1 q1)⟩⟩
  · exact q1.elim
theorem v_revT {m : Bool} {ds : List D} {st : Sto} {Q : DK} : dRev m (.tup ds) st Q = Q (.tup ds.reverse) st := rfl
theorem v_revL {m : Bool} {ds : List D} {st : Sto} {Q : DK} : dRev m (.lst ds) st Q = newL m ds.reverse st Q := rfl
end DL
namespace DL
open PySem PySem.Spec PyProof.Rows L2
variable [Bs]
theorem PlainL.isList {h : Heap} {a : Addr} {its : Array Value} (p : PlainL h a its) : h.IsList a its := by
  obtain ⟨o, n, e, h1, h2, h3⟩ := p
  exact ⟨o, e, h1, n, h3⟩
def dEqE (f : Bool → Bool) : R2D := fun a b st Q => ∃ ds, rd st a = .lst ds ∧ rd st b = .lst [] ∧ Q (.bl (f ds.isEmpty)) st
theorem v_eqE {f : Bool → Bool} {ds : List D} {st : Sto} {Q : DK} : dEqE f (.lst ds) (.lst []) st Q = Q (.bl (f ds.isEmpty)) st :=
  propext ⟨fun ⟨_, e1, _, q⟩ => by cases e1; exact q, fun q => ⟨_, rfl, rfl, q⟩⟩
end DL
namespace DL
open PySem PySem.Spec PyProof.Rows L2
variable [Bs]
def fmet (ns : List Int) : Nat := (firstMet (fun i => ns.getD i 0) ns.length).length
theorem fmet_nodup {ns : List Int} (h : ns.Nodup) : fmet ns = ns.length := by
  unfold fmet
  rw [RZ.firstMet_nodup h _ (Nat.le_refl _), List.take_length]
theorem fmet_step {f : Nat → Int} : ∀ n : Nat, (firstMet f n).length = n → ∀ i j : Nat, i < j → j < n → f i ≠ f j
  | 0, _, _, _, _, h => absurd h (by omega)
  | n + 1, h, i, j, hij, hj => by
    have hle := firstMet_length_le f n
    rw [firstMet_succ] at h
    unfold step_dedup at h
    split at h
    · omega
    · rename_i hn
      rw [List.length_append, List.length_singleton] at h
      by_cases hjn : j < n
      · exact fmet_step n (by omega) i j hij hjn
      · have e : j = n := by omega
        subst e
        intro e
        rw [firstMet_any] at hn
        refine hn (List.any_eq_true.mpr ⟨f i, List.mem_map.mpr ⟨i, List.mem_range.mpr hij, rfl⟩, ?_⟩)
        rw [e]
        simp
theorem fmet_iff {ns : List Int} : fmet ns = ns.length ↔ ns.Nodup := by
  refine ⟨fun h => ?_, fmet_nodup⟩
  have := fmet_step _ h
  rw [List.nodup_iff_pairwise_ne, List.pairwise_iff_getElem]
  intro i j hi hj hij
  have := this i j hij hj
  rwa [List.getD_eq_getElem?_getD, List.getD_eq_getElem?_getD, List.getElem?_eq_getElem hi, List.getElem?_eq_getElem hj] at this
def tLenSetI (K : PySem.W.Frag) (ta : TE) : TE := fun σ H Q => ta σ H fun x H1 => ∃ l, ∃ ns : List Int, x = .ref l ∧ SqL K H1 l (ns.map V.int) ∧ ns.length + 1 < scanBound ∧ Q (.int (fmet ns : Nat)) H1
section
variable {X : Cx}
theorem pe_lenSetI {a : Expr} {ta : TE} {p p2 q pos : Pos} (hc : X.calm = true) (hg : Gl X "len") (hm : X.mg "len" = none) (hg2 : Gl X "set") (hm2 : X.mg "set" = none) (ha : PE X a ta)
    (na : starEach [a] X.env = (false, eval a X.env) :: starEach [] X.env := by rfl) : PE X (.Call (.Name "len" p) [.Call (.Name "set" p2) [a] [] q] [] pos) (tLenSetI X.K ta) := by
  refine ⟨fun pins s σ H Q I h => ?_⟩
  refine Call_ (ld_blt I hg hm boot_len ?_)
  refine PyProof.Rows.callWith_builtin1 (PyProof.Rows.args_cons ?_ rfl) rfl rfl
  refine Call_ (ld_blt I hg2 hm2 boot_set ?_)
  refine PyProof.Rows.callWith_type1 (PyProof.Rows.args_cons (thn (ha.run pins s σ H _ I h) fun v s1 ⟨x, H1, I1, r1, q1⟩ => PyProof.Rows.args_nil ?_) na) na rfl
  obtain ⟨l, ns, rfl, hq, h1, q1⟩ := q1
  cases r1
  obtain ⟨its, r, pl, hz⟩ := I1.list hq
  have hi := r.ints
  have hsz : its.toArray.size = ns.length := by rw [List.size_toArray, hi.length]
  refine PySem.call_set_list (I1.ok.hd hc) pl.isList (by simpa using hi) (by rw [hsz]; exact h1) fun h' tk hS hk => ?_
  rw [hsz] at hS
  refine PyProof.Rows.args_nil ?_
  obtain ⟨o, es, ep, t, ho, hex, hd, _, _, _, hf, hn⟩ := hS
  have I2 : Inv X pins σ H1 { s1 with heap := h', toks := tk } := I1.kept fun b o e => hk b o (Heap.lt_size e) e
  have hle := firstMet_length_le (fun i => ns.getD i 0) ns.length
  have hsb : scanBound = 4096 := rfl
  refine PySem.call_len_set ho hex hd hf (by rw [hn]; omega) ⟨.int (fmet ns : Nat), H1, I2.tok _, ⟨_, by rw [hn]; rfl⟩, q1⟩
def wLenSet (wa : DE) : DE := fun env st Q => wa env st fun d s => ∃ ns : List Int, rd s d = .lst (ns.map .int) ∧ ns.length ≤ 4000 ∧ Q (.int (fmet ns : Nat)) s
theorem we_lenSet {a : Expr} {wa : DE} {p p2 q pos : Pos} (hc : X.calm = true) (hg : Gl X "len") (hm : X.mg "len" = none) (hg2 : Gl X "set") (hm2 : X.mg "set" = none) (ha : WE X a wa)
    (na : starEach [a] X.env = (false, eval a X.env) :: starEach [] X.env := by rfl) : WE X (.Call (.Name "len" p) [.Call (.Name "set" p2) [a] [] q] [] pos) (wLenSet wa) := by
  refine ⟨fun _ _ _ _ i q => ha.mo _ _ _ _ (fun _ _ ⟨ns, h1, h2, q⟩ => ⟨ns, h1, h2, i _ _ q⟩) q, PE_imp (pe_lenSetI hc hg hm hg2 hm2 ha.pe na) fun σ H Q ⟨env, io, F, st, R, q⟩ => ?_⟩
  refine tE_use ha.mo R q fun d s1 v io1 F1 H1 ⟨ns, h1, h2, q1⟩ t1 R1 n1 => ?_
  obtain ⟨l, xs, rfl, hl, hx, _⟩ := rd_lst R1.toRelH n1 h1
  rw [den_ints hx] at hl
  exact ⟨l, ns, rfl, .of hl, by show ns.length + 1 < 4096; omega, kE_at q1 t1 R1.toRelH (.int _)⟩
theorem den_intL {K : PySem.W.Frag} {io : List Addr} {F : Hp} : ∀ ns : List Int, DenL K io F (ns.map V.int) (ns.map D.int)
  | [] => .nil
  | n :: r => .cons (.int n) (den_intL r)
end
abbrev dPair (p : Int × Int) : D := .tup [.int p.1, .int p.2]
def LexLe (p q : Int × Int) : Prop := p.1 < q.1 ∨ (p.1 = q.1 ∧ p.2 ≤ q.2)
def IsP (K : PySem.W.Frag) (H : Hp) (x : V) (p : Int × Int) : Prop := ∃ t, x = .ref t ∧ SqT K H t [.int p.1, .int p.2]
def rSortPD (K : PySem.W.Frag) : List V → Hp → VK → Prop := fun vs H Q => ∃ (a : Addr) (xs : List V) (ps : List (Int × Int)), vs = [V.ref a] ∧ SqL K H a xs ∧ Paired (IsP K H) xs ps ∧
  ∀ ys qs p, qs.Perm ps → qs.Pairwise LexLe → ys.length = qs.length → (∀ z ∈ ys.zip qs, z ∈ xs.zip ps) → H p = none → Q (.ref p) (upd H p (.lst ys))
open Classical in
noncomputable def kP (K : PySem.W.Frag) (H : Hp) (x : V) : Int × Int := if h : ∃ p, IsP K H x p then Classical.choose h else (0, 0)
theorem kP_eq {X : Cx} {pins : List (Addr × Obj)} {σ : L2.St} {H : Hp} {s : Shared} (I : Inv X pins σ H s) {x : V} {p : Int × Int} (h : IsP X.K H x p) : kP X.K H x = p := by
  unfold kP
  rw [dif_pos ⟨p, h⟩]
  obtain ⟨t, e1, h1⟩ := Classical.choose_spec (⟨p, h⟩ : ∃ p, IsP X.K H x p)
  obtain ⟨t', e2, h2⟩ := h
  rw [e1] at e2
  cases e2
  have := I.tuple_inj h1 h2
  injection this with a b
  injection b with b _
  injection a with a
  injection b with b
  exact Prod.ext a b
theorem paired_map {α β : Type} {R : α → β → Prop} {k : α → β} (hk : ∀ x p, R x p → k x = p) : ∀ {xs : List α} {ps : List β}, Paired R xs ps → xs.map k = ps
  | _, _, .nil => rfl
  | _, _, .cons h t => by rw [List.map_cons, hk _ _ h, paired_map hk t]
theorem paired_mem {α β : Type} {R : α → β → Prop} : ∀ {xs : List α} {ps : List β}, Paired R xs ps → ∀ x ∈ xs, ∃ p, R x p
  | _, _, .cons h t, x, hx => by
    rcases List.mem_cons.mp hx with e | hx
    · subst e; exact ⟨_, h⟩
    · exact paired_mem t x hx
theorem zip_self {α β : Type} (k : α → β) : ∀ xs : List α, xs.zip (xs.map k) = xs.map fun x => (x, k x)
  | [] => rfl
  | x :: r => by rw [List.map_cons, List.zip_cons_cons, zip_self k r, List.map_cons]
theorem cr_sortedPD {X : Cx} : CallR X (.builtin "sorted") (rSortPD X.K) := by
  intro pins s σ H vs us Q I r h
  obtain ⟨a, xs, ps, rfl, hs, hx, q⟩ := h
  obtain ⟨its, rv, hl, hz⟩ := I.list hs
  obtain ⟨u, rfl, ru⟩ := vals1 r
  obtain rfl : u = Value.ref a := ru
  have hmap := paired_map (fun x p h => kP_eq I h) hx
  have hall : ∀ x ∈ xs, IsP X.K H x (kP X.K H x) := fun x hm => by
    obtain ⟨p, hp⟩ := paired_mem hx x hm
    rw [kP_eq I hp]; exact hp
  obtain ⟨e1, e2⟩ := refs_back rv fun x m => by
    obtain ⟨t, e, _⟩ := hall x m
    exact ⟨t, e⟩
  refine SrtO.sorted_pairsO (k := fun u => kP X.K H (backV u)) hl.isList (by rw [← rv.length]; exact hz) (fun v hv => ?_) fun h' d out h1 h2 kp hd hn => ?_
  · obtain ⟨t, rfl⟩ := e2 v hv
    have hm : V.ref t ∈ xs := by rw [e1]; exact List.mem_map.mpr ⟨_, hv, rfl⟩
    obtain ⟨t', e, ht⟩ := hall _ hm
    cases e
    obtain ⟨its2, r2, hT, _⟩ := I.tuple ht
    obtain ⟨o, ho, hc, n, hd⟩ := hT
    obtain ⟨u1, u2, rfl, ri, rj⟩ := vals2 r2
    obtain ⟨t1, rfl⟩ := ri
    obtain ⟨t2, rfl⟩ := rj
    exact ⟨t, o, t1, t2, n, rfl, ho, hc, hd⟩
  · have h3 : ∀ u ∈ out, ∃ a, u = Value.ref a := fun u hu => e2 u (h2.perm.mem_iff.mp hu)
    obtain ⟨n, hn⟩ := hn
    have hb : SrtO.Stb (ltP (kP X.K H)) (out.map backV) xs := by
      rw [e1]
      exact SrtO.Stb.map (ltP_swo (kP X.K H)) backV h2
    have hsr : SrtO.Srtd (ltP (kP X.K H)) (out.map backV) := SrtO.srtd_map h1
    refine ⟨.ref d, upd H d (.lst (out.map backV)), I.laid (t' := s.toks) kp hd ⟨?_, out, n, vals_back h3, hn⟩, rfl, q (out.map backV) ((out.map backV).map (kP X.K H)) d ?_ ?_ (List.length_map (f := kP X.K H)).symm (fun z hz => ?_) (I.hok.fresh hd)⟩
    · rw [hb.len]
      exact hz
    · rw [← hmap]; exact hb.perm.map _
    · refine List.pairwise_map.mpr (List.Pairwise.imp (fun {x y} h => ?_) hsr)
      have := SrtO.lexB_no.mp h
      unfold LexLe
      omega
    · rw [zip_self] at hz
      obtain ⟨y, hy, rfl⟩ := List.mem_map.mp hz
      rw [← hmap, zip_self]
      exact List.mem_map.mpr ⟨y, hb.perm.mem_iff.mp hy, rfl⟩
/-- sorted(xs): of ints, or of pairs of ints -/
def bSorted (m : Bool) : RLD := fun ds st Q => ∃ d, ds = [d] ∧ ((∃ ns : List Int, rd st d = .lst (ns.map .int) ∧ ∀ ns' : List Int, ns'.Perm ns → ns'.Pairwise (· ≤ ·) → newL m (ns'.map .int) st Q) ∨
  (∃ ps : List (Int × Int), rd st d = .lst (ps.map dPair) ∧ ∀ ps' : List (Int × Int), ps'.Perm ps → ps'.Pairwise LexLe → newL m (ps'.map dPair) st Q))
theorem den_pairs {K : PySem.W.Frag} {io : List Addr} {F H : Hp} (hs : ∀ a o, F a = some o → H a = some o) : ∀ {xs : List V} {ps : List (Int × Int)}, DenL K io F xs (ps.map dPair) → Paired (IsP K H) xs ps
  | [], [], _ => .nil
  | x :: xs, p :: ps, .cons a b => by
    refine .cons ?_ (den_pairs hs b)
    cases a with
    | tup s1 r1 _ =>
      cases r1 with
      | cons a1 r1 => cases r1 with
        | cons b1 r1 =>
          cases r1
          cases a1
          cases b1
          exact ⟨_, rfl, SqT_mono hs s1.t⟩
theorem den_zip {K : PySem.W.Frag} {io : List Addr} {F : Hp} : ∀ {xs : List V} {ps : List (Int × Int)}, DenL K io F xs (ps.map dPair) → ∀ z ∈ xs.zip ps, Den K io F z.1 (dPair z.2)
  | [], [], _, z, hz => by cases hz
  | x :: xs, p :: ps, .cons a b, z, hz => by
    rw [List.zip_cons_cons] at hz
    rcases List.mem_cons.mp hz with e | hz
    · subst e; exact a
    · exact den_zip b z hz
theorem den_of_zip {K : PySem.W.Frag} {io : List Addr} {F : Hp} : ∀ {xs : List V} {ps : List (Int × Int)}, xs.length = ps.length → (∀ z ∈ xs.zip ps, Den K io F z.1 (dPair z.2)) → DenL K io F xs (ps.map dPair)
  | [], [], _, _ => .nil
  | x :: xs, p :: ps, hl, h => .cons (h (x, p) (by rw [List.zip_cons_cons]; exact List.mem_cons_self)) (den_of_zip (by simpa using hl) fun z hz => h z (by rw [List.zip_cons_cons]; exact List.mem_cons_of_mem _ hz))
theorem z_sorted {K : PySem.W.Frag} {m : Bool} : RzL K (fun vs H Q => rSortedI K vs H Q ∨ rSortPD K vs H Q) (bSorted m) where
  mo := fun ds s Q Q' h ⟨d, e1, q⟩ => ⟨d, e1, q.elim (fun ⟨ns, h1, q⟩ => .inl ⟨ns, h1, fun ns' h2 h3 => newL_mo h (q ns' h2 h3)⟩) fun ⟨ps, h1, q⟩ => .inr ⟨ps, h1, fun ps' h2 h3 => newL_mo h (q ps' h2 h3)⟩⟩
  on := fun {H io F st vs ds Q} R n ⟨d, e1, q⟩ => by
    subst e1
    obtain ⟨v, rfl, n1⟩ := n.one
    rcases q with ⟨ns, h1, q⟩ | ⟨ps, h1, q⟩
    · obtain ⟨a, xs, rfl, hl, hx, hz⟩ := rd_lst R n1 h1
      rw [den_ints hx] at hl
      refine .inl ⟨a, ns, rfl, .of hl, fun ns' p h2 h3 hp => ?_⟩
      rw [List.length_map] at hz
      exact lay_new R (den_intL ns') (by rw [List.length_map, h2.length_eq]; exact hz) (q ns' h2 h3) p hp
    · obtain ⟨a, xs, rfl, hl, hx, hz⟩ := rd_lst R n1 h1
      rw [List.length_map] at hz
      refine .inr ⟨a, xs, ps, rfl, .of hl, den_pairs R.sub hx, fun ys qs p h2 h3 h4 h5 hp => ?_⟩
      exact lay_new R (den_of_zip h4 fun z hz => den_zip hx z (h5 z hz)) (by rw [List.length_map, h2.length_eq]; exact hz) (q qs h2 h3) p hp
theorem cr_sortedB {X : Cx} : CallR X (.builtin "sorted") (fun vs H Q => rSortedI X.K vs H Q ∨ rSortPD X.K vs H Q) := cr_sortedI.or cr_sortedPD
theorem bb_sorted : bootBuiltins "sorted" = some (.builtin "sorted") := by decide +kernel
end DL
namespace DL
open PySem PySem.Spec PyProof.Rows L2
variable [Bs]
def IsKey (h : Heap) (v : Value) (x : Int) : Prop := ∃ a o t y n, v = .ref a ∧ h.get? a = some o ∧ o.cls = .type "tuple" ∧ o.data = .seq #[.int x t, y] n
theorem IsKey.keeps {h h' : Heap} {v : Value} {x : Int} (p : IsKey h v x) (k : ∀ b o, h.get? b = some o → o.cls = .type "tuple" → h'.get? b = some o) : IsKey h' v x := by
  obtain ⟨a, o, t, u, n, e, ho, hc, hd⟩ := p
  exact ⟨a, o, t, u, n, e, k _ _ ho hc, hc, hd⟩
theorem firsts_key {h : Heap} : ∀ {vs : List Value}, (∀ v ∈ vs, ∃ x, IsKey h v x) → ∃ fs : List Value, PySem.W.KatTups h vs fs ∧ fs.length = vs.length ∧ ∀ f ∈ fs, ∃ x t, f = Value.int x t
  | [], _ => ⟨[], PySem.W.KatTups.nil, rfl, fun _ hm => by simp at hm⟩
  | v :: vs, hp => by
    obtain ⟨fs, h1, h2, h3⟩ := firsts_key (vs := vs) fun v' hm => hp v' (List.mem_cons_of_mem _ hm)
    obtain ⟨x, a, o, t, u, n, e, ho, hc, hd⟩ := hp v List.mem_cons_self
    subst e
    refine ⟨.int x t :: fs, PySem.W.KatTups.cons ho hc hd rfl h1, by rw [List.length_cons, List.length_cons, h2], fun f hm => ?_⟩
    rcases List.mem_cons.mp hm with rfl | hm
    · exact ⟨x, t, rfl⟩
    · exact h3 f hm
section
variable {prog : Program} {w : World} {A : Around} {E : Value → Shared → Prop} {s : Shared}
theorem swo_key (k : Value → Int) : SrtO.Swo fun v u => decide (k v < k u) := by
  refine ⟨fun x y h => ?_, fun x y z h1 h2 => ?_⟩
  · have := of_decide_eq_true h
    exact decide_eq_false (by omega)
  · have := of_decide_eq_false h1
    have := of_decide_eq_false h2
    exact decide_eq_false (by omega)
theorem key_cmp {vs : List Value} {k : Value → Int} (hp : ∀ v ∈ vs, IsKey s.heap v (k v)) (hd : ∀ v ∈ vs, ∀ u ∈ vs, k v = k u → v = u) : SrtO.Cmp prog w A s (tuples' true) (fun p => p.1 ∈ vs) (SrtO.lt2 fun v u => decide (k v < k u)) := by
  intro p q hm hm'
  have h1 := hp _ hm
  have h2 := hp _ hm'
  have h3 := hd _ hm _ hm'
  show wpAny (model prog w) A (keyLt' (tuples' true) p.1 q.1) (fun r s' => s' = s ∧ r = decide (k p.1 < k q.1)) (fun _ _ => False) s
  generalize k p.1 = x at h1 h3 ⊢
  generalize k q.1 = x' at h2 h3 ⊢
  obtain ⟨a, o, t, y, n, e, ho, hc, hdd⟩ := h1
  obtain ⟨a', o', t', y', n', e', ho', hc', hdd'⟩ := h2
  by_cases ex : x = x'
  · subst ex
    have e3 := h3 rfl
    rw [e, e'] at e3
    cases e3
    rw [ho] at ho'
    cases ho'
    rw [hdd] at hdd'
    cases hdd'
    rw [e, e']
    refine PySem.W.kat_lt ho hdd ho hdd ?_
    show PySem.W.KatLex prog w A true (decide (2 < 2)) _ [(.int x t, .int x t), (y, y)] 0 s
    refine PySem.W.kat_cons (SeqAt.EqAt.same (.int x t) prog w _ _ ?_)
    refine PySem.W.kat_go (fun e1 => ?_) (fun e1 => nomatch e1)
    refine PySem.W.kat_yes (PySem.W.kat_cons (SeqAt.EqAt.same y prog w _ _ ?_))
    refine PySem.W.kat_go (fun e2 => ?_) (fun e2 => nomatch e2)
    exact PySem.W.kat_yes (PySem.W.kat_nil ⟨rfl, (decide_eq_false (Int.lt_irrefl _)).symm⟩)
  · rw [e, e']
    refine PySem.W.kat_lt ho hdd ho' hdd' ?_
    show PySem.W.KatLex prog w A true (decide (2 < 2)) _ [(.int x t, .int x' t'), (y, y')] 0 s
    refine PySem.W.kat_cons (SeqAt.EqAt.int_int x t x' t' prog w _ _ ?_)
    refine PySem.W.kat_go (fun e1 => absurd (by simpa using e1) ex) (fun e1 => ?_)
    exact PySem.W.kat_no (oneLt_int ⟨rfl, rfl⟩)
theorem keys_sortableO {a : Addr} {vs : List Value} {k : Value → Int} (h0 : 0 < vs.length) (hp : ∀ v ∈ vs, IsKey s.heap v (k v)) (hd : ∀ v ∈ vs, ∀ u ∈ vs, k v = k u → v = u) (ha : ∀ o, s.heap.get? a = some o → o.cls ≠ .type "tuple") : SrtO.SortableO prog w A s a vs fun v u => decide (k v < k u) := by
  intro h' keep
  have hp' : ∀ v ∈ vs, IsKey h' v (k v) := fun v hm => (hp v hm).keeps fun b o e c => keep b o (fun z => by subst z; exact ha o e c) e
  obtain ⟨fs, h1, h2, h3⟩ := firsts_key fun v hm => ⟨_, hp' v hm⟩
  refine ⟨tuples' true, fun Q E hq => ?_, key_cmp hp' hd⟩
  refine PySem.W.kat_kind (T := .type "int") h1 (by omega) (fun f hm => ?_) (by rfl) ?_
  · obtain ⟨x, t, rfl⟩ := h3 f hm
    exact PySem.W.Looks.now
  · have e : (Value.type "int" != Value.type "tuple") = true := by first | decide +kernel | rfl | decide
    rw [e]
    exact hq
theorem sorted_keysO {l : Addr} {vs : List Value} {k : Value → Int} {Q : Value → Shared → Prop} (hl : s.heap.IsList l vs.toArray) (hz : vs.length ≤ sizeLine) (hp : ∀ v ∈ vs, IsKey s.heap v (k v)) (hd : ∀ v ∈ vs, ∀ u ∈ vs, k v = k u → v = u)
    (h : ∀ (h' : Heap) (d : Addr) (out : List Value), SrtO.Srtd (fun v u => decide (k v < k u)) out → SrtO.Stb (fun v u => decide (k v < k u)) out vs → (∀ b o, s.heap.get? b = some o → h'.get? b = some o) → s.heap.objs.size ≤ d → (∃ n, h'.get? d = some (seqObj "list" out.toArray n)) → Q (.ref d) { s with heap := h' }) :
    wpAny (model prog w) A (call (.builtin "sorted") [.ref l]) Q E s := by
  refine SrtO.sorted_ord (swo_key k) hl hz (fun h2 h₁ a ha kk => ?_) fun out hs hb => ?_
  · refine keys_sortableO (s := { s with heap := h₁ }) (by omega) (fun v hm => (hp v hm).keeps fun b o e _ => (kk b o e).2) hd fun o e => ?_
    have e' : some o = some (seqObj "list" vs.toArray 0) := e.symm.trans ha
    cases e'
    intro c
    exact absurd (Value.type.inj c) (by decide)
  · exact h _ _ out hs hb (fun b o e => PyProof.Rows.sortedAll_old e) (Nat.le_succ _) (PyProof.Rows.sortedAll_at s.heap vs out.toArray)
end
def IsK (K : PySem.W.Frag) (H : Hp) (x : V) (k : Int) : Prop := ∃ t y, x = .ref t ∧ SqT K H t [.int k, y]
def rSortKD (K : PySem.W.Frag) : List V → Hp → VK → Prop := fun vs H Q => ∃ (a : Addr) (xs : List V) (ks : List Int), vs = [V.ref a] ∧ SqL K H a xs ∧ Paired (IsK K H) xs ks ∧ ks.Nodup ∧
  ∀ ys js p, js.Perm ks → js.Pairwise (· < ·) → ys.length = js.length → (∀ z ∈ ys.zip js, z ∈ xs.zip ks) → H p = none → Q (.ref p) (upd H p (.lst ys))
open Classical in
noncomputable def kK (K : PySem.W.Frag) (H : Hp) (x : V) : Int := if h : ∃ p, IsK K H x p then Classical.choose h else 0
theorem kK_eq {X : Cx} {pins : List (Addr × Obj)} {σ : L2.St} {H : Hp} {s : Shared} (I : Inv X pins σ H s) {x : V} {p : Int} (h : IsK X.K H x p) : kK X.K H x = p := by
  unfold kK
  rw [dif_pos ⟨p, h⟩]
  obtain ⟨t, y, e1, h1⟩ := Classical.choose_spec (⟨p, h⟩ : ∃ p, IsK X.K H x p)
  obtain ⟨t', y', e2, h2⟩ := h
  rw [e1] at e2
  cases e2
  have := I.tuple_inj h1 h2
  injection this with a b
  injection a with a
theorem nodup_inj {α β : Type} {k : α → β} : ∀ {xs : List α}, (xs.map k).Nodup → ∀ x ∈ xs, ∀ y ∈ xs, k x = k y → x = y
  | a :: r, h, x, hx, y, hy, e => by
    rw [List.map_cons, List.nodup_cons] at h
    rcases List.mem_cons.mp hx with e1 | hx
    · rcases List.mem_cons.mp hy with e2 | hy
      · rw [e1, e2]
      · exact absurd (List.mem_map.mpr ⟨y, hy, by rw [← e, e1]⟩) h.1
    · rcases List.mem_cons.mp hy with e2 | hy
      · exact absurd (List.mem_map.mpr ⟨x, hx, by rw [e, e2]⟩) h.1
      · exact nodup_inj h.2 x hx y hy e
theorem cr_sortedKD {X : Cx} : CallR X (.builtin "sorted") (rSortKD X.K) := by
  intro pins s σ H vs us Q I r h
  obtain ⟨a, xs, ks, rfl, hs, hx, hnd, q⟩ := h
  obtain ⟨its, rv, hl, hz⟩ := I.list hs
  obtain ⟨u, rfl, ru⟩ := vals1 r
  obtain rfl : u = Value.ref a := ru
  have hmap := paired_map (fun x p h => kK_eq I h) hx
  have hall : ∀ x ∈ xs, IsK X.K H x (kK X.K H x) := fun x hm => by
    obtain ⟨p, hp⟩ := paired_mem hx x hm
    rw [kK_eq I hp]; exact hp
  obtain ⟨e1, e2⟩ := refs_back rv fun x m => by
    obtain ⟨t, _, e, _⟩ := hall x m
    exact ⟨t, e⟩
  have hin : ∀ v ∈ its, backV v ∈ xs := fun v hv => by rw [e1]; exact List.mem_map.mpr ⟨_, hv, rfl⟩
  refine sorted_keysO (k := fun u => kK X.K H (backV u)) hl.isList (by rw [← rv.length]; exact hz) (fun v hv => ?_) (fun v hv u hu e => ?_) fun h' d out h1 h2 kp hd hn => ?_
  · obtain ⟨t, rfl⟩ := e2 v hv
    obtain ⟨t', y, e, ht⟩ := hall _ (hin _ hv)
    cases e
    obtain ⟨its2, r2, hT, _⟩ := I.tuple ht
    obtain ⟨o, ho, hc, n, hd⟩ := hT
    obtain ⟨u1, u2, rfl, ri, rj⟩ := vals2 r2
    obtain ⟨t1, rfl⟩ := ri
    exact ⟨t, o, t1, u2, n, rfl, ho, hc, hd⟩
  · have := nodup_inj (k := kK X.K H) (by rw [hmap]; exact hnd) _ (hin v hv) _ (hin u hu) e
    obtain ⟨t, rfl⟩ := e2 v hv
    obtain ⟨t', rfl⟩ := e2 u hu
    have : V.ref t = V.ref t' := this
    cases this
    rfl
  · have h3 : ∀ u ∈ out, ∃ a, u = Value.ref a := fun u hu => e2 u (h2.perm.mem_iff.mp hu)
    obtain ⟨n, hn⟩ := hn
    have hperm : (out.map backV).Perm xs := by rw [e1]; exact h2.perm.map _
    have hp2 : ((out.map backV).map (kK X.K H)).Perm ks := by rw [← hmap]; exact hperm.map _
    refine ⟨.ref d, upd H d (.lst (out.map backV)), I.laid (t' := s.toks) kp hd ⟨?_, out, n, vals_back h3, hn⟩, rfl, q (out.map backV) ((out.map backV).map (kK X.K H)) d hp2 ?_ (List.length_map (f := kK X.K H)).symm (fun z hz => ?_) (I.hok.fresh hd)⟩
    · rw [hperm.length_eq]; exact hz
    · have hle : ((out.map backV).map (kK X.K H)).Pairwise (· ≤ ·) := by
        refine List.pairwise_map.mpr (List.pairwise_map.mpr (List.Pairwise.imp (fun {x y} h => ?_) h1))
        have := of_decide_eq_false h
        omega
      have hne := (hp2.nodup_iff.mpr hnd)
      rw [List.nodup_iff_pairwise_ne] at hne
      exact (hle.and hne).imp fun ⟨h1, h2⟩ => by omega
    · rw [zip_self] at hz
      obtain ⟨y, hy, rfl⟩ := List.mem_map.mp hz
      rw [← hmap, zip_self]
      exact List.mem_map.mpr ⟨y, hperm.mem_iff.mp hy, rfl⟩
/-- sorted(xs): of ints, of pairs of ints, of pairs of an int and something, no int twice -/
def dKey (p : Int × D) : D := .tup [.int p.1, p.2]
def bSortK (m : Bool) : RLD := fun ds st Q => bSorted m ds st Q ∨ ∃ d, ds = [d] ∧ ∃ ps : List (Int × D), rd st d = .lst (ps.map dKey) ∧ (ps.map (·.1)).Nodup ∧ ∀ ps' : List (Int × D), ps'.Perm ps → (ps'.map (·.1)).Pairwise (· < ·) → newL m (ps'.map dKey) st Q
theorem den_keys {K : PySem.W.Frag} {io : List Addr} {F H : Hp} (hs : ∀ a o, F a = some o → H a = some o) : ∀ {xs : List V} {ps : List (Int × D)}, DenL K io F xs (ps.map dKey) → Paired (IsK K H) xs (ps.map (·.1))
  | [], [], _ => .nil
  | x :: xs, p :: ps, .cons a b => by
    refine .cons ?_ (den_keys hs b)
    have a : Den K io F x (.tup [.int p.1, p.2]) := a
    cases a with
    | tup s1 r1 _ =>
      cases r1 with
      | cons a1 r1 => cases r1 with
        | cons b1 r1 =>
          cases r1
          cases a1
          exact ⟨_, _, rfl, SqT_mono hs s1.t⟩
theorem den_kzip {K : PySem.W.Frag} {io : List Addr} {F : Hp} : ∀ {xs : List V} {ps : List (Int × D)}, DenL K io F xs (ps.map dKey) → ∀ z ∈ xs.zip (ps.map (·.1)), ∃ p ∈ ps, p.1 = z.2 ∧ Den K io F z.1 (dKey p)
  | [], [], _, z, hz => by cases hz
  | x :: xs, p :: ps, .cons a b, z, hz => by
    rw [List.map_cons, List.zip_cons_cons] at hz
    rcases List.mem_cons.mp hz with e | hz
    · subst e; exact ⟨p, List.mem_cons_self, rfl, a⟩
    · obtain ⟨q, h1, h2⟩ := den_kzip b z hz
      exact ⟨q, List.mem_cons_of_mem _ h1, h2⟩
theorem keyed {K : PySem.W.Frag} {io : List Addr} {F : Hp} {ps : List (Int × D)} : ∀ {ys : List V} {js : List Int}, ys.length = js.length → (∀ z ∈ ys.zip js, ∃ p ∈ ps, p.1 = z.2 ∧ Den K io F z.1 (dKey p)) → ∃ qs : List (Int × D), qs.map (·.1) = js ∧ (∀ q ∈ qs, q ∈ ps) ∧ DenL K io F ys (qs.map dKey)
  | [], [], _, _ => ⟨[], rfl, fun _ h => (nomatch h), .nil⟩
  | y :: ys, j :: js, hl, h => by
    obtain ⟨p, hp, e, hd⟩ := h (y, j) (by rw [List.zip_cons_cons]; exact List.mem_cons_self)
    obtain ⟨qs, h1, h2, h3⟩ := keyed (ys := ys) (js := js) (by simpa using hl) fun z hz => h z (by rw [List.zip_cons_cons]; exact List.mem_cons_of_mem _ hz)
    refine ⟨p :: qs, by rw [List.map_cons, h1, e], fun q hq => ?_, .cons hd h3⟩
    rcases List.mem_cons.mp hq with e | hq
    · subst e; exact hp
    · exact h2 q hq
/-- of pairs without an int twice: as many of theirs, no int twice, are all of them -/
theorem perm_keys {ps qs : List (Int × D)} (hn : (ps.map (·.1)).Nodup) (hq : (qs.map (·.1)).Perm (ps.map (·.1))) (hm : ∀ q ∈ qs, q ∈ ps) : qs.Perm ps := by
  induction qs generalizing ps with
  | nil =>
    have := hq.length_eq
    rw [List.length_map, List.length_map] at this
    rw [List.eq_nil_of_length_eq_zero (l := ps) this.symm]
  | cons q r ih =>
    obtain ⟨i, hi, e⟩ := List.getElem_of_mem (hm q List.mem_cons_self)
    obtain ⟨l1, l2, hps⟩ := List.append_of_mem (hm q List.mem_cons_self)
    subst hps
    have hp : (l1 ++ q :: l2).Perm (q :: (l1 ++ l2)) := List.perm_middle
    have hn2 := (hp.map (·.1)).nodup_iff.mp hn
    rw [List.map_cons, List.nodup_cons] at hn2
    have hq2 := hq.trans (hp.map (·.1))
    rw [List.map_cons, List.map_cons] at hq2
    have hq3 := hq2.cons_inv
    have hnr := hq3.nodup_iff.mpr hn2.2
    refine ((ih hn2.2 hq3 fun x hx => ?_).cons q).trans hp.symm
    have := hp.mem_iff.mp (hm x (List.mem_cons_of_mem _ hx))
    rcases List.mem_cons.mp this with e | h
    · subst e
      exact absurd (hq3.mem_iff.mp (List.mem_map.mpr ⟨_, hx, rfl⟩)) hn2.1
    · exact h
theorem z_sortK {K : PySem.W.Frag} {m : Bool} : RzL K (fun vs H Q => (rSortedI K vs H Q ∨ rSortPD K vs H Q) ∨ rSortKD K vs H Q) (bSortK m) where
  mo := fun ds s Q Q' h q => q.elim (fun q => .inl (z_sorted (K := K).mo _ _ _ _ h q)) fun ⟨d, e1, ps, h1, hn, q⟩ => .inr ⟨d, e1, ps, h1, hn, fun ps' h2 h3 => newL_mo h (q ps' h2 h3)⟩
  on := fun {H io F st vs ds Q} R n q => by
    rcases q with q | ⟨d, e1, ps, h1, hn, q⟩
    · exact .inl (z_sorted.on R n q)
    · subst e1
      obtain ⟨v, rfl, n1⟩ := n.one
      obtain ⟨a, xs, rfl, hl, hx, hz⟩ := rd_lst R n1 h1
      rw [List.length_map] at hz
      refine .inr ⟨a, xs, ps.map (·.1), rfl, .of hl, den_keys R.sub hx, hn, fun ys js p h2 h3 h4 h5 hp => ?_⟩
      obtain ⟨qs, g1, g2, g3⟩ := keyed (ps := ps) (ys := ys) (js := js) h4 fun z hz => den_kzip hx z (h5 z hz)
      subst g1
      have hperm := perm_keys hn h2 g2
      exact lay_new R g3 (by rw [List.length_map, hperm.length_eq]; exact hz) (q qs hperm h3) p hp
theorem cr_sortedAll {X : Cx} : CallR X (.builtin "sorted") (fun vs H Q => (rSortedI X.K vs H Q ∨ rSortPD X.K vs H Q) ∨ rSortKD X.K vs H Q) := cr_sortedB.or cr_sortedKD
end DL
namespace PySem.AutoSeq1
end PySem.AutoSeq1
namespace L2
open PySem PySem.Spec PyProof.Rows
end L2
namespace DL
open PySem PySem.Spec PyProof.Rows L2
/-- an exception: its class's name, its fields -/
structure Exc where
  cls : Str
  fs : List (Str × D)
abbrev DX := Exc → En → Sto → Prop
def ExcR (K : PySem.W.Frag) (H : Hp) (io : List Addr) (F : Hp) (cls : Value) (d : Option Addr) (e : Exc) : Prop :=
  ∃ C, cls = .ref C ∧ PySem.W.nsIn K mainGlobals e.cls = some (some (.ref C)) ∧ ((d = none ∧ e.fs = []) ∨ ∃ dd fv, d = some dd ∧ H dd = some (.xd fv) ∧ F dd = none ∧ dd ∉ io ∧ DenF K io F fv e.fs)
section
variable {K : PySem.W.Frag} {io io' : List Addr} {F F' H H' : Hp} {st st' : Sto} {cls : Value} {d : Option Addr} {e : Exc}
theorem ExcR.next (s : Stp H io F H' io' F') (h : ExcR K H io F cls d e) : ExcR K H' io' F' cls d e := by
  obtain ⟨C, e1, e2, ⟨e3, e4⟩ | ⟨dd, fv, e3, e4, e5, e6, e7⟩⟩ := h
  · exact ⟨C, e1, e2, .inl ⟨e3, e4⟩⟩
  · obtain ⟨h1, h2, h3⟩ := s.beside e4 (fun _ z => nomatch z) e5 e6
    exact ⟨C, e1, e2, .inr ⟨dd, fv, e3, h1, h2, h3, Paired.mapP e7 fun p q z => ⟨z.1, s.den z.2⟩⟩⟩
end
/-- .. whose dict is new since H0 -/
def ExcX (H0 : Hp) (K : PySem.W.Frag) (H : Hp) (io : List Addr) (F : Hp) (cls : Value) (d : Option Addr) (e : Exc) : Prop := ExcR K H io F cls d e ∧ ∀ dd, d = some dd → H0 dd = none
/-- the wish for an exception, told in states of ours -/
def kX [B : Bs] (K : PySem.W.Frag) (W : WX) : DX := fun e env st => ∀ σ cls d io F H, Rel K σ H env io F st → ExcX B.H K H io F cls d e → W cls d σ H
/-- the wish R is one that the context takes -/
def TkD [Bs] (X : Cx) (R : DX) : Prop := ∃ W, Takes X W ∧ ∀ e env st, R e env st → kX X.K W e env st
/-- a def that may raise -/
structure SpecX extends Spec where
  rz : G → Sto → Exc → Sto → Prop
def spX (K : PySem.W.Frag) (S : SpecX) : Sp := fun vs H Q E => ∃ g io F st, (S.args g).length = S.n ∧ RelH K H io F st ∧ DenL K io F vs (S.args g) ∧ S.pre g st ∧ (∀ d st', S.post g st d st' → kE K H io F Q d st') ∧
  ∀ e st', S.rz g st e st' → ∀ cls d io' F' H', Stp H io F H' io' F' → RelH K H' io' F' st' → ExcX H K H' io' F' cls d e → E cls d H'
section
variable {P : Program} {w : World} {K : PySem.W.Frag} {mg : Str → Option Value} {base : Heap}
theorem takes_cx {x qual : Str} {N : List Str} {sc : Scope} {f : Addr} {cdv : Value} {A : Around} {outer : List Env} {s : Shared} {H : Hp} {E : XK} : Takes (cxOf (L2.CX P w) P w K mg base N qual sc f cdv A outer s H E) (fun cls d _ H' => E cls d H') :=
  fun u s' x => XE.leave (W := fun cls d _ H => E cls d H) (E := E) rfl rfl rfl (fun _ _ _ _ h => h) x
theorem fn_okX {x qual : Str} {st : Stmt} {f : Addr} {fd : FuncData} {N ps : List Str} {k : Nat} {S : SpecX} {wb : DX → DS} (F : Fun K x qual st f fd) (sc : FnScope N ps (defScope st)) (hn : S.n = ps.length)
    (body : ∀ [Bs] (cdv : Value) (A : Around) (outer : List Env) (s : Shared) (H : Hp) (E : XK) (R : DX), Room k (A.deeper (envOfC qual (defScope st) s.heap.objs.size f cdv)) → A.guards = some [] → TkD (cxOf (L2.CX P w) P w K mg base N qual (defScope st) f cdv A outer s H E) R →
      WB (cxOf (L2.CX P w) P w K mg base N qual (defScope st) f cdv A outer s H E) (defBody st) (wb R))
    (vc : ∀ g sto, (S.args g).length = S.n → S.pre g sto → wb (fun e _ s => S.rz g sto e s) (bodyEnds (S.post g sto)) (startE N (S.args g)) sto) : FnG P w K mg base (L2.CX P w) (k + 1) f fd ps (spX K S) := by
  refine fnG_of F sc (fun vs H Q E h => ?_) (fun cdv A outer s H vs Q E _ hr hgd h => ?_)
  · obtain ⟨g, io, Fz, sto, z, R, n, p, q⟩ := h
    rw [n.length, z, hn]
  · obtain ⟨g, io, Fz, sto, z, R, n, p, q, r⟩ := h
    letI : Bs := ⟨H, io, Fz⟩
    have B := body cdv A outer s H E (fun e _ s => S.rz g sto e s) hr hgd ⟨fun cls d _ H' => E cls d H', takes_cx (x := x), fun e env s hz σ cls d io' F' H' R' xr => r e s hz cls d io' F' H' R'.bs R'.toRelH xr⟩
    refine ⟨_, B.pe, startE N (S.args g), io, Fz, sto, start_rel R n, B.mo (bodyEnds (S.post g sto)) _ _ _ ?_ (vc g sto z p)⟩
    refine ⟨fun e s h => ?_, fun d s h => ?_, fun e s h => h.elim, fun e s h => h.elim⟩
    · exact fun σ' io' F' H' t R' => q .non s h .non io' F' H' t R'.toRelH .non
    · exact q d s h
end
section
variable {X : Cx} {x : Str} {C : Addr} {p pos pos' : Pos} {e : Expr} {es : List Expr} {wa : DA}
variable [Bs]
def wRaiseA (cn : Str) (wa : DA) (R : DX) : DS := fun _ env st => wa env st fun ds s => ds.length ≤ sizeLine ∧ R ⟨cn, []⟩ env s
def wRaiseF (cn f : Str) (wa : DA) (R : DX) : DS := fun _ env st => wa env st fun ds s => ∃ d, ds = [d] ∧ R ⟨cn, [(f, d)]⟩ env s
/-- what the written part says of a class without an own __init__ -/
structure ErrC (K : PySem.W.Frag) (cn : Str) (C : Addr) : Prop where
  aC : PySem.W.nsIn K mainGlobals cn = some (some (.ref C))
  q : PySem.W.excIn K C [.type "ValueError", .type "Exception", .type "BaseException", .type "object"] "ValueError.__new__" = true
  kC : PySem.W.keepIn K (.ref C) = true
  exC : PySem.W.subIn K (.ref C) (.type "BaseException") = some true
  tyC : PySem.W.typeIn K (.ref C) = some (.type "type")
theorem rel_exc {K : PySem.W.Frag} {σ : L2.St} {H : Hp} {env : En} {io : List Addr} {F : Hp} {st : Sto} {cn : Str} {C : Addr} {W : WX} {R : DX} (aC : PySem.W.nsIn K mainGlobals cn = some (some (.ref C))) (hW : ∀ e env st, R e env st → kX K W e env st) (Rl : Rel K σ H env io F st) (q : R ⟨cn, []⟩ env st) : W (.ref C) none σ H :=
  hW _ _ _ q σ _ _ io F H Rl ⟨⟨C, rfl, aC, .inl ⟨rfl, rfl⟩⟩, fun _ z => nomatch z⟩
theorem ws_raiseA {R : DX} {cn : Str} (hc : X.calm = true) (tk : TkD X R) (T : ErrC X.K x C) (gC : X.mg x = some (.ref C)) (hg : Gl X x) (ha : WA X (e :: es) wa) (hdb : (x == ("__debug__" : Str)) = false := by decide)
    (he : starEach (e :: es) X.env = (false, eval e X.env) :: starEach es X.env := by rfl) (hpl : (backTo pos (starEach es X.env)).any (·.1) = false := by rfl) : WS X (.Raise (some (.Call (.Name x p) (e :: es) [] pos)) none pos') (wRaiseA x wa R) := by
  obtain ⟨W, tk, hW⟩ := tk
  refine ⟨fun _ _ _ _ _ q => q, PS_imp (ps_raise hc tk (pmk_ownA F.excBase_ValueError T.q gC T.kC (raises_own T.exC T.tyC) hg ha.pe hdb he hpl)) fun D σ H ⟨env, io, F, st, Rl, q⟩ => ?_⟩
  refine tA_use ha.mo Rl q fun ds s1 vs io1 F1 H1 ⟨z, q1⟩ t1 R1 n1 => ⟨by rw [n1.length]; exact z, rel_exc T.aC hW R1 q1⟩
def spI (K : PySem.W.Frag) (f : Str) : Sp := fun vs H Q _ => ∃ a y C, vs = [.ref a, y] ∧ OexC K C ∧ PySem.W.findIn K (.ref C) f = some none ∧ H a = some (exo a C none) ∧ ∀ dx, H dx = none → dx ≠ a → Q .non (upd (upd H dx (exd dx [(f, y)])) a (exo a C (some dx)))
omit [Bs] in
theorem init_ok {P : Program} {w : World} {K : PySem.W.Frag} {mg : Str → Option Value} {base : Heap} {qual f pn : Str} {st : Stmt} {fI : Addr} {fd : FuncData} (F : Fun K "__init__" qual st fI fd) (sc : FnScope ["self", pn] ["self", pn] (defScope st))
    (hb : ∃ p1 p2 p3 p4, defBody st = [.Assign [.Attribute (.Name "self" p1) f p2] (.Name pn p3) p4]) (v0 : (defScope st).names.lookup ("self" : Str) = some .local) (v1 : (defScope st).names.lookup (pn : Str) = some .local) (hd : (pn == ("__debug__" : Str)) = false) (hcd : (pn == ("__classdict__" : Str)) = false)
    (hs : ∀ p1 p2 p3 p4 X, swapsWith (.Name pn p3) (some (.Attribute (.Name "self" p1) f p2)) p4 X = pure false) :
    FnOk P w K mg base CX0 1 fI fd ["self", pn] (spI K f) := by
  obtain ⟨oc, od, kV, doc, pm, an, cdv, ct, osl, rfl, lk, hcd2⟩ := F.ex
  obtain ⟨p1, p2, p3, p4, e⟩ := hb
  refine fn_of lk hcd2 sc (fun vs H Q E ⟨_, _, _, h, _⟩ => by rw [h]; rfl) fun A outer s H vs Q E hr ⟨a, y, C, hv, T, no, ha, q⟩ => ?_
  subst hv
  rw [e]
  exact ⟨_, pss_one (ps_ost (pe_var (i := 0) rfl (.inl v0)) (pe_var (i := 1) rfl (.inl v1) hd hcd) (hs _ _ _ _ _)), y, rfl, .ref a, rfl, a, C, rfl, T, no, .inl ⟨ha, fun dx h1 h2 => q dx h1 h2⟩⟩
structure ErrF (K : PySem.W.Frag) (cn f : Str) (C fI : Addr) : Prop where
  aC : PySem.W.nsIn K mainGlobals cn = some (some (.ref C))
  o : OexC K C
  iC : PySem.W.findIn K (.ref C) "__init__" = some (some (.ref fI))
  tI : PySem.W.typeIn K (.ref fI) = some (.type "function")
  no : PySem.W.findIn K (.ref C) f = some none
theorem ws_raiseF {R : DX} {f pn : Str} {fI : Addr} {fd : FuncData} (hc : X.calm = true) (tk : TkD X R) (T : ErrF X.K x f C fI) (F1 : FnOk X.prog X.w X.K X.mg X.base CX0 1 fI fd ["self", pn] (spI X.K f)) (hr : Room 2 X.A) (hb : Binds X.K fd ["self", pn] [])
    (gC : X.mg x = some (.ref C)) (hg : Gl X x) (ha : WA X [e] wa) (hdb : (x == ("__debug__" : Str)) = false := by decide)
    (he : starEach [e] X.env = (false, eval e X.env) :: starEach [] X.env := by rfl) : WS X (.Raise (some (.Call (.Name x p) [e] [] pos)) none pos') (wRaiseF x f wa R) := by
  obtain ⟨W, tk, hW⟩ := tk
  refine ⟨fun _ _ _ _ _ q => q, PS_imp (ps_raise hc tk (pmk_oex T.o T.iC T.tI F1 hr hb .nil pass0 hg gC ha.pe hdb he (by rfl))) fun D σ H ⟨env, io, F, st, Rl, q⟩ => ?_⟩
  refine tA_use ha.mo Rl q fun ds s1 vs io1 F1 H1 ⟨d, ed, q1⟩ t1 R1 n1 => ?_
  subst ed
  obtain ⟨y, rfl, ny⟩ := n1.one
  refine ⟨by simp, fun a hA => ?_⟩
  refine ⟨a, y, C, rfl, T.o, T.no, upd_same, fun dx hdx hne => ?_⟩
  have hdx1 : H1 dx = none := by rw [upd_ne hne] at hdx; exact hdx
  refine ⟨rfl, dx, [(f, y)], upd_same, by rw [upd_ne hne]; exact upd_same, hdx1, ?_⟩
  have eH : upd (del (upd (upd (upd H1 a (exo a C none)) dx (exd dx [(f, y)])) a (exo a C (some dx))) a) dx (.xd [(f, y)]) = upd H1 dx (.xd [(f, y)]) := by
    funext b
    by_cases hb : b = dx
    · rw [hb, upd_same, upd_same]
    · rw [upd_ne hb, upd_ne hb]
      by_cases ha : b = a
      · rw [ha, del_same, hA]
      · rw [del_ne ha, upd_ne ha, upd_ne hb, upd_ne ha]
  rw [eH]
  have t2 : Stp H1 io1 F1 (upd H1 dx (.xd [(f, y)])) io1 F1 := Stp.aside hdx1
  exact hW _ _ _ q1 σ _ _ io1 F1 _ (R1.next t2 (R1.toRelH.aside hdx1)) ⟨⟨C, rfl, T.aC, .inr ⟨dx, _, rfl, upd_same, R1.toRelH.notF hdx1, R1.toRelH.notIo hdx1, .cons ⟨rfl, t2.den ny⟩ .nil⟩⟩, fun dd z => by cases z; exact R1.bs.none_of hdx1⟩
end
structure Cl where
  c : Str
  nm : Option Nat
  ws : Addr → Exc → DS
def goneD (i : Nat) (D : DEnds) : DEnds := { nx := fun e s => D.nx (e.set i none) s, rt := D.rt, bk := fun e s => D.bk (e.set i none) s, ct := fun e s => D.ct (e.set i none) s }
def rawD (a : Addr) : D := .fn a [] (fun _ => none)
def Cl.go (cl : Cl) (a : Addr) (e : Exc) : DS := fun D env st => match cl.nm with
  | none => cl.ws a e D env st
  | some i => cl.ws a e (goneD i D) (env.set i (some (rawD a))) st
/-- the state s is one of ours with an exception's objects beside: sI is the state without them, B the ground that stays -/
structure Beside (X : Cx) (pins : List (Addr × Obj)) (σ : L2.St) (H : Hp) (B : Heap) (s : Shared) : Prop where
  ex : ∃ sI : Shared, Inv X pins σ H sI ∧ (∀ b o, sI.heap.get? b = some o → b ∉ frs X.stack → B.get? b = some o) ∧ sI.heap.UpToSlots s.heap ∧ s.os = sI.os
  stay : B.StaysIn s.heap
  bare : AllBare s.gens
/-- .. the exception at a is in hand -/
structure InHand (X : Cx) (pins : List (Addr × Obj)) (σ : L2.St) (H : Hp) (B : Heap) (cls : Value) (d : Option Addr) (a : Addr) (s : Shared) : Prop extends Beside X pins σ H B s where
  fly : HandSPX.FlyingZ B X.stack a (Zc cls d) s.heap
  out : H a = none
section
variable {X : Cx} {pins : List (Addr × Obj)} {σ : L2.St} {H : Hp} {B : Heap} {cls : Value} {d : Option Addr} {a : Addr} {s : Shared}
theorem Beside.go (b : Beside X pins σ H B s) {h : Heap} (st : B.StaysIn h) (up : s.heap.UpToSlots h) : Beside X pins σ H B { s with heap := h } := by
  obtain ⟨⟨sI, I, nb, up0, os⟩, _, ag⟩ := b
  exact ⟨⟨sI, I, nb, up0.trans up, os⟩, st, ag⟩
/-- no clause takes it: on it goes -/
theorem InHand.on (hs : X.stack = X.env :: X.outer) (hf : X.env.frame = some X.env.locals) (x : InHand X pins σ H B cls d a s) {W : WX} (tk : Takes X W) (w : W cls d σ H) {Q : Flow → Shared → Prop} : wpAny (model X.prog X.w) X.A (handleBy (.ref a) X.env []) Q X.xe s := by
  obtain ⟨⟨sI, I, nb, up, os⟩, _, ag⟩ := x.toBeside
  obtain ⟨_, _, _, oe, fv, T, _, _, e, _, dd, h1, _⟩ := id x.fly
  have flown : wpAny (model X.prog X.w) X.A (setFlight (.ref a) X.env.frame) (fun _ s1 => wpAny (model X.prog X.w) X.A (throw (.ref a) : Sem Flow) Q X.xe s1) X.xe s := by
    rw [hf]
    exact HandSPX.setFlight_upZ x.fly fun h k up2 => wpAny_throw (tk _ _ ⟨a, B, sI, pins, σ, H, cls, d, rfl, I, nb, up.trans up2, .inr (.inr k), x.out, os, ag, w⟩)
  refine wpAny_handleBy_nil ?_
  unfold PySem.passOn
  refine wpAny_bind (wpAny_field e dd h1 ?_)
  have ne : ¬((Value.ref T == Value.none) = true) := by simp
  rw [if_neg ne]
  first
    | exact wpAny_bind (wpAny_pure (wpAny_bind flown))
    | exact wpAny_bind flown
end
end DL
namespace DL
open PySem PySem.Spec PyProof.Rows L2
theorem fnG_calm {P : Program} {w : World} {K : PySem.W.Frag} {mg : Str → Option Value} {base : Heap} {k : Nat} {f : Addr} {fd : FuncData} {ps : List Str} {S : Spec} {Y : SpecX} (F : FnG P w K mg base (L2.CX P w) k f fd ps (spX K Y))
    (h : ∀ g st, (S.args g).length = S.n → S.pre g st → ∃ g', S.args g = Y.args g' ∧ (Y.args g').length = Y.n ∧ Y.pre g' st ∧ (∀ d st', Y.post g' st d st' → S.post g st d st') ∧ ∀ e st', ¬Y.rz g' st e st') : FnG P w K mg base CX0 k f fd ps (spOf K S) := by
  have key : ∀ vs H Q E, spOf K S vs H Q E → spX K Y vs H Q (fun _ _ _ => False) := fun vs H Q E ⟨g, io, Fz, st, z, R, n, p, q⟩ => by
    obtain ⟨g', e1, e2, p', po, no⟩ := h g st z p
    exact ⟨g', io, Fz, st, e2, R, e1 ▸ n, p', fun d st' hp => q d st' (po d st' hp), fun e st' hr => absurd hr (no e st')⟩
  refine ⟨fun vs H Q E q => F.len _ _ _ _ (key _ _ _ _ q), fun A outer s H args us vs Q E hr hgd e0 hb r q => codeAny_mono (F.run A outer s H args us vs Q (fun _ _ _ => False) hr hgd e0 hb r (key _ _ _ _ q)) fun res s' hq => ?_⟩
  match res, hq with
  | .error e, ⟨_, _, _, _, _, _, _, _, _, _, _, _, z⟩ => exact z.elim
  | .ok (.ret u), hq => exact hq
  | .ok .next, hq => exact hq
  | .ok .brk, hq => exact hq
  | .ok .cont, hq => exact hq
end DL
namespace DL
open PySem PySem.Spec PyProof.Rows L2
variable [Bs]
def downD (hi : Int) (n : Nat) : List D := (List.range n).map fun (i : Nat) => .int (hi - i)
theorem walkD_down {K : PySem.W.Frag} {io : List Addr} {F H : Hp} {hi : Int} {n : Nat} : WalkD K (Itc hi (-1) n) H io F (downD hi n) (fun _ => True) where
  go := fun i t R _ h => by show i < n; simpa [downD] using h
  stop := fun t R _ => by show n ≤ (downD hi n).length; simp [downD]
  yld := fun {H2 io2 F2 st2} i x H3 t R _ h y => by
    obtain ⟨e1, e2⟩ := y
    subst e1
    subst e2
    have h' : i < n := by simpa [downD] using h
    refine ⟨F2, .int (hi - i), Stp.refl, R, by simp [downD, h'], ?_⟩
    rw [show hi + (i : Int) * -1 = hi - i by omega]
    exact .int _
def iRange3 (wa : DA) : DI := fun env st R => wa env st fun ds s => ∃ i j, ds = [.int i, .int j, .int (-1)] ∧ (-(2 ^ 62) ≤ i ∧ i < 2 ^ 62 ∧ -(2 ^ 62) ≤ j ∧ j < 2 ^ 62) ∧ R (downD i (i - j).toNat) (fun _ => True) s
theorem wi_range3 {X : Cx} {pos p : Pos} {tg e e2 e3 : Expr} {wa : DA} (hg : Gl X "range") (hm : X.mg "range" = none) (ha : WA X [e, e2, e3] wa) (hs : starEach [e, e2, e3] X.env = (false, eval e X.env) :: starEach [e2, e3] X.env := by rfl) (hpl : (backTo pos (starEach [e2, e3] X.env)).any (·.1) = false := by rfl) :
    WI X tg (.Call (.Name "range" p) [e, e2, e3] [] pos) (iRange3 wa) := by
  refine ⟨fun _ _ _ _ h q => ha.mo _ _ _ _ (fun _ _ ⟨i, j, e, h1, q⟩ => ⟨i, j, e, h1, h _ _ _ q⟩) q, PI_imp (pi_range3 hg hm ha.pe hs hpl) fun σ H R ⟨env, io, F, st, Rl, q⟩ => ?_⟩
  refine tA_use ha.mo Rl q fun ds s1 vs io1 F1 H1 ⟨i, j, ed, ⟨b1, b2, b3, b4⟩, q1⟩ t1 R1 n1 => ?_
  subst ed
  cases n1 with
  | cons n1 n2 =>
    cases n1
    cases n2 with
    | cons n2 n3 =>
      cases n2
      cases n3 with
      | cons n3 n4 =>
        cases n3
        cases n4
        exact ⟨i, j, -1, (i - j).toNat, rfl, RgC.neg b1 b2 b3 b4, q1 _ _ _ _ t1 R1.toRelH walkD_down⟩
theorem v_rg3 {a b c : DE} {env : En} {st : Sto} {R : GK} : iRange3 (wCons a (wCons b (wCons c wNil))) env st R = a env st fun d s => b env s fun e s => c env s fun f s => ∃ i, d = .int i ∧ ∃ j, e = .int j ∧ f = .int (-1) ∧ (-(2 ^ 62) ≤ i ∧ i < 2 ^ 62 ∧ -(2 ^ 62) ≤ j ∧ j < 2 ^ 62) ∧ R (downD i (i - j).toNat) (fun _ => True) s := by
  unfold iRange3 wCons wNil
  congr 1
  funext d s
  congr 1
  funext e s
  congr 1
  funext f s
  exact propext ⟨fun ⟨i, j, e, h, q⟩ => by cases e; exact ⟨_, rfl, _, rfl, rfl, h, q⟩, fun ⟨i, e, j, e2, e3, h, q⟩ => by cases e; cases e2; cases e3; exact ⟨_, _, rfl, h, q⟩⟩
end DL
namespace DL
open PySem PySem.Spec PyProof.Rows L2 Srt SrtO
abbrev T3 := Int × Int × Int
def lt3 (p q : T3) : Bool := if p.1 = q.1 then (if p.2.1 = q.2.1 then decide (p.2.2 < q.2.2) else decide (p.2.1 < q.2.1)) else decide (p.1 < q.1)
def Lt3 (p q : T3) : Prop := p.1 < q.1 ∨ (p.1 = q.1 ∧ (p.2.1 < q.2.1 ∨ (p.2.1 = q.2.1 ∧ p.2.2 < q.2.2)))
theorem lt3_iff {p q : T3} : lt3 p q = true ↔ Lt3 p q := by
  unfold lt3 Lt3
  by_cases h1 : p.1 = q.1
  · rw [if_pos h1]
    by_cases h2 : p.2.1 = q.2.1
    · rw [if_pos h2, decide_eq_true_iff]; omega
    · rw [if_neg h2, decide_eq_true_iff]; omega
  · rw [if_neg h1, decide_eq_true_iff]; omega
theorem lt3_no {p q : T3} : lt3 p q = false ↔ ¬Lt3 p q := by
  rw [← lt3_iff, Bool.not_eq_true]
theorem swo3 {α : Type} (κ : α → T3) : SrtO.Swo fun a b => lt3 (κ a) (κ b) := by
  constructor
  · intro a b h
    have h := lt3_iff.mp h
    rw [lt3_no]
    unfold Lt3 at h ⊢
    omega
  · intro a b c h1 h2
    have h1 := lt3_no.mp h1
    have h2 := lt3_no.mp h2
    rw [lt3_no]
    unfold Lt3 at h1 h2 ⊢
    omega
def Tri (h : Heap) (v : Value) (p : T3) : Prop := ∃ (r : Addr) (ob : Obj) (t1 t2 t3 : Tok) (m : Nat), v = .ref r ∧ h.get? r = some ob ∧ ob.cls = .type "tuple" ∧ ob.data = .seq #[.int p.1 t1, .int p.2.1 t2, .int p.2.2 t3] m
theorem Tri.keep {h h' : Heap} {v : Value} {p : T3} (z : Tri h v p) (k : ∀ b ob, h.get? b = some ob → ob.cls = .type "tuple" → h'.get? b = some ob) : Tri h' v p := by
  obtain ⟨r, ob, t1, t2, t3, m, e, g, c, d⟩ := z
  exact ⟨r, ob, t1, t2, t3, m, e, k r ob g c, c, d⟩
theorem heads3 {h : Heap} : ∀ {ws : List Value}, (∀ v ∈ ws, ∃ p, Tri h v p) → ∃ gs : List Value, PySem.W.KatTups h ws gs ∧ gs.length = ws.length ∧ ∀ g ∈ gs, ∃ i t, g = Value.int i t
  | [], _ => ⟨[], PySem.W.KatTups.nil, rfl, fun _ z => nomatch z⟩
  | w :: ws, hw => by
    obtain ⟨gs, a1, a2, a3⟩ := heads3 fun v z => hw v (List.mem_cons_of_mem _ z)
    obtain ⟨p, r, ob, t1, t2, t3, m, rfl, g, c, d⟩ := hw w List.mem_cons_self
    refine ⟨.int p.1 t1 :: gs, PySem.W.KatTups.cons g c d rfl a1, congrArg (· + 1) a2, fun x hx => ?_⟩
    rcases List.mem_cons.mp hx with rfl | hx
    · exact ⟨_, _, rfl⟩
    · exact a3 x hx
section
variable {prog : Program} {w : World} {A : Around} {s : Shared}
theorem cmp3 {ws : List Value} {κ : Value → T3} (hw : ∀ v ∈ ws, Tri s.heap v (κ v)) : SrtO.Cmp prog w A s (tuples' true) (fun p => p.1 ∈ ws) (SrtO.lt2 fun a b => lt3 (κ a) (κ b)) := by
  intro x y mx my
  obtain ⟨r, ob, t1, t2, t3, m, e, g, c, d⟩ := hw _ mx
  obtain ⟨r', ob', u1, u2, u3, m', e', g', c', d'⟩ := hw _ my
  show wpAny (model prog w) A (keyLt' (tuples' true) x.1 y.1) (fun res s1 => s1 = s ∧ res = lt3 (κ x.1) (κ y.1)) (fun _ _ => False) s
  generalize κ x.1 = p at d ⊢
  generalize κ y.1 = q at d' ⊢
  obtain ⟨i1, i2, i3⟩ := p
  obtain ⟨j1, j2, j3⟩ := q
  dsimp only at d d'
  rw [e, e']
  refine PySem.W.kat_lt g d g' d' ?_
  show PySem.W.KatLex prog w A true (decide (3 < 3)) _ [(.int i1 t1, .int j1 u1), (.int i2 t2, .int j2 u2), (.int i3 t3, .int j3 u3)] 0 s
  have fin : ∀ {b : Bool}, lt3 (i1, i2, i3) (j1, j2, j3) = b → s = s ∧ b = lt3 (i1, i2, i3) (j1, j2, j3) := fun h => ⟨rfl, h.symm⟩
  refine PySem.W.kat_cons (SeqAt.EqAt.int_int i1 t1 j1 u1 prog w _ _ ?_)
  refine PySem.W.kat_go (fun z1 => ?_) (fun z1 => ?_)
  · have z1 : i1 = j1 := by simpa using z1
    refine PySem.W.kat_yes (PySem.W.kat_cons (SeqAt.EqAt.int_int i2 t2 j2 u2 prog w _ _ ?_))
    refine PySem.W.kat_go (fun z2 => ?_) (fun z2 => ?_)
    · have z2 : i2 = j2 := by simpa using z2
      refine PySem.W.kat_yes (PySem.W.kat_cons (SeqAt.EqAt.int_int i3 t3 j3 u3 prog w _ _ ?_))
      refine PySem.W.kat_go (fun z3 => ?_) (fun z3 => ?_)
      · have z3 : i3 = j3 := by simpa using z3
        refine PySem.W.kat_yes (PySem.W.kat_nil (fin ?_))
        unfold lt3
        rw [if_pos z1, if_pos z2]
        exact decide_eq_false (show ¬i3 < j3 by omega)
      · refine PySem.W.kat_no (PySem.W.kat_one _ _ (PyProof.Rows.lt_int (fin ?_)))
        unfold lt3
        rw [if_pos z1, if_pos z2]
    · have z2 : ¬i2 = j2 := by simpa using z2
      refine PySem.W.kat_no (PySem.W.kat_one _ _ (PyProof.Rows.lt_int (fin ?_)))
      unfold lt3
      rw [if_pos z1, if_neg z2]
  · have z1 : ¬i1 = j1 := by simpa using z1
    refine PySem.W.kat_no (PyProof.Rows.oneLt_int (fin ?_))
    unfold lt3
    rw [if_neg z1]
theorem able3 {l : Addr} {ws : List Value} {κ : Value → T3} (h0 : 0 < ws.length) (hw : ∀ v ∈ ws, Tri s.heap v (κ v)) (hl : ∀ ob, s.heap.get? l = some ob → ob.cls ≠ .type "tuple") : SrtO.SortableO prog w A s l ws fun a b => lt3 (κ a) (κ b) := by
  intro h2 kp
  have hw2 : ∀ v ∈ ws, Tri h2 v (κ v) := fun v z => (hw v z).keep fun b ob e c => kp b ob (fun q => hl ob (by rw [← q]; exact e) c) e
  obtain ⟨gs, a1, a2, a3⟩ := heads3 fun v z => ⟨_, hw2 v z⟩
  refine ⟨tuples' true, fun Q E hq => ?_, cmp3 hw2⟩
  refine PySem.W.kat_kind (T := .type "int") a1 (by omega) (fun g z => ?_) (by rfl) ?_
  · obtain ⟨i, t, rfl⟩ := a3 g z
    exact PySem.W.Looks.now
  · rw [show (Value.type "int" != Value.type "tuple") = true by first | decide +kernel | rfl]
    exact hq
theorem sorted3 {l : Addr} {ws : List Value} {κ : Value → T3} {E : Value → Shared → Prop} {Q : Value → Shared → Prop} (hl : s.heap.IsList l ws.toArray) (hz : ws.length ≤ sizeLine) (hw : ∀ v ∈ ws, Tri s.heap v (κ v))
    (q : ∀ (h2 : Heap) (d : Addr) (out : List Value), SrtO.Srtd (fun a b => lt3 (κ a) (κ b)) out → SrtO.Stb (fun a b => lt3 (κ a) (κ b)) out ws → (∀ b ob, s.heap.get? b = some ob → h2.get? b = some ob) → s.heap.objs.size ≤ d → (∃ n, h2.get? d = some (seqObj "list" out.toArray n)) → Q (.ref d) { s with heap := h2 }) :
    wpAny (model prog w) A (call (.builtin "sorted") [.ref l]) Q E s := by
  refine SrtO.sorted_ord (swo3 κ) hl hz (fun _ h1 a ha kk => ?_) fun out g1 g2 => ?_
  · refine able3 (s := { s with heap := h1 }) (by omega) (fun v z => (hw v z).keep fun b ob e _ => (kk b ob e).2) fun ob e c => ?_
    have e2 : some ob = some (seqObj "list" ws.toArray 0) := e.symm.trans ha
    cases e2
    exact absurd (Value.type.inj c) (by decide)
  · exact q _ _ out g1 g2 (fun b ob e => sortedAll_old e) (Nat.le_succ _) (sortedAll_at s.heap ws out.toArray)
end
variable [Bs]
abbrev dTrip (p : T3) : D := .tup [.int p.1, .int p.2.1, .int p.2.2]
def Is3 (K : PySem.W.Frag) (H : Hp) (x : V) (p : T3) : Prop := ∃ t, x = .ref t ∧ SqT K H t [.int p.1, .int p.2.1, .int p.2.2]
def rSort3 (K : PySem.W.Frag) : List V → Hp → VK → Prop := fun vs H Q => ∃ (a : Addr) (xs : List V) (ps : List T3), vs = [V.ref a] ∧ SqL K H a xs ∧ Paired (Is3 K H) xs ps ∧
  ∀ ys qs p, qs.Perm ps → qs.Pairwise (fun a b => ¬Lt3 b a) → ys.length = qs.length → (∀ z ∈ ys.zip qs, z ∈ xs.zip ps) → H p = none → Q (.ref p) (upd H p (.lst ys))
open Classical in
noncomputable def k3 (K : PySem.W.Frag) (H : Hp) (x : V) : T3 := if h : ∃ p, Is3 K H x p then Classical.choose h else (0, 0, 0)
theorem k3_eq {X : Cx} {pins : List (Addr × Obj)} {σ : L2.St} {H : Hp} {s : Shared} (I : Inv X pins σ H s) {x : V} {p : T3} (h : Is3 X.K H x p) : k3 X.K H x = p := by
  unfold k3
  rw [dif_pos ⟨p, h⟩]
  obtain ⟨t, e1, h1⟩ := Classical.choose_spec (⟨p, h⟩ : ∃ p, Is3 X.K H x p)
  obtain ⟨t', e2, h2⟩ := h
  rw [e1] at e2
  cases e2
  have := I.tuple_inj h1 h2
  simp only [List.cons.injEq, V.int.injEq, and_true] at this
  exact Prod.ext this.1 (Prod.ext this.2.1 this.2.2)
theorem cr_sorted3 {X : Cx} : CallR X (.builtin "sorted") (rSort3 X.K) := by
  intro pins s σ H vs us Q I r h
  obtain ⟨a, xs, ps, rfl, hs, hx, q⟩ := h
  obtain ⟨its, rv, hl, hz⟩ := I.list hs
  obtain ⟨u, rfl, ru⟩ := vals1 r
  obtain rfl : u = Value.ref a := ru
  have hmap := paired_map (fun x p h => k3_eq I h) hx
  have hall : ∀ x ∈ xs, Is3 X.K H x (k3 X.K H x) := fun x hm => by
    obtain ⟨p, hp⟩ := paired_mem hx x hm
    rw [k3_eq I hp]; exact hp
  obtain ⟨e1, e2⟩ := refs_back rv fun x m => by
    obtain ⟨t, e, _⟩ := hall x m
    exact ⟨t, e⟩
  refine sorted3 (κ := fun u => k3 X.K H (backV u)) hl.isList (by rw [← rv.length]; exact hz) (fun v hv => ?_) fun h' d out h1 h2 kp hd hn => ?_
  · obtain ⟨t, rfl⟩ := e2 v hv
    have hm : V.ref t ∈ xs := by rw [e1]; exact List.mem_map.mpr ⟨_, hv, rfl⟩
    obtain ⟨t', e, ht⟩ := hall _ hm
    cases e
    obtain ⟨its2, r2, hT, _⟩ := I.tuple ht
    obtain ⟨o, ho, hc, n, hd⟩ := hT
    cases r2 with
    | cons ri r2 => cases r2 with
      | cons rj r2 => cases r2 with
        | cons rk r2 =>
          cases r2
          obtain ⟨t1, rfl⟩ := ri
          obtain ⟨t2, rfl⟩ := rj
          obtain ⟨t3, rfl⟩ := rk
          exact ⟨t, o, t1, t2, t3, n, rfl, ho, hc, hd⟩
  · have h3 : ∀ u ∈ out, ∃ a, u = Value.ref a := fun u hu => e2 u (h2.perm.mem_iff.mp hu)
    obtain ⟨n, hn⟩ := hn
    have hb : SrtO.Stb (fun a b => lt3 (k3 X.K H a) (k3 X.K H b)) (out.map backV) xs := by
      rw [e1]
      exact SrtO.Stb.map (swo3 (k3 X.K H)) backV h2
    have hsr : SrtO.Srtd (fun a b => lt3 (k3 X.K H a) (k3 X.K H b)) (out.map backV) := SrtO.srtd_map h1
    refine ⟨.ref d, upd H d (.lst (out.map backV)), I.laid (t' := s.toks) kp hd ⟨?_, out, n, vals_back h3, hn⟩, rfl, q (out.map backV) ((out.map backV).map (k3 X.K H)) d ?_ ?_ (List.length_map (f := k3 X.K H)).symm (fun z hz => ?_) (I.hok.fresh hd)⟩
    · rw [hb.len]
      exact hz
    · rw [← hmap]; exact hb.perm.map _
    · exact List.pairwise_map.mpr (List.Pairwise.imp (fun {x y} h => lt3_no.mp h) hsr)
    · rw [zip_self] at hz
      obtain ⟨y, hy, rfl⟩ := List.mem_map.mp hz
      rw [← hmap, zip_self]
      exact List.mem_map.mpr ⟨y, hb.perm.mem_iff.mp hy, rfl⟩
/-- sorted(xs) of rows of three ints -/
def bSort3 (m : Bool) : RLD := fun ds st Q => ∃ d, ds = [d] ∧ ∃ ps : List T3, rd st d = .lst (ps.map dTrip) ∧ ∀ ps' : List T3, ps'.Perm ps → ps'.Pairwise (fun a b => ¬Lt3 b a) → newL m (ps'.map dTrip) st Q
theorem den_tr {K : PySem.W.Frag} {io : List Addr} {F H : Hp} (hs : ∀ a o, F a = some o → H a = some o) : ∀ {xs : List V} {ps : List T3}, DenL K io F xs (ps.map dTrip) → Paired (Is3 K H) xs ps
  | [], [], _ => .nil
  | x :: xs, p :: ps, .cons a b => by
    refine .cons ?_ (den_tr hs b)
    cases a with
    | tup s1 r1 _ =>
      cases r1 with
      | cons a1 r1 => cases r1 with
        | cons b1 r1 => cases r1 with
          | cons c1 r1 =>
            cases r1
            cases a1
            cases b1
            cases c1
            exact ⟨_, rfl, SqT_mono hs s1.t⟩
theorem den_zip3 {K : PySem.W.Frag} {io : List Addr} {F : Hp} : ∀ {xs : List V} {ps : List T3}, DenL K io F xs (ps.map dTrip) → ∀ z ∈ xs.zip ps, Den K io F z.1 (dTrip z.2)
  | [], [], _, z, hz => by cases hz
  | x :: xs, p :: ps, .cons a b, z, hz => by
    rw [List.zip_cons_cons] at hz
    rcases List.mem_cons.mp hz with e | hz
    · subst e; exact a
    · exact den_zip3 b z hz
theorem den_of_zip3 {K : PySem.W.Frag} {io : List Addr} {F : Hp} : ∀ {xs : List V} {ps : List T3}, xs.length = ps.length → (∀ z ∈ xs.zip ps, Den K io F z.1 (dTrip z.2)) → DenL K io F xs (ps.map dTrip)
  | [], [], _, _ => .nil
  | x :: xs, p :: ps, hl, h => .cons (h (x, p) (by rw [List.zip_cons_cons]; exact List.mem_cons_self)) (den_of_zip3 (by simpa using hl) fun z hz => h z (by rw [List.zip_cons_cons]; exact List.mem_cons_of_mem _ hz))
theorem z_sort3 {K : PySem.W.Frag} {m : Bool} : RzL K (rSort3 K) (bSort3 m) where
  mo := fun ds s Q Q' h ⟨d, e1, ps, h1, q⟩ => ⟨d, e1, ps, h1, fun ps' h2 h3 => newL_mo h (q ps' h2 h3)⟩
  on := fun {H io F st vs ds Q} R n ⟨d, e1, ps, h1, q⟩ => by
    subst e1
    obtain ⟨v, rfl, n1⟩ := n.one
    obtain ⟨a, xs, rfl, hl, hx, hz⟩ := rd_lst R n1 h1
    rw [List.length_map] at hz
    refine ⟨a, xs, ps, rfl, .of hl, den_tr R.sub hx, fun ys qs p h2 h3 h4 h5 hp => ?_⟩
    exact lay_new R (den_of_zip3 h4 fun z hz => den_zip3 hx z (h5 z hz)) (by rw [List.length_map, h2.length_eq]; exact hz) (q qs h2 h3) p hp
end DL
namespace DL
open PySem PySem.Spec PyProof.Rows PySem.W L2
variable [Bs]
def pyT (ns : List Int) : PyData := .tuple (ns.map .int)
theorem lexTok : ∀ a b : List Int, PyProof.Rows.lexLt itemOrd (keyToksAll (a.map PyData.int)) (keyToksAll (b.map PyData.int)) = HT.lexLt a b
  | [], [] => by rfl
  | [], y :: ys => by rfl
  | x :: xs, [] => by rfl
  | x :: xs, y :: ys => by
    have := lexTok xs ys
    rw [List.map_cons, List.map_cons, dataLt_cons (by rfl), HT.lexLt_cons, this, dataLt_int]
    have e : (PyData.int x).eqv (PyData.int y) = decide (x = y) := by
      simp only [PyData.eqv]
      by_cases h : x = y <;> simp [h]
    rw [e]
    by_cases h : x = y
    · rw [decide_eq_true h, if_pos rfl, if_pos h]
    · rw [decide_eq_false h, if_neg Bool.false_ne_true, if_neg h]
theorem dep_ints : ∀ ns : List Int, PyData.depthAll (ns.map PyData.int) = 0
  | [] => rfl
  | n :: r => by
    rw [List.map_cons]
    simp only [PyData.depthAll, PyData.depth, dep_ints r, Nat.max_self]
theorem dep_pyT (ns : List Int) : (pyT ns).depth = 1 := by
  unfold pyT
  simp only [PyData.depth, dep_ints]
theorem dep_pyTs : ∀ L : List (List Int), PyData.depthAll (L.map pyT) ≤ 1
  | [] => Nat.zero_le _
  | x :: L => by
    have := dep_pyTs L
    rw [List.map_cons]
    simp only [PyData.depthAll, dep_pyT]
    omega
theorem lt_pyT (a b : List Int) : dataLt (pyT a) (pyT b) = HT.lexLt a b := by
  unfold pyT
  rw [dataLt_tuple]
  exact lexTok a b
theorem alike_pyT (a b : List Int) : alike (pyT a) (pyT b) = true := alike_ints a b
theorem alikeAll_pyT (nss : List (List Int)) : PySem.W.AlikeAll (nss.map pyT) := by
  refine ⟨fun x hx y hy => ?_, fun x hx => ?_⟩
  · obtain ⟨a, _, rfl⟩ := List.mem_map.mp hx
    obtain ⟨b, _, rfl⟩ := List.mem_map.mp hy
    exact alike_pyT a b
  · obtain ⟨a, _, rfl⟩ := List.mem_map.mp hx
    exact fun h => nomatch h
/-- the first of the greatest rows -/
def maxR (w : List Int) (L : List (List Int)) : List Int := L.foldl (fun a y => if HT.lexLt a y = true then y else a) w
theorem maxD_pyT : ∀ (L : List (List Int)) (w : List Int), PySem.W.maxD (pyT w) (L.map pyT) = pyT (maxR w L)
  | [], w => rfl
  | y :: L, w => by
    have e : PySem.W.maxD (pyT w) ((y :: L).map pyT) = PySem.W.maxD (if dataLt (pyT w) (pyT y) = true then pyT y else pyT w) (L.map pyT) := rfl
    have e2 : maxR w (y :: L) = maxR (if HT.lexLt w y = true then y else w) L := rfl
    rw [e, e2, lt_pyT]
    split
    · exact maxD_pyT L y
    · exact maxD_pyT L w
theorem pyT_inj {a b : List Int} (h : pyT a = pyT b) : a = b := by
  unfold pyT at h
  have h := PyData.tuple.inj h
  exact List.map_inj_right (fun x y e => PyData.int.inj e) |>.mp h
def rMaxT (K : PySem.W.Frag) : List V → Hp → VK → Prop := fun vs H Q => ∃ (a : Addr) (xs : List V) (w : List Int) (L : List (List Int)), vs = [V.ref a] ∧ SqL K H a xs ∧ DpDL K H xs ((w :: L).map pyT) ∧
  ∀ (i : Nat) x, xs[i]? = some x → (w :: L)[i]? = some (maxR w L) → Q x H
theorem cr_maxT {X : Cx} (hc : X.calm = true) (hu : X.A.units + 65 < cLine) : CallR X (.builtin "max") (rMaxT X.K) := by
  intro pins s σ H vs us Q I r h
  obtain ⟨a, xs, w, L, rfl, hs, hx, q⟩ := h
  obtain ⟨its, rv, hl, hz⟩ := I.list hs
  obtain ⟨u, rfl, ru⟩ := vals1 r
  obtain rfl : u = Value.ref a := ru
  obtain ⟨as, hr, _⟩ := DpDL.reads I hx its rv
  rw [List.map_cons] at hr
  have hd : PyData.depthAll (pyT w :: L.map pyT) ≤ 1 := dep_pyTs (w :: L)
  refine PySem.W.max_list_data (I.ok.hd hc) hl.isList (by simpa using hr) (by have := alikeAll_pyT (w :: L); rwa [List.map_cons] at this) (by omega) fun i v h' tk bs hv hrd hk => ?_
  rw [maxD_pyT] at hrd
  have hv : its[i]? = some v := by simpa using hv
  have hil : i < xs.length := by have := (List.getElem?_eq_some_iff.mp hv).1; have := rv.length; omega
  obtain ⟨x, hx2⟩ : ∃ x, xs[i]? = some x := ⟨_, List.getElem?_eq_getElem hil⟩
  obtain ⟨u, hu2, rx⟩ := Vals.get rv hx2
  rw [hv] at hu2
  cases hu2
  obtain ⟨bs2, hr2, hl2, _, _⟩ := PySem.W.readsAll_at hr i v hv
  have hl3 : i < (w :: L).length := by simpa using hl2
  have e3 : (pyT w :: List.map pyT L).getD i PyData.none = pyT (w :: L)[i] := by
    rw [← List.map_cons, List.getD_eq_getElem?_getD, List.getElem?_map, List.getElem?_eq_getElem hl3]
    rfl
  rw [e3] at hr2
  have e4 := alike_unique _ _ v _ _ (alike_pyT _ _) (PySem.W.reads_keeps hk hr2) hrd
  exact ⟨x, H, I.kept hk, rx, q i x hx2 (by rw [List.getElem?_eq_getElem hl3, pyT_inj e4])⟩
/-- max of a list of rows of ints -/
def bMaxT : RLD := fun ds st Q => ∃ d w L, ds = [d] ∧ rd st d = .lst ((w :: L).map fun ns : List Int => .tup (ns.map .int)) ∧ Q (.tup ((maxR w L).map .int)) st
theorem v_maxT {w : List Int} {L : List (List Int)} {st : Sto} {Q : DK} (q : Q (.tup ((maxR w L).map .int)) st) : bMaxT [.lst ((w :: L).map fun ns : List Int => .tup (ns.map .int))] st Q := ⟨_, w, L, rfl, rfl, q⟩
theorem okd_ints : ∀ ns : List Int, D.okdL (ns.map .int) = true
  | [] => rfl
  | n :: r => by rw [List.map_cons]; simp only [D.okdL, D.okd, okd_ints r, Bool.and_self]
theorem pyL_ints : ∀ ns : List Int, D.pyL (ns.map .int) = ns.map PyData.int
  | [] => rfl
  | n :: r => by rw [List.map_cons, List.map_cons]; simp only [D.pyL, D.py, pyL_ints r]
theorem den_pyT {K : PySem.W.Frag} {H : Hp} {io : List Addr} {F : Hp} (hs : ∀ a o, F a = some o → H a = some o) : ∀ {L : List (List Int)} {vs : List V}, DenL K io F vs (L.map fun ns : List Int => .tup (ns.map .int)) → DpDL K H vs (L.map pyT)
  | [], _, .nil => .nil
  | ns :: L, _, .cons a b => by
    have h := den_dpd hs a (by simp only [D.okd]; exact okd_ints ns)
    have e : (D.tup (ns.map .int)).py = pyT ns := by
      unfold pyT
      simp only [D.py, pyL_ints]
    rw [e] at h
    exact .cons h (den_pyT hs b)
theorem z_maxT {X : Cx} : RzL X.K (rMaxT X.K) bMaxT where
  mo := fun ds s Q Q' h ⟨d, w, L, e1, e2, q⟩ => ⟨d, w, L, e1, e2, h _ _ q⟩
  on := fun {H io F st vs ds Q} R n ⟨d, w, L, e1, e2, q⟩ => by
    subst e1
    obtain ⟨v, rfl, n1⟩ := n.one
    obtain ⟨a, xs, rfl, h1, h2, _⟩ := rd_lst R n1 e2
    refine ⟨a, xs, w, L, rfl, SqL.of h1, den_pyT (fun a o e => R.sub a o e) h2, fun i x hx hi => ?_⟩
    obtain ⟨y, hy, hn⟩ := DenL.get h2 (i := i) (d := .tup ((maxR w L).map .int)) (by rw [List.getElem?_map, hi]; rfl)
    rw [hx] at hy
    cases hy
    exact kE_now R hn q
end DL
namespace DL
open PySem PySem.Spec PyProof.Rows L2
/-- no wish looks on from here -/
instance (priority := low) : Bs := ⟨fun _ => none, [], fun _ => none⟩
def dInts (ns : List Int) : D := .tup (ns.map .int)
structure Wk where
  len : Int
  ahead : List Int
  able : List Int
def Wk.d (w : Wk) : D := .tup [.int w.len, dInts w.ahead, dInts w.able]
structure Ws where
  work : Int
  kind : Int
  day : Int
  weight : Int
  rank : Int
def Ws.d (w : Ws) : D := .tup [.int w.work, .int w.kind, .int w.day, .int w.weight, .int w.rank]
structure Sy where
  days : Int
  hands : List (List Int)
  works : List Wk
  wishes : List Ws
def Sy.d (s : Sy) : D := .tup [.int s.days, .tup (s.hands.map dInts), .tup (s.works.map Wk.d), .tup (s.wishes.map Ws.d)]
section
variable {st : Sto} {Q : DK} {env : En} {s : Sy} {w : Wk} {u : Ws} {ns : List Int}
theorem sy_ix0 : dIx s.d (.int 0) st Q = Q (.int s.days) st := by unfold Sy.d; rw [v_ixT]; simp only [at0, v_some]
theorem sy_ix1 : dIx s.d (.int 1) st Q = Q (.tup (s.hands.map dInts)) st := by unfold Sy.d; rw [v_ixT]; simp only [at1, v_some]
theorem sy_ix2 : dIx s.d (.int 2) st Q = Q (.tup (s.works.map Wk.d)) st := by unfold Sy.d; rw [v_ixT]; simp only [at2, v_some]
theorem sy_ix3 : dIx s.d (.int 3) st Q = Q (.tup (s.wishes.map Ws.d)) st := by unfold Sy.d; rw [v_ixT]; simp only [at3, v_some]
theorem sy_sl3 : dSl false s.d none (some 3) st Q = Q (.tup [.int s.days, .tup (s.hands.map dInts), .tup (s.works.map Wk.d)]) st := rfl
theorem sy_tp {gs : DGs} {Q : En → Sto → Prop} : gTp 4 gs s.d env st Q = gs [.int s.days, .tup (s.hands.map dInts), .tup (s.works.map Wk.d), .tup (s.wishes.map Ws.d)] env st Q := by unfold Sy.d; rw [v_gTp]; simp
theorem wk_ix0 : dIx w.d (.int 0) st Q = Q (.int w.len) st := by unfold Wk.d; rw [v_ixT]; simp only [at0, v_some]
theorem wk_ix1 : dIx w.d (.int 1) st Q = Q (dInts w.ahead) st := by unfold Wk.d; rw [v_ixT]; simp only [at1, v_some]
theorem wk_ix2 : dIx w.d (.int 2) st Q = Q (dInts w.able) st := by unfold Wk.d; rw [v_ixT]; simp only [at2, v_some]
theorem wk_tp {gs : DGs} {Q : En → Sto → Prop} : gTp 3 gs w.d env st Q = gs [.int w.len, dInts w.ahead, dInts w.able] env st Q := by unfold Wk.d; rw [v_gTp]; simp
theorem ws_tp {gs : DGs} {Q : En → Sto → Prop} : gTp 5 gs u.d env st Q = gs [.int u.work, .int u.kind, .int u.day, .int u.weight, .int u.rank] env st Q := by unfold Ws.d; rw [v_gTp]; simp
theorem ns_seq {R : GK} : seqI (dInts ns) st R = R (ns.map .int) (fun _ => True) st := rfl
theorem ns_len : bLen [dInts ns] st Q = Q (.int ns.length) st := by unfold dInts; rw [v_lenT, List.length_map]
theorem ns_ix {i : Int} : dIx (dInts ns) (.int i) st Q = ∃ d, atI (ns.map D.int) i = some d ∧ Q d st := v_ixT
theorem ns_rd : rd st (dInts ns) = dInts ns := rfl
theorem sy_rd : rd st s.d = s.d := rfl
theorem wk_rd : rd st w.d = w.d := rfl
theorem ws_rd : rd st u.d = u.d := rfl
end
section
variable {st : Sto} {Q : DK} {env : En} {ds : List D} {f : Bool → Bool} {c0 c1 : Cel} {i : Int}
theorem seqI_tup {R : GK} : seqI (.tup ds) st R = R ds (fun _ => True) st := rfl
theorem seqI_lst {R : GK} : seqI (.lst ds) st R = R ds (fun _ => True) st := rfl
theorem seqI_scr {R : GK} : seqI (.scr ds) st R = R ds (fun _ => True) st := rfl
theorem seqJ_tup {R : GK} : seqJ (.tup ds) st R = R ds (fun _ => True) st := rfl
theorem seqJ_lst {R : GK} : seqJ (.lst ds) st R = R ds (fun _ => True) st := rfl
theorem okL_ints : ∀ ns : List Int, D.okL (ns.map .int) = true
  | [] => rfl
  | _ :: r => by rw [List.map_cons]; simp only [D.okL, D.ok, okL_ints r, Bool.and_self]
theorem isE_eqvL : ∀ ds : List D, D.eqvL ds [] = ds.isEmpty
  | [] => by simp only [D.eqvL]; rfl
  | _ :: _ => by simp only [D.eqvL]; rfl
theorem v_eqN {a : D} (h : rd st a = .lst ds) : dEqB f a (.lst []) st Q = (D.okL ds = true ∧ Q (.bl (f ds.isEmpty)) st) := by
  rw [v_eqO (fun x e => by subst e; cases h)]
  unfold dEqO
  simp only [h, rd_lst', D.ok, D.okL, D.dep, D.depL, D.eqv, isE_eqvL, true_and]
  apply propext
  constructor
  · exact fun ⟨h1, _, q⟩ => ⟨h1, q⟩
  · exact fun ⟨h1, q⟩ => ⟨h1, by omega, q⟩
theorem v_eqNl : dEqB f (.lst ds) (.lst []) st Q = (D.okL ds = true ∧ Q (.bl (f ds.isEmpty)) st) := v_eqN rfl
theorem v_eqNt : dEqB f (.tup ds) (.tup []) st Q = (D.okL ds = true ∧ Q (.bl (f ds.isEmpty)) st) := by
  rw [v_eqO (a := .tup ds) (fun _ h => nomatch h)]
  unfold dEqO
  simp only [rd_tup', D.ok, D.okL, D.dep, D.depL, D.eqv, isE_eqvL, true_and]
  apply propext
  constructor
  · exact fun ⟨h1, _, q⟩ => ⟨h1, q⟩
  · exact fun ⟨h1, q⟩ => ⟨h1, by omega, q⟩
theorem rd_r0 : rd (.lst ds :: st) (.ref 0) = .lst ds := rfl
theorem rd_r1 : rd (c0 :: .lst ds :: st) (.ref 1) = .lst ds := rfl
theorem rd_r2 : rd (c0 :: c1 :: .lst ds :: st) (.ref 2) = .lst ds := rfl
theorem v_ixR {a : D} (h : rd st a = .lst ds) : dIx a (.int i) st Q = ∃ d, atI ds i = some d ∧ Q d st := propext ⟨fun ⟨_, e, q⟩ => by cases e; rw [h] at q; exact q, fun q => ⟨_, rfl, by rw [h]; exact q⟩⟩
theorem v_lenR {a : D} (h : rd st a = .lst ds) : bLen [a] st Q = Q (.int ds.length) st := v_len (by rw [h]; rfl)
theorem v_ix0 : dIx (.ref 0) (.int i) (.lst ds :: st) Q = ∃ d, atI ds i = some d ∧ Q d (.lst ds :: st) := v_ixR rfl
theorem v_ix1 : dIx (.ref 1) (.int i) (c0 :: .lst ds :: st) Q = ∃ d, atI ds i = some d ∧ Q d (c0 :: .lst ds :: st) := v_ixR rfl
theorem v_ix2 : dIx (.ref 2) (.int i) (c0 :: c1 :: .lst ds :: st) Q = ∃ d, atI ds i = some d ∧ Q d (c0 :: c1 :: .lst ds :: st) := v_ixR rfl
theorem v_eq0 : dEqB f (.ref 0) (.lst []) (.lst ds :: st) Q = (D.okL ds = true ∧ Q (.bl (f ds.isEmpty)) (.lst ds :: st)) := v_eqN rfl
theorem v_len0 : bLen [.ref 0] (.lst ds :: st) Q = Q (.int ds.length) (.lst ds :: st) := v_lenR rfl
theorem v_len1 : bLen [.ref 1] (c0 :: .lst ds :: st) Q = Q (.int ds.length) (c0 :: .lst ds :: st) := v_lenR rfl
theorem v_app0 {d : D} : mAppend (.ref 0) [d] (.lst ds :: st) Q = (ds.length < sizeLine ∧ Q .non (.lst (ds ++ [d]) :: st)) := v_app rfl
theorem v_app1 {d : D} : mAppend (.ref 1) [d] (c0 :: .lst ds :: st) Q = (ds.length < sizeLine ∧ Q .non (c0 :: .lst (ds ++ [d]) :: st)) := v_app rfl
theorem v_ex0 : (∃ x, D.lst ds = .lst x) = True := by simp
end
/-- increasing numbers below n -/
def Row (n : Int) (r : List Int) : Prop := r.Pairwise (· < ·) ∧ ∀ x ∈ r, 0 ≤ x ∧ x < n
structure Wk.Ok (w : Wk) (i hands length : Int) : Prop where
  len : 1 ≤ w.len ∧ w.len ≤ length
  ahead : Row i w.ahead
  able : Row hands w.able
  any : w.able ≠ []
structure Ws.Ok (w : Ws) (works days : Int) : Prop where
  work : 0 ≤ w.work ∧ w.work < works
  kind : 0 ≤ w.kind ∧ w.kind ≤ 1
  day : 0 ≤ w.day ∧ w.day ≤ days
  weight : 1 ≤ w.weight ∧ w.weight ≤ 100
  rank : 0 ≤ w.rank ∧ w.rank ≤ 3
structure Sy.Ok (s : Sy) (days hands works length wishes : Int) : Prop where
  days : 1 ≤ s.days ∧ s.days ≤ days
  hands : 1 ≤ s.hands.length ∧ s.hands.length ≤ hands
  rows : ∀ r ∈ s.hands, Row s.days r
  works : s.works.length ≤ works
  work : ∀ (i : Nat) (w : Wk), s.works[i]? = some w → w.Ok i s.hands.length length
  wishes : s.wishes.length ≤ wishes
  wish : ∀ w ∈ s.wishes, w.Ok s.works.length s.days
theorem Row.len {n : Int} : ∀ {r : List Int}, Row n r → (r.length : Int) ≤ max n 0 := by
  have key : ∀ (r : List Int) (lo : Int), r.Pairwise (· < ·) → (∀ x ∈ r, lo ≤ x ∧ x < n) → (r.length : Int) ≤ max (n - lo) 0 := fun r => by
    induction r with
    | nil => intro lo _ _; simp only [List.length_nil]; omega
    | cons a t ih =>
      intro lo hp hb
      rw [List.pairwise_cons] at hp
      have ha := hb a List.mem_cons_self
      have := ih (a + 1) hp.2 fun x hx => ⟨by have := hp.1 x hx; omega, (hb x (List.mem_cons_of_mem _ hx)).2⟩
      rw [List.length_cons]
      omega
  intro r h
  have := key r 0 h.1 h.2
  omega
structure FitN (k n : Nat) (d : D) : Prop where
  ok : d.ok = true
  sml : d.sml = true
  blk : d.blk ≤ n
  dep : d.dep ≤ k
theorem FitN.mono {k n k' n' : Nat} {d : D} (h : FitN k n d) (hk : k ≤ k') (hn : n ≤ n') : FitN k' n' d := ⟨h.ok, h.sml, Nat.le_trans h.blk hn, Nat.le_trans h.dep hk⟩
def Dk (B : Int) (rest st : Sto) : Prop := ∃ (ds cs : List Int) (t : Int), st = .lst (ds.map .int) :: .lst (cs.map .int) :: .lst [.ref 0, .ref 1, .int t] :: rest ∧
  (∀ x ∈ ds, 0 ≤ x ∧ x < 2147483629) ∧ (∀ x ∈ cs, 0 ≤ x ∧ x < 2147483629) ∧ cs ≠ [] ∧ ds.length ≤ 2000 ∧ cs.length ≤ 2000 ∧ 0 ≤ t ∧ t ≤ B
theorem Dk.mono {B B' : Int} {rest st : Sto} (h : Dk B rest st) (hb : B ≤ B') : Dk B' rest st := by
  obtain ⟨ds, cs, t, e, h1, h2, h3, h4, h5, h6, h7⟩ := h
  exact ⟨ds, cs, t, e, h1, h2, h3, h4, h5, h6, by omega⟩
end DL
namespace DL.M
open PySem PySem.Spec PyProof.Rows L2
local macro_rules
  | `(tactic| simp? only [$as,*] $[$loc]?) => `(tactic| simp only [$as,*, v_eqE, wComp, wipeE, wFor, wIsi, iEnum, iZip, zipI_tup, zipI_lst, zipI_lt, zipI_tl, seqJ_tup, seqJ_lst, v_app0, v_app1, v_eqNl, v_eqNt, rd_r0, rd_r1, rd_r2, v_ix0, v_ix1, v_ix2, v_eq0, v_len0, v_len1, v_ex0, v_mulS, wRevA, v_revT, v_revL, wRgL1, wRgL2, wRgT1, wRgT2, v_rgx1, v_rgx2, sy_ix0, sy_ix1, sy_ix2, sy_ix3, sy_sl3, sy_tp, wk_ix0, wk_ix1, wk_ix2, wk_tp, ws_tp, ns_seq, ns_len, ns_ix, ns_rd, sy_rd, wk_rd, ws_rd, wSeq, wAsg, wRet, wIf, wDrop, wOp, wCons, wNil, wTup, wLst, wCB, wCall, wTest, wAnd, wOr, wNot, wNotV, wAndV, wOrV, wChain, wNeg, wC, wM, wSl, oNo, oPart, iSeq, seqI_tup, seqI_lst, seqI_scr, v_rg1, v_rg2, gNm, v_gTp, v_gCn, v_gNl, v_var0, v_varS, v_sub, v_mod, v_fdiv, v_pow, v_iadd, v_add, v_addT, v_addL, v_mul, v_lt, v_le, v_gt, v_ge, v_eqi, v_ixT, v_ixL, v_ixS, v_lenT, v_lenL, v_lenS, v_abs, v_min2, v_max2, v_intI, v_intB, v_tupl, v_tupT, v_bl, v_in, v_some, v_newT, v_newF, startE, rd_int', rd_bl', rd_str', rd_tup', rd_lst', rd_scr', rd_non', at0, at1, at2, at3, at4, List.map_cons, List.map_nil, List.length_cons, List.length_nil, List.length_map, List.replicate_succ, List.replicate_zero, Nat.reduceSub, Nat.reduceAdd, List.cons_append, List.nil_append, List.set_cons_zero, List.set_cons_succ, List.getElem?_cons_zero, List.getElem?_cons_succ, Bool.not_true, Bool.not_false, if_true, if_false, Bool.false_eq_true, reduceCtorEq, true_and, and_true, bodyEnds, Nat.zero_add, decide_eq_true_eq] $[$loc]?)
  | `(tactic| simp?! only [$as,*] $[$loc]?) => `(tactic| simp only [$as,*, v_eqE, wComp, wipeE, wFor, wIsi, iEnum, iZip, zipI_tup, zipI_lst, zipI_lt, zipI_tl, seqJ_tup, seqJ_lst, v_app0, v_app1, v_eqNl, v_eqNt, rd_r0, rd_r1, rd_r2, v_ix0, v_ix1, v_ix2, v_eq0, v_len0, v_len1, v_ex0, v_mulS, wRevA, v_revT, v_revL, wRgL1, wRgL2, wRgT1, wRgT2, v_rgx1, v_rgx2, sy_ix0, sy_ix1, sy_ix2, sy_ix3, sy_sl3, sy_tp, wk_ix0, wk_ix1, wk_ix2, wk_tp, ws_tp, ns_seq, ns_len, ns_ix, ns_rd, sy_rd, wk_rd, ws_rd, wAsg, wRet, wIf, wDrop, wOp, wCons, wNil, wTup, wLst, wCB, wCall, wTest, wAnd, wOr, wNot, wNotV, wAndV, wOrV, wChain, wNeg, wC, wM, wSl, oNo, oPart, iSeq, seqI_tup, seqI_lst, seqI_scr, v_rg1, v_rg2, gNm, v_gTp, v_gCn, v_gNl, v_var0, v_varS, v_sub, v_mod, v_fdiv, v_pow, v_iadd, v_add, v_addT, v_addL, v_mul, v_lt, v_le, v_gt, v_ge, v_eqi, v_ixT, v_ixL, v_ixS, v_lenT, v_lenL, v_lenS, v_abs, v_min2, v_max2, v_intI, v_intB, v_tupl, v_tupT, v_bl, v_in, v_some, v_newT, v_newF, startE, rd_int', rd_bl', rd_str', rd_tup', rd_lst', rd_scr', rd_non', at0, at1, at2, at3, at4, List.map_cons, List.map_nil, List.length_cons, List.length_nil, List.length_map, List.replicate_succ, List.replicate_zero, Nat.reduceSub, Nat.reduceAdd, List.cons_append, List.nil_append, List.set_cons_zero, List.set_cons_succ, List.getElem?_cons_zero, List.getElem?_cons_succ, Bool.not_true, Bool.not_false, if_true, if_false, Bool.false_eq_true, reduceCtorEq, true_and, and_true, bodyEnds, Nat.zero_add, decide_eq_true_eq] $[$loc]?)
def w_f_law_deck_1 : DT := wAnd (wTest (wOp dGe (wVar 3) (wOp dPow (wC (.int 10)) (wC (.int 18))))) (wTest (wOp dLt (wCB bLen (wCons (wVar 1) (wNil))) (wC (.int 900))))
def w_f_law_deck_2 : DS := wSeq (wDrop (wM mAppend (wVar 1) (wCons (wOp dMod (wVar 3) (wC (.int 2147483629))) (wNil)))) (wAsg (wOp dFdiv (wVar 3) (wC (.int 2147483629))) (gNm 3))
def w_f_law_deck_3 : DS := wSeq (wAsg (wCB bAbs (wCons (wVar 3) (wNil))) (gNm 3)) (wSeq (wDrop (wM mAppend (wVar 2) (wCons (wOp dMod (wVar 3) (wC (.int 2147483629))) (wNil)))) (wWhile w_f_law_deck_1 w_f_law_deck_2))
def w_f_law_deck : DS := wSeq (wAsg (wLst true (wNil)) (gNm 1)) (wSeq (wAsg (wLst true (wCons (wCB bLen (wCons (wVar 0) (wNil))) (wNil))) (gNm 2)) (wSeq (wFor (iSeq (wSl false (wVar 0) oNo (oPart (wC (.int 60))))) (gNm 3) w_f_law_deck_3) (wRet (wLst true (wCons (wVar 1) (wCons (wVar 2) (wCons (wC (.int 0)) (wNil))))))))
def S_f_law_deck : DL.Spec := ⟨1, List Int, fun ns => [.scr (ns.map .int)], fun ns st => ns.length ≤ 63 ∧ st = [], fun _ _ d st' => d = .ref 2 ∧ Dk 0 [] st'⟩
def goodM (ns : List Int) : Prop := ∀ x ∈ ns, 0 ≤ x ∧ x < 2147483629
theorem goodM.snoc {ns : List Int} {x : Int} (h : goodM ns) (h0 : 0 ≤ x) (h1 : x < 2147483629) : goodM (ns ++ [x]) := fun y hy => by
  rcases List.mem_append.mp hy with z | z
  · exact h y z
  · simp at z; subst z; exact ⟨h0, h1⟩
theorem cut60 (ns : List Int) : cutL (ns.map D.int) none (some 60) = (ns.take 60).map D.int := by
  have e1 : HT.sIx (ns.map D.int).length 0 none = 0 := rfl
  have e2 : HT.sIx (ns.map D.int).length (ns.map D.int).length (some 60) = min 60 ns.length := by rw [List.length_map]; exact HT.sIx_nat ns.length ns.length 60
  unfold cutL
  rw [e1, e2, List.drop_zero, Nat.sub_zero, List.map_take]
  rcases Nat.le_total 60 ns.length with h | h
  · rw [Nat.min_eq_left h]
  · rw [Nat.min_eq_right h, List.take_of_length_le (by rw [List.length_map]; omega), List.take_of_length_le (by rw [List.length_map]; omega)]
theorem vc_f_law_deck : ∀ g sto, (S_f_law_deck.args g).length = S_f_law_deck.n → S_f_law_deck.pre g sto → w_f_law_deck (bodyEnds (S_f_law_deck.post g sto)) (startE ["_law_script", "_law_digits", "_law_cells", "_law_cell"] (S_f_law_deck.args g)) sto := by
  rintro (ns : List Int) sto _ ⟨hl, rfl⟩
  have z3 : 3 ≤ sizeLine := by decide
  simp? only [w_f_law_deck, S_f_law_deck, wFor, dSl]
  refine ⟨Nat.zero_le _, by omega, ?_⟩
  have ec : cutL (ns.map D.int) none (some 60) = (ns.take 60).map D.int := cut60 ns
  rw [ec]
  refine forL_inv (fun i e s => ∃ x3 ds cs, e = [some (.scr (ns.map .int)), some (.ref 0), some (.ref 1), x3] ∧ s = [.lst (ds.map .int), .lst (cs.map .int)] ∧ goodM ds ∧ goodM cs ∧ ds.length ≤ 900 ∧ cs.length = i + 1) ?_ ?_ _ _ ?_
  · rintro i env st d ⟨x3, ds, cs, rfl, rfl, gd, gc, ld, lc⟩ hd R hR
    refine ⟨trivial, ?_⟩
    obtain ⟨hi, hd⟩ := List.getElem?_eq_some_iff.mp hd
    rw [List.getElem_map] at hd
    subst hd
    generalize (ns.take 60)[i]'_ = c0
    simp only [w_f_law_deck_3, v_eqE, wComp, wipeE, wFor, wIsi, iEnum, iZip, zipI_tup, zipI_lst, zipI_lt, zipI_tl, seqJ_tup, seqJ_lst, v_app0, v_app1, v_eqNl, v_eqNt, rd_r0, rd_r1, rd_r2, v_ix0, v_ix1, v_ix2, v_eq0, v_len0, v_len1, v_ex0, v_mulS, wRevA, v_revT, v_revL, wRgL1, wRgL2, wRgT1, wRgT2, v_rgx1, v_rgx2, sy_ix0, sy_ix1, sy_ix2, sy_ix3, sy_sl3, sy_tp, wk_ix0, wk_ix1, wk_ix2, wk_tp, ws_tp, ns_seq, ns_len, ns_ix, ns_rd, sy_rd, wk_rd, ws_rd, wSeq, wAsg, wRet, wIf, wDrop, wOp, wCons, wNil, wTup, wLst, wCB, wCall, wTest, wAnd, wOr, wNot, wNotV, wAndV, wOrV, wChain, wNeg, wC, wM, wSl, oNo, oPart, iSeq, seqI_tup, seqI_lst, seqI_scr, v_rg1, v_rg2, gNm, v_gTp, v_gCn, v_gNl, v_var0, v_varS, v_sub, v_mod, v_fdiv, v_pow, v_iadd, v_add, v_addT, v_addL, v_mul, v_lt, v_le, v_gt, v_ge, v_eqi, v_ixT, v_ixL, v_ixS, v_lenT, v_lenL, v_lenS, v_abs, v_min2, v_max2, v_intI, v_intB, v_tupl, v_tupT, v_bl, v_in, v_some, v_newT, v_newF, startE, rd_int', rd_bl', rd_str', rd_tup', rd_lst', rd_scr', rd_non', at0, at1, at2, at3, at4, List.map_cons, List.map_nil, List.length_cons, List.length_nil, List.length_map, List.replicate_succ, List.replicate_zero, Nat.reduceSub, Nat.reduceAdd, List.cons_append, List.nil_append, List.set_cons_zero, List.set_cons_succ, List.getElem?_cons_zero, List.getElem?_cons_succ, Bool.not_true, Bool.not_false, if_true, if_false, Bool.false_eq_true, reduceCtorEq, true_and, and_true, bodyEnds, Nat.zero_add, decide_eq_true_eq, wM, rd_r1, v_ex0, v_abs, v_app1, List.length_map]
    have hi' := hi
    rw [List.length_map, List.length_take] at hi'
    refine ⟨by decide, by rw [lc, sizeLine_eq]; omega, ?_⟩
    have hc : 0 ≤ (if c0 < 0 then -c0 else c0) := by split <;> omega
    generalize (if c0 < 0 then -c0 else c0) = c at hc
    obtain ⟨k, hk⟩ : ∃ k, k = c % 2147483629 := ⟨_, rfl⟩
    rw [← hk]
    have hm : 0 ≤ k ∧ k < 2147483629 := by omega
    refine ⟨fun m e s => ∃ c ds, m = Int.toNat c ∧ 0 ≤ c ∧ e = [some (.scr (ns.map .int)), some (.ref 0), some (.ref 1), some (.int c)] ∧ s = [.lst (ds.map .int), .lst ((cs ++ [k]).map .int)] ∧ goodM ds ∧ ds.length ≤ 900, ?_, ?_⟩
    · exact ⟨_, c, ds, rfl, hc, rfl, by simp, gd, ld⟩
    · rintro m e s ⟨c, ds, rfl, hc, rfl, rfl, gd, ld⟩
      simp? only [w_f_law_deck_1]
      refine ⟨by decide, ?_⟩
      by_cases hg : (10 : Int) ^ (18 : Int).toNat ≤ c
      · by_cases hl : (ds.length : Int) < 900
        · simp only [hg, hl, decide_true, v_eqE, wComp, wipeE, wFor, wIsi, iEnum, iZip, zipI_tup, zipI_lst, zipI_lt, zipI_tl, seqJ_tup, seqJ_lst, v_app0, v_app1, v_eqNl, v_eqNt, rd_r0, rd_r1, rd_r2, v_ix0, v_ix1, v_ix2, v_eq0, v_len0, v_len1, v_ex0, v_mulS, wRevA, v_revT, v_revL, wRgL1, wRgL2, wRgT1, wRgT2, v_rgx1, v_rgx2, sy_ix0, sy_ix1, sy_ix2, sy_ix3, sy_sl3, sy_tp, wk_ix0, wk_ix1, wk_ix2, wk_tp, ws_tp, ns_seq, ns_len, ns_ix, ns_rd, sy_rd, wk_rd, ws_rd, wSeq, wAsg, wRet, wIf, wDrop, wOp, wCons, wNil, wTup, wLst, wCB, wCall, wTest, wAnd, wOr, wNot, wNotV, wAndV, wOrV, wChain, wNeg, wC, wM, wSl, oNo, oPart, iSeq, seqI_tup, seqI_lst, seqI_scr, v_rg1, v_rg2, gNm, v_gTp, v_gCn, v_gNl, v_var0, v_varS, v_sub, v_mod, v_fdiv, v_pow, v_iadd, v_add, v_addT, v_addL, v_mul, v_lt, v_le, v_gt, v_ge, v_eqi, v_ixT, v_ixL, v_ixS, v_lenT, v_lenL, v_lenS, v_abs, v_min2, v_max2, v_intI, v_intB, v_tupl, v_tupT, v_bl, v_in, v_some, v_newT, v_newF, startE, rd_int', rd_bl', rd_str', rd_tup', rd_lst', rd_scr', rd_non', at0, at1, at2, at3, at4, List.map_cons, List.map_nil, List.length_cons, List.length_nil, List.length_map, List.replicate_succ, List.replicate_zero, Nat.reduceSub, Nat.reduceAdd, List.cons_append, List.nil_append, List.set_cons_zero, List.set_cons_succ, List.getElem?_cons_zero, List.getElem?_cons_succ, Bool.not_true, Bool.not_false, if_true, if_false, Bool.false_eq_true, reduceCtorEq, true_and, and_true, bodyEnds, Nat.zero_add, decide_eq_true_eq, w_f_law_deck_2, wM]
          refine ⟨by decide, by rw [sizeLine_eq]; omega, ⟨by decide, by decide⟩, _, ?_, c / 2147483629, ds ++ [c % 2147483629], rfl, by omega, rfl, by simp, gd.snoc (by omega) (by omega), by simp; omega⟩
          have : (10 : Int) ^ (18 : Int).toNat = 1000000000000000000 := by decide
          omega
        · simp? only [hg, hl, decide_true, decide_false]
          exact hR _ _ ⟨_, ds, cs ++ [k], rfl, rfl, gd, gc.snoc hm.1 hm.2, ld, by simp; omega⟩
      · simp? only [hg, decide_false]
        exact hR _ _ ⟨_, ds, cs ++ [k], rfl, rfl, gd, gc.snoc hm.1 hm.2, ld, by simp; omega⟩
  · rintro env st ⟨x3, ds, cs, rfl, rfl, gd, gc, ld, lc⟩
    refine ⟨trivial, ?_⟩
    simp? only [true_and]
    refine ⟨z3, ds, cs, 0, rfl, gd, gc, ?_, by omega, ?_, by decide, by decide⟩
    · intro e; rw [e] at lc; simp at lc
    · rw [List.length_map, List.length_take] at lc; omega
  · refine ⟨none, [], [((ns.length : Nat) : Int)], rfl, rfl, fun _ h => (nomatch h), ?_, by simp, rfl⟩
    intro x hx
    rw [List.mem_singleton] at hx
    rw [hx]
    omega
theorem v_pop0 {rest : Sto} {Q : DK} {x : D} {ds : List D} : mPopAt (.ref 0) [.int 0] (.lst (x :: ds) :: rest) Q = Q x (.lst ds :: rest) := by
  have e0 : ixN (x :: ds).length 0 = some 0 := by simp [ixN]
  apply propext
  constructor
  · rintro ⟨n, es, i, k, y, e1, e2, e3, _, _, e4, e5, q⟩
    cases e1
    cases e2
    cases e3
    rw [e0] at e4
    cases e4
    cases e5
    exact q
  · exact fun q => ⟨0, x :: ds, 0, 0, x, rfl, rfl, rfl, by decide, by decide, e0, rfl, q⟩
theorem v_gset2 {rest : Sto} {c0 c1 : Cel} {x y z d : D} {env : En} {Q : En → Sto → Prop} : gSet (wVar 0) (wC (.int 2)) d (some (.ref 2) :: env) (c0 :: c1 :: .lst [x, y, z] :: rest) Q = Q (some (.ref 2) :: env) (c0 :: c1 :: .lst [x, y, d] :: rest) := by
  apply propext
  constructor
  · rintro ⟨o, e0, n, es, i, k, e1, e2, e3, e4, q⟩
    cases e0
    cases e1
    cases e2
    cases e3
    cases e4
    exact q
  · exact fun q => ⟨_, rfl, 2, _, 2, 2, rfl, rfl, rfl, rfl, q⟩
def w_f_law_next : DS := wSeq (wIf (wTest (wOp dNe (wOp dIx (wVar 0) (wC (.int 0))) (wLst false (wNil)))) (wRet (wM mPopAt (wOp dIx (wVar 0) (wC (.int 0))) (wCons (wC (.int 0)) (wNil)))) ((fun D env st => D.nx env st))) (wSeq (wAsg (wOp dIx (wVar 0) (wC (.int 2))) (gNm 1)) (wSeq (wAsg (wOp dAdd (wVar 1) (wC (.int 1))) (gSet (wVar 0) (wC (.int 2)))) (wSeq (wAsg (wTup (wCons (wC (.int 48271)) (wCons (wC (.int 69621)) (wCons (wC (.int 16807)) (wCons (wC (.int 39373)) (wCons (wC (.int 30323)) (wCons (wC (.int 51749)) (wCons (wC (.int 44417)) (wCons (wC (.int 27449)) (wCons (wC (.int 63073)) (wCons (wC (.int 55001)) (wCons (wC (.int 33791)) (wCons (wC (.int 40009)) (wNil)))))))))))))) (gNm 2)) (wSeq (wAsg (wOp dAdd (wOp dIx (wOp dIx (wVar 0) (wC (.int 1))) (wOp dMod (wOp dAdd (wVar 1) (wC (.int 1))) (wCB bLen (wCons (wOp dIx (wVar 0) (wC (.int 1))) (wNil))))) (wOp dMul (wC (.int 7)) (wVar 1))) (gNm 3)) (wSeq (wAsg (wOp dMod (wOp dPow (wOp dAdd (wVar 3) (wOp dMul (wOp dIx (wVar 2) (wOp dMod (wVar 1) (wC (.int 12)))) (wOp dAdd (wVar 1) (wC (.int 1))))) (wC (.int 5))) (wC (.int 2147483647))) (gNm 4)) (wRet (wOp dMod (wOp dAdd (wVar 4) (wOp dMul (wOp dIx (wVar 2) (wOp dMod (wOp dAdd (wVar 1) (wC (.int 5))) (wC (.int 12)))) (wVar 3))) (wC (.int 2147483629)))))))))
def S_f_law_next : DL.Spec := ⟨1, Sto × Int, fun _ => [.ref 2], fun (r, B) st => Dk B r st ∧ B < 2 ^ 40, fun (r, B) _ d st' => ∃ x, d = .int x ∧ 0 ≤ x ∧ x < 2147483629 ∧ Dk (B + 1) r st'⟩
def primes : List Int := [48271, 69621, 16807, 39373, 30323, 51749, 44417, 27449, 63073, 55001, 33791, 40009]
theorem prime_at {i : Int} (h0 : 0 ≤ i) (h1 : i < 12) : ∃ p, atI (primes.map D.int) i = some (.int p) ∧ 0 ≤ p ∧ p < 100000 := by
  have key : ∀ k : Fin 12, ∃ p, primes[k.val]? = some p ∧ 0 ≤ p ∧ p < 100000 := by
    intro k
    have hk : k.val < primes.length := k.isLt
    have all : ∀ x ∈ primes, 0 ≤ x ∧ x < 100000 := by decide
    exact ⟨_, List.getElem?_eq_getElem hk, all _ (List.getElem_mem hk)⟩
  obtain ⟨p, h2, h3⟩ := key ⟨i.toNat, by omega⟩
  exact ⟨p, atI_map (atI_of h0 h2), h3⟩
theorem vc_f_law_next : ∀ g sto, (S_f_law_next.args g).length = S_f_law_next.n → S_f_law_next.pre g sto → w_f_law_next (bodyEnds (S_f_law_next.post g sto)) (startE ["_law_deck_here", "_law_at", "_law_primes", "_law_cell", "_law_mixed"] (S_f_law_next.args g)) sto := by
  rintro ⟨rest, B⟩ sto _ ⟨⟨ds, cs, t, rfl, gd, gc, ne, l1, l2, t0, t1⟩, hB⟩
  have z12 : 12 ≤ sizeLine := by decide
  simp? only [w_f_law_next, S_f_law_next, v_gset2]
  refine ⟨Nat.zero_le _, okL_ints _, ?_⟩
  cases ds with
  | cons x ds =>
    simp only [v_eqE, wComp, wipeE, wFor, wIsi, iEnum, iZip, zipI_tup, zipI_lst, zipI_lt, zipI_tl, seqJ_tup, seqJ_lst, v_app0, v_app1, v_eqNl, v_eqNt, rd_r0, rd_r1, rd_r2, v_ix0, v_ix1, v_ix2, v_eq0, v_len0, v_len1, v_ex0, v_mulS, wRevA, v_revT, v_revL, wRgL1, wRgL2, wRgT1, wRgT2, v_rgx1, v_rgx2, sy_ix0, sy_ix1, sy_ix2, sy_ix3, sy_sl3, sy_tp, wk_ix0, wk_ix1, wk_ix2, wk_tp, ws_tp, ns_seq, ns_len, ns_ix, ns_rd, sy_rd, wk_rd, ws_rd, wSeq, wAsg, wRet, wIf, wDrop, wOp, wCons, wNil, wTup, wLst, wCB, wCall, wTest, wAnd, wOr, wNot, wNotV, wAndV, wOrV, wChain, wNeg, wC, wM, wSl, oNo, oPart, iSeq, seqI_tup, seqI_lst, seqI_scr, v_rg1, v_rg2, gNm, v_gTp, v_gCn, v_gNl, v_var0, v_varS, v_sub, v_mod, v_fdiv, v_pow, v_iadd, v_add, v_addT, v_addL, v_mul, v_lt, v_le, v_gt, v_ge, v_eqi, v_ixT, v_ixL, v_ixS, v_lenT, v_lenL, v_lenS, v_abs, v_min2, v_max2, v_intI, v_intB, v_tupl, v_tupT, v_bl, v_in, v_some, v_newT, v_newF, startE, rd_int', rd_bl', rd_str', rd_tup', rd_lst', rd_scr', rd_non', at0, at1, at2, at3, at4, List.map_cons, List.map_nil, List.length_cons, List.length_nil, List.length_map, List.replicate_succ, List.replicate_zero, Nat.reduceSub, Nat.reduceAdd, List.cons_append, List.nil_append, List.set_cons_zero, List.set_cons_succ, List.getElem?_cons_zero, List.getElem?_cons_succ, Bool.not_true, Bool.not_false, if_true, if_false, Bool.false_eq_true, reduceCtorEq, true_and, and_true, bodyEnds, Nat.zero_add, decide_eq_true_eq, List.isEmpty, v_pop0]
    have := gd x List.mem_cons_self
    exact ⟨this.1, this.2, ds, cs, t, rfl, fun y hy => gd y (List.mem_cons_of_mem _ hy), gc, ne, by simp at l1; omega, l2, t0, by omega⟩
  | nil =>
    simp only [v_eqE, wComp, wipeE, wFor, wIsi, iEnum, iZip, zipI_tup, zipI_lst, zipI_lt, zipI_tl, seqJ_tup, seqJ_lst, v_app0, v_app1, v_eqNl, v_eqNt, rd_r0, rd_r1, rd_r2, v_ix0, v_ix1, v_ix2, v_eq0, v_len0, v_len1, v_ex0, v_mulS, wRevA, v_revT, v_revL, wRgL1, wRgL2, wRgT1, wRgT2, v_rgx1, v_rgx2, sy_ix0, sy_ix1, sy_ix2, sy_ix3, sy_sl3, sy_tp, wk_ix0, wk_ix1, wk_ix2, wk_tp, ws_tp, ns_seq, ns_len, ns_ix, ns_rd, sy_rd, wk_rd, ws_rd, wSeq, wAsg, wRet, wIf, wDrop, wOp, wCons, wNil, wTup, wLst, wCB, wCall, wTest, wAnd, wOr, wNot, wNotV, wAndV, wOrV, wChain, wNeg, wC, wM, wSl, oNo, oPart, iSeq, seqI_tup, seqI_lst, seqI_scr, v_rg1, v_rg2, gNm, v_gTp, v_gCn, v_gNl, v_var0, v_varS, v_sub, v_mod, v_fdiv, v_pow, v_iadd, v_add, v_addT, v_addL, v_mul, v_lt, v_le, v_gt, v_ge, v_eqi, v_ixT, v_ixL, v_ixS, v_lenT, v_lenL, v_lenS, v_abs, v_min2, v_max2, v_intI, v_intB, v_tupl, v_tupT, v_bl, v_in, v_some, v_newT, v_newF, startE, rd_int', rd_bl', rd_str', rd_tup', rd_lst', rd_scr', rd_non', at0, at1, at2, at3, at4, List.map_cons, List.map_nil, List.length_cons, List.length_nil, List.length_map, List.replicate_succ, List.replicate_zero, Nat.reduceSub, Nat.reduceAdd, List.cons_append, List.nil_append, List.set_cons_zero, List.set_cons_succ, List.getElem?_cons_zero, List.getElem?_cons_succ, Bool.not_true, Bool.not_false, if_true, if_false, Bool.false_eq_true, reduceCtorEq, true_and, and_true, bodyEnds, Nat.zero_add, decide_eq_true_eq, List.isEmpty, v_gset2]
    have hl : 0 < cs.length := List.length_pos_iff.mpr ne
    refine ⟨z12, by omega, ?_⟩
    obtain ⟨c, hc⟩ : ∃ c, cs[((t + 1) % (cs.length : Int)).toNat]? = some c := ⟨_, List.getElem?_eq_getElem (by
      have := Int.emod_lt_of_pos (t + 1) (show (0 : Int) < cs.length by omega)
      have := Int.emod_nonneg (t + 1) (show (cs.length : Int) ≠ 0 by omega)
      omega)⟩
    have hc1 := gc c (List.mem_of_getElem? hc)
    obtain ⟨p1, hp1, q1⟩ := prime_at (i := t % 12) (by omega) (by omega)
    obtain ⟨p2, hp2, q2⟩ := prime_at (i := (t + 5) % 12) (by omega) (by omega)
    simp only [primes, List.map_cons, List.map_nil] at hp1 hp2
    refine ⟨_, atI_map (atI_of (Int.emod_nonneg _ (by omega)) hc), ?_⟩
    simp? only [hp1, hp2]
    have m1 : p1 * (t + 1) ≤ 100000 * (2 ^ 40 + 1) := Int.mul_le_mul (by omega) (by omega) (by omega) (by decide)
    have m2 : 0 ≤ p1 * (t + 1) := Int.mul_nonneg q1.1 (by omega)
    refine ⟨.inl ⟨by decide, by decide⟩, by decide, .inl ⟨by omega, by omega⟩, ⟨by decide, by decide, ?_⟩, by decide, by decide, .inl ⟨by omega, by omega⟩, by decide, Int.emod_nonneg _ (by decide), Int.emod_lt_of_pos _ (by decide), [], cs, t + 1, rfl, gd, gc, ne, l1, l2, by omega, by omega⟩
    generalize p1 * (t + 1) = m at m1 m2
    omega
/-- the next number is asked -/
theorem next_use {B : Int} {rest st : Sto} {Q : DK} (h : Dk B rest st) (hb : B < 2 ^ 40) (q : ∀ x st', 0 ≤ x → x < 2147483629 → Dk (B + 1) rest st' → Q (.int x) st') :
    ∃ g, [D.ref 2] = S_f_law_next.args g ∧ (S_f_law_next.args g).length = S_f_law_next.n ∧ S_f_law_next.pre g st ∧ ∀ d s2, S_f_law_next.post g st d s2 → Q d s2 :=
  ⟨(rest, B), rfl, rfl, ⟨h, hb⟩, fun d s2 ⟨x, e, h0, h1, h2⟩ => by subst e; exact q x s2 h0 h1 h2⟩
theorem pick {α : Type} {xs : List α} {i : Int} (h0 : 0 ≤ i) (h1 : i < xs.length) : ∃ v, atI xs i = some v ∧ v ∈ xs := by
  have hl : i.toNat < xs.length := by omega
  exact ⟨_, atI_of h0 (List.getElem?_eq_getElem hl), List.getElem_mem hl⟩
theorem pickI {ns : List Int} {i : Int} (h0 : 0 ≤ i) (h1 : i < ns.length) : ∃ v, atI (ns.map D.int) i = some (.int v) ∧ v ∈ ns := by
  obtain ⟨v, h2, h3⟩ := pick h0 h1
  exact ⟨v, atI_map h2, h3⟩
def freeF (row : List Int) (a b : Int) : Bool := !(row.map fun day => if a ≤ day then decide (day < b) else false).any id
/-- the ways -/
def rowOf (s : Sy) (h : Int) : List Int := (atI s.hands h).getD []
def encP (p : Int × Int) : D := .tup [.int p.1, .int p.2]
def waysF (s : Sy) (w : Wk) : List (Int × Int) := (rangeI 0 (s.days - w.len + 1).toNat).foldl (fun acc b => w.able.foldl (fun acc h => if freeF (rowOf s h) b (b + w.len) = true then acc ++ [(b, h)] else acc) acc) []
def preWays (s : Sy) (i : Int) (w : Wk) : Prop := atI s.works i = some w ∧ (∀ h ∈ w.able, ∃ row, atI s.hands h = some row ∧ row.length ≤ 1000) ∧ 0 ≤ s.days ∧ s.days ≤ 1000 ∧ 0 ≤ w.len ∧ w.len ≤ 1000 ∧ w.able.length ≤ 1000
def S_f_law_ways : DL.Spec := ⟨2, Sy × Int × Wk, fun (s, i, _) => [s.d, .int i], fun (s, i, w) _ => preWays s i w, fun (s, _, w) st d st' => st' = st ∧ d = .tup ((waysF s w).map encP)⟩
theorem blw_encP (n : Nat) : ∀ ps : List (Int × Int), D.blwL n (ps.map encP) = true
  | [] => rfl
  | p :: r => by rw [List.map_cons]; simp only [D.blwL, encP, D.blw, Bool.true_and]; exact blw_encP n r
def w_f_law_ways_1 : DT := wTest (wChain dLe dLt (wVar 9) (wVar 11) (wOp dAdd (wVar 9) (wVar 5)))
def w_f_law_ways_2 : DS := wIf (wTest (wOp dEq (wComp false (iSeq (wOp dIx (wVar 3) (wVar 10))) (.nm 11) w_f_law_ways_1 (wVar 11) [11]) (wLst false (wNil)))) (wDrop (wM mAppend (wVar 8) (wCons (wTup (wCons (wVar 9) (wCons (wVar 10) (wNil)))) (wNil)))) ((fun D env st => D.nx env st))
def w_f_law_ways_3 : DS := wFor (iSeq (wVar 7)) (gNm 10) w_f_law_ways_2
def w_f_law_ways : DS := wSeq (wAsg (wSl false (wVar 0) oNo (oPart (wC (.int 3)))) (gTp 3 (gCn (gNm 2) (gCn (gNm 3) (gCn (gNm 4) gNl))))) (wSeq (wAsg (wOp dIx (wVar 4) (wVar 1)) (gTp 3 (gCn (gNm 5) (gCn (gNm 6) (gCn (gNm 7) gNl))))) (wSeq (wAsg (wLst true (wNil)) (gNm 8)) (wSeq (wFor (iRange1 (wCons (wOp dAdd (wOp dSub (wVar 2) (wVar 5)) (wC (.int 1))) (wNil))) (gNm 9) w_f_law_ways_3) (wRet (wCB bTuple (wCons (wVar 8) (wNil)))))))
def hit (a b day : Int) : Bool := if a ≤ day then decide (day < b) else false
theorem free_empty (a b : Int) : ∀ row : List Int, (row.filterMap fun day => if hit a b day = true then some (D.int day) else none).isEmpty = freeF row a b
  | [] => rfl
  | x :: r => by
    have ih := free_empty a b r
    unfold freeF at ih ⊢
    rw [List.filterMap_cons, List.map_cons, List.any_cons]
    have eh : hit a b x = if a ≤ x then decide (x < b) else false := rfl
    rw [← eh]
    cases hit a b x with
    | true => rfl
    | false => exact ih
theorem okL_hits (a b : Int) : ∀ row : List Int, D.okL (row.filterMap fun day => if hit a b day = true then some (D.int day) else none) = true
  | [] => rfl
  | x :: r => by
    rw [List.filterMap_cons]
    cases hit a b x with
    | true => simp only [if_true, D.okL, D.ok, Bool.true_and]; exact okL_hits a b r
    | false => exact okL_hits a b r
theorem vc_f_law_ways : ∀ g sto, (S_f_law_ways.args g).length = S_f_law_ways.n → S_f_law_ways.pre g sto → w_f_law_ways (bodyEnds (popEnds sto.length sto (S_f_law_ways.post g sto))) (startE ["_law_system_here", "_law_work_here", "_law_days", "_law_hands", "_law_works", "_law_length", "_law_ahead", "_law_able", "_law_found", "_law_start", "_law_hand", "_law_day"] (S_f_law_ways.args g)) sto := by
  rintro ⟨s, i, w⟩ sto _ ⟨hw, hrow, d0, d1, l0, l1, la⟩
  have z2 : 2 ≤ sizeLine := by decide
  simp? only [w_f_law_ways, S_f_law_ways, wFor]
  refine ⟨_, atI_map hw, ?_⟩
  (try simp? only [true_and])
  refine ⟨Nat.zero_le _, ⟨by omega, by omega⟩, ?_⟩
  rw [rangeD_eq]
  refine forL_fold D.int (fun acc b => w.able.foldl (fun acc h => if freeF (rowOf s h) b (b + w.len) = true then acc ++ [(b, h)] else acc) acc)
    (fun k acc e st => ∃ x y, e = [some s.d, some (.int i), some (.int s.days), some (.tup (s.hands.map dInts)), some (.tup (s.works.map Wk.d)), some (.int w.len), some (dInts w.ahead), some (dInts w.able), some (.ref sto.length), x, y, none] ∧ st = sto ++ [.lst (acc.map encP)] ∧ acc.length ≤ k * 1000) _ [] _ _ ?_ ?_ ⟨_, _, rfl, rfl, Nat.le_refl _⟩
  · rintro k acc b e st hk hb ⟨x, y, rfl, rfl, hl⟩ R hR
    have hbr := mem_rangeI.mp hb
    refine ⟨trivial, ?_⟩
    simp? only [w_f_law_ways_3, wFor]
    refine forL_fold D.int (fun acc h => if freeF (rowOf s h) b (b + w.len) = true then acc ++ [(b, h)] else acc)
      (fun j acc' e st => ∃ y, e = [some s.d, some (.int i), some (.int s.days), some (.tup (s.hands.map dInts)), some (.tup (s.works.map Wk.d)), some (.int w.len), some (dInts w.ahead), some (dInts w.able), some (.ref sto.length), some (.int b), y, none] ∧ st = sto ++ [.lst (acc'.map encP)] ∧ acc'.length ≤ acc.length + j) _ acc _ _ ?_ ?_ ⟨_, rfl, rfl, Nat.le_refl _⟩
    · rintro j acc' h e st hj hh ⟨y, rfl, rfl, hl'⟩ R2 hR2
      obtain ⟨row, hr, hrl⟩ := hrow h hh
      have er : rowOf s h = row := by unfold rowOf; rw [hr]; rfl
      refine ⟨trivial, ?_⟩
      simp? only [w_f_law_ways_2, wComp, wipeE]
      refine ⟨_, atI_map hr, ?_⟩
      (try simp? only [true_and])
      refine ⟨by (try simp only [List.length_map]); rw [sizeLine_eq]; omega, compL_map D.int (fun day => if hit b (b + w.len) day = true then some (.int day) else none) trivial row [] (fun x hx R hR => ?_) ?_⟩
      · simp? only [Tg.dg, w_f_law_ways_1]
        unfold hit at hR
        by_cases hx : b ≤ x
        · by_cases hx2 : x < b + w.len
          · simpa [hx, hx2] using hR
          · simpa [hx, hx2] using hR
        · simpa [hx] using hR
      · simp? only [true_and]
        refine ⟨Nat.zero_le _, okL_hits _ _ _, ?_⟩
        simp only [v_eqE, wComp, wipeE, wFor, wIsi, iEnum, iZip, zipI_tup, zipI_lst, zipI_lt, zipI_tl, seqJ_tup, seqJ_lst, v_app0, v_app1, v_eqNl, v_eqNt, rd_r0, rd_r1, rd_r2, v_ix0, v_ix1, v_ix2, v_eq0, v_len0, v_len1, v_ex0, v_mulS, wRevA, v_revT, v_revL, wRgL1, wRgL2, wRgT1, wRgT2, v_rgx1, v_rgx2, sy_ix0, sy_ix1, sy_ix2, sy_ix3, sy_sl3, sy_tp, wk_ix0, wk_ix1, wk_ix2, wk_tp, ws_tp, ns_seq, ns_len, ns_ix, ns_rd, sy_rd, wk_rd, ws_rd, wSeq, wAsg, wRet, wIf, wDrop, wOp, wCons, wNil, wTup, wLst, wCB, wCall, wTest, wAnd, wOr, wNot, wNotV, wAndV, wOrV, wChain, wNeg, wC, wM, wSl, oNo, oPart, iSeq, seqI_tup, seqI_lst, seqI_scr, v_rg1, v_rg2, gNm, v_gTp, v_gCn, v_gNl, v_var0, v_varS, v_sub, v_mod, v_fdiv, v_pow, v_iadd, v_add, v_addT, v_addL, v_mul, v_lt, v_le, v_gt, v_ge, v_eqi, v_ixT, v_ixL, v_ixS, v_lenT, v_lenL, v_lenS, v_abs, v_min2, v_max2, v_intI, v_intB, v_tupl, v_tupT, v_bl, v_in, v_some, v_newT, v_newF, startE, rd_int', rd_bl', rd_str', rd_tup', rd_lst', rd_scr', rd_non', at0, at1, at2, at3, at4, List.map_cons, List.map_nil, List.length_cons, List.length_nil, List.length_map, List.replicate_succ, List.replicate_zero, Nat.reduceSub, Nat.reduceAdd, List.cons_append, List.nil_append, List.set_cons_zero, List.set_cons_succ, List.getElem?_cons_zero, List.getElem?_cons_succ, Bool.not_true, Bool.not_false, if_true, if_false, Bool.false_eq_true, reduceCtorEq, true_and, and_true, bodyEnds, Nat.zero_add, decide_eq_true_eq, free_empty]
        rw [er] at hR2
        by_cases hf : freeF row b (b + w.len) = true
        · rw [if_pos hf] at hR2
          simp? only [hf, v_app (get_last _ _), set_last, rd_ref' (get_last _ _)]
          rw [rangeI_len] at hk
          refine ⟨z2, by rw [sizeLine_eq]; omega, hR2 _ _ ⟨_, rfl, by simp [encP], by simp; omega⟩⟩
        · rw [if_neg hf] at hR2
          simp? only [hf]
          exact hR2 _ _ ⟨_, rfl, rfl, by omega⟩
    · rintro e st ⟨y, rfl, rfl, hl'⟩
      refine ⟨trivial, hR _ _ ⟨_, _, rfl, rfl, ?_⟩⟩
      omega
  · rintro e st ⟨x, y, rfl, rfl, hl⟩
    refine ⟨trivial, ?_⟩
    simp? only [v_tupL (rd_ref' (get_last _ _))]
    exact ⟨sto, _, rfl, rfl, blw_encP _ _, fun i c h => .inl h, rfl, rfl⟩
theorem waysL_len (s : Sy) (w : Wk) : (waysF s w).length ≤ (s.days - w.len + 1).toNat * w.able.length := by
  have inner : ∀ (b : Int) (hs : List Int) (acc : List (Int × Int)), (hs.foldl (fun acc h => if freeF (rowOf s h) b (b + w.len) = true then acc ++ [(b, h)] else acc) acc).length ≤ acc.length + hs.length := fun b hs => by
    induction hs with
    | nil => intro acc; exact Nat.le_refl _
    | cons h r ih =>
      intro acc
      rw [List.foldl_cons, List.length_cons]
      refine Nat.le_trans (ih _) ?_
      split <;> simp <;> omega
  have outer : ∀ (bs : List Int) (acc : List (Int × Int)), (bs.foldl (fun acc b => w.able.foldl (fun acc h => if freeF (rowOf s h) b (b + w.len) = true then acc ++ [(b, h)] else acc) acc) acc).length ≤ acc.length + bs.length * w.able.length := fun bs => by
    induction bs with
    | nil => intro acc; simp
    | cons b r ih =>
      intro acc
      rw [List.foldl_cons, List.length_cons, Nat.succ_mul]
      have h1 := ih (w.able.foldl (fun acc h => if freeF (rowOf s h) b (b + w.len) = true then acc ++ [(b, h)] else acc) acc)
      have h2 := inner b w.able acc
      omega
  have := outer (rangeI 0 (s.days - w.len + 1).toNat) []
  rw [rangeI_len] at this
  unfold waysF
  simpa using this
theorem lways_use {s : Sy} {i : Int} {w : Wk} {st : Sto} {Q : DK} (h : preWays s i w) (q : Q (.tup ((waysF s w).map encP)) st) :
    ∃ g, [s.d, .int i] = S_f_law_ways.args g ∧ (S_f_law_ways.args g).length = S_f_law_ways.n ∧ S_f_law_ways.pre g st ∧ ∀ d s2, S_f_law_ways.post g st d s2 → Q d s2 :=
  ⟨(s, i, w), rfl, rfl, h, fun d s2 ⟨e1, e2⟩ => by subst e1; subst e2; exact q⟩
theorem deck_use {ns : List Int} {Q : DK} (h : ns.length ≤ 63) (q : ∀ st', Dk 0 [] st' → Q (.ref 2) st') :
    ∃ g, [D.scr (ns.map .int)] = S_f_law_deck.args g ∧ (S_f_law_deck.args g).length = S_f_law_deck.n ∧ S_f_law_deck.pre g [] ∧ ∀ d s2, S_f_law_deck.post g [] d s2 → Q d s2 :=
  ⟨ns, rfl, rfl, ⟨h, rfl⟩, fun d s2 ⟨e1, e2⟩ => by subst e1; exact q s2 e2⟩
theorem preWays_of {s : Sy} {a b c l e : Int} (o : s.Ok a b c l e) (ha : a ≤ 900) (hb : b ≤ 100) (hl : l ≤ 900) {i : Nat} (hi : i < s.works.length) : ∃ w, preWays s i w ∧ w.Ok i s.hands.length l := by
  have hw : s.works[i]? = some s.works[i] := List.getElem?_eq_getElem hi
  have ow := o.work i _ hw
  refine ⟨s.works[i], ⟨atI_of (by omega) (by rw [Int.toNat_natCast]; exact hw), fun h hh => ?_, by have := o.days; omega, by have := o.days; omega, by have := ow.len; omega, by have := ow.len; omega, ?_⟩, ow⟩
  · have hr := ow.able.2 h hh
    obtain ⟨row, h1, h2⟩ := pick (xs := s.hands) (i := h) hr.1 hr.2
    refine ⟨row, h1, ?_⟩
    have := (o.rows row h2).len
    have := o.days
    omega
  · have := ow.able.len
    have := o.hands
    omega
theorem p_ix0 {p : Int × Int} {st : Sto} {Q : DK} : dIx (encP p) (.int 0) st Q = Q (.int p.1) st := by unfold encP; rw [v_ixT]; simp only [at0, v_some]
theorem p_ix1 {p : Int × Int} {st : Sto} {Q : DK} : dIx (encP p) (.int 1) st Q = Q (.int p.2) st := by unfold encP; rw [v_ixT]; simp only [at1, v_some]
theorem any_ints {i : Int} : ∀ ns : List Int, (ns.map D.int).any (fun z => z.eqv (.int i)) = ns.any (· == i)
  | [] => rfl
  | n :: r => by rw [List.map_cons, List.any_cons, List.any_cons, any_ints r]; simp only [D.eqv]
theorem depL_ints : ∀ ns : List Int, D.depL (ns.map D.int) = 0
  | [] => rfl
  | n :: r => by rw [List.map_cons]; simp only [D.depL, D.dep, depL_ints r]; rfl
theorem v_inI {i : Int} {ns : List Int} {st : Sto} {Q : DK} (q : Q (.bl (ns.any (· == i))) st) : dIn (.int i) (dInts ns) st Q :=
  ⟨ns.map .int, .inr rfl, rfl, okL_ints ns, by rw [depL_ints]; exact Nat.zero_le _, by rw [← any_ints] at q; exact q⟩
theorem v_inE {i : Int} {ns : List Int} {f : Bool → Bool} {st : Sto} {Q : DK} : dInB f (.int i) (dInts ns) st Q = Q (.bl (f (ns.any (· == i)))) st := by
  apply propext
  constructor
  · rintro ⟨ds, h, _, _, _, q⟩
    rcases h with h | h
    · cases h
    · cases h
      rw [← any_ints]
      exact q
  · intro q
    exact ⟨ns.map .int, .inr rfl, rfl, okL_ints ns, by rw [depL_ints]; exact Nat.zero_le _, by rw [← any_ints] at q; exact q⟩
def S_p_end_of : DL.Spec := ⟨3, Sy × Int × (Int × Int) × Wk, fun (s, i, p, _) => [s.d, .int i, encP p], fun (s, i, _, w) _ => atI s.works i = some w, fun (_, _, p, w) st d st' => st' = st ∧ d = .int (p.1 + w.len)⟩
def w_p_end_of : DS := wRet (wOp dAdd (wOp dIx (wVar 2) (wC (.int 0))) (wOp dIx (wOp dIx (wOp dIx (wVar 0) (wC (.int 2))) (wVar 1)) (wC (.int 0))))
theorem vc_p_end_of : ∀ g sto, (S_p_end_of.args g).length = S_p_end_of.n → S_p_end_of.pre g sto → w_p_end_of (bodyEnds (S_p_end_of.post g sto)) (startE ["system", "work", "way"] (S_p_end_of.args g)) sto := by
  rintro ⟨s, i, p, w⟩ sto _ hw
  simp? only [w_p_end_of, S_p_end_of, p_ix0]
  refine ⟨_, atI_map hw, ?_⟩
  (try simp? only [true_and])
theorem end_use {s : Sy} {i : Int} {p : Int × Int} {w : Wk} {st : Sto} {Q : DK} (h : atI s.works i = some w) (q : Q (.int (p.1 + w.len)) st) :
    ∃ g, [s.d, .int i, encP p] = S_p_end_of.args g ∧ (S_p_end_of.args g).length = S_p_end_of.n ∧ S_p_end_of.pre g st ∧ ∀ d s2, S_p_end_of.post g st d s2 → Q d s2 :=
  ⟨(s, i, p, w), rfl, rfl, h, fun d s2 ⟨e1, e2⟩ => by subst e1; subst e2; exact q⟩
theorem ok_encP (p : Int × Int) : (encP p).ok = true := rfl
theorem okL_encP : ∀ ps : List (Int × Int), D.okL (ps.map encP) = true
  | [] => rfl
  | p :: r => by rw [List.map_cons]; simp only [D.okL, ok_encP, okL_encP r, Bool.and_self]
theorem fm_filter {α : Type} {enc : α → D} (P : α → Bool) : ∀ xs : List α, (xs.filterMap fun x => if P x = true then some (enc x) else none) = (xs.filter P).map enc
  | [] => rfl
  | x :: r => by
    rw [List.filterMap_cons, List.filter_cons]
    cases P x with
    | true => simp only [if_true, List.map_cons]; rw [fm_filter P r]
    | false => exact fm_filter P r
def pureS (n : Nat) {G : Type} (args : G → List D) (pre : G → Prop) (val : G → D) : DL.Spec := ⟨n, G, args, fun g _ => pre g, fun g st d st' => st' = st ∧ d = val g⟩
theorem use_pure {n : Nat} {G : Type} {args : G → List D} {pre : G → Prop} {val : G → D} {a : List D} {st : Sto} {Q : DK} (g : G) (e : a = args g) (hl : (args g).length = n) (hp : pre g) (q : Q (val g) st) :
    ∃ g, a = (pureS n args pre val).args g ∧ ((pureS n args pre val).args g).length = (pureS n args pre val).n ∧ (pureS n args pre val).pre g st ∧ ∀ d s2, (pureS n args pre val).post g st d s2 → Q d s2 :=
  ⟨g, e, hl, hp, fun d s2 ⟨e1, e2⟩ => by subst e1; subst e2; exact q⟩
/-- a def that draws from the deck, at most c times -/
def deckS (n : Nat) (c : Int) {G : Type} (args : G → List D) (pre : G → Prop) (post : G → D → Prop) : DL.Spec :=
  ⟨n, Sto × Int × G, fun x => .ref 2 :: args x.2.2, fun x st => Dk x.2.1 x.1 st ∧ x.2.1 + c < 2 ^ 36 ∧ pre x.2.2, fun x _ d st' => post x.2.2 d ∧ Dk (x.2.1 + c) x.1 st'⟩
theorem use_deck {n : Nat} {c : Int} {G : Type} {args : G → List D} {pre : G → Prop} {post : G → D → Prop} {a : List D} {B : Int} {r st : Sto} {Q : DK} (g : G) (e : a = .ref 2 :: args g) (hl : (args g).length + 1 = n)
    (hD : Dk B r st) (hB : B + c < 2 ^ 36) (hp : pre g) (q : ∀ d st', post g d → Dk (B + c) r st' → Q d st') :
    ∃ g, a = (deckS n c args pre post).args g ∧ ((deckS n c args pre post).args g).length = (deckS n c args pre post).n ∧ (deckS n c args pre post).pre g st ∧ ∀ d s2, (deckS n c args pre post).post g st d s2 → Q d s2 :=
  ⟨(r, B, g), e, hl, ⟨hD, hB, hp⟩, fun d s2 ⟨e1, e2⟩ => q d s2 e1 e2⟩
section
variable {B B0 : Int} {rest ex st st' sto : Sto} {c c' : Cel}
theorem _root_.DL.Dk.len (h : Dk B rest st) : st.length = rest.length + 3 := by
  obtain ⟨ds, cs, t, rfl, _⟩ := h
  rfl
theorem _root_.DL.Dk.push (h : Dk B rest st) : Dk B (rest ++ [c]) (st ++ [c]) := by
  obtain ⟨ds, cs, t, rfl, r⟩ := h
  exact ⟨ds, cs, t, rfl, r⟩
theorem _root_.DL.Dk.top (h : Dk B (rest ++ [c]) st) : st[rest.length + 3]? = some c := by
  obtain ⟨ds, cs, t, rfl, r⟩ := h
  simp only [List.getElem?_cons_succ]
  exact get_last _ _
theorem _root_.DL.Dk.put (h : Dk B (rest ++ [c]) st) : Dk B (rest ++ [c']) (st.set (rest.length + 3) c') := by
  obtain ⟨ds, cs, t, rfl, r⟩ := h
  refine ⟨ds, cs, t, ?_, r⟩
  simp only [List.set_cons_succ, set_last]
theorem _root_.DL.Dk.pop (h : Dk B (rest ++ ex) st') : ∃ st1, st' = st1 ++ ex ∧ Dk B rest st1 := by
  obtain ⟨ds, cs, t, rfl, r⟩ := h
  exact ⟨_, rfl, ds, cs, t, rfl, r⟩
theorem blwL_ints (n : Nat) : ∀ ns : List Int, D.blwL n (ns.map .int) = true
  | [] => rfl
  | _ :: r => by rw [List.map_cons]; simp only [D.blwL, D.blw, Bool.true_and]; exact blwL_ints n r
theorem dk_pop {post : D → Sto → Prop} {d : D} (h0 : Dk B0 rest sto) (h : Dk B (rest ++ ex) st') (hb : d.blw sto.length = true) (q : ∀ st1, Dk B rest st1 → post d st1) : popEnds sto.length sto post d st' := by
  obtain ⟨st1, rfl, h1⟩ := h.pop
  refine ⟨st1, ex, rfl, by rw [h1.len, h0.len], hb, fun i c hc => ?_, q _ h1⟩
  have hlen := h0.len
  obtain ⟨ds, cs, t, rfl, _⟩ := h1
  obtain ⟨ds0, cs0, t0, rfl, _⟩ := h0
  match i, hc with
  | 0, hc => cases hc; exact .inr (by simp only [Cel.blw]; exact blwL_ints _ _)
  | 1, hc => cases hc; exact .inr (by simp only [Cel.blw]; exact blwL_ints _ _)
  | 2, hc => cases hc; refine .inr ?_; rw [hlen]; simp [Cel.blw, D.blwL, D.blw]
  | i + 3, hc => exact .inl hc
end
theorem compL_flt {α β : Type} {G : Sto → Prop} {t : Tg} {c : DT} {w : DE} {env : En} {Q : LK} {st : Sto} (enc : α → D) (P : α → Bool) (f : α → β) (enc' : β → D) (hG : G st) (xs : List α)
    (step : ∀ x ∈ xs, ∀ R : Option D → Sto → Prop, (if P x = true then R (some (enc' (f x))) st else R none st) → t.dg (enc x) env st fun e s => c e s fun b s1 => if b = true then w e s1 fun y s2 => R (some y) s2 else R none s1)
    (q : Q (((xs.filter P).map f).map enc') st) : wCompL G t c w env (xs.map enc) st [] Q := by
  refine compL_map enc (fun x => if P x = true then some (enc' (f x)) else none) hG xs [] (fun x hx R hR => step x hx R ?_) ?_
  · cases h : P x with
    | true => rw [h] at hR; exact hR
    | false => rw [h] at hR; exact hR
  · rw [List.nil_append, fm_filter, List.map_map] at *
    exact q
theorem compL_all {α β : Type} {G : Sto → Prop} {t : Tg} {c : DT} {w : DE} {env : En} {Q : LK} {st : Sto} (enc : α → D) (f : α → β) (enc' : β → D) (hG : G st) (xs : List α)
    (step : ∀ x ∈ xs, ∀ R : Option D → Sto → Prop, R (some (enc' (f x))) st → t.dg (enc x) env st fun e s => c e s fun b s1 => if b = true then w e s1 fun y s2 => R (some y) s2 else R none s1)
    (q : Q ((xs.map f).map enc') st) : wCompL G t c w env (xs.map enc) st [] Q := by
  refine compL_map enc (fun x => some (enc' (f x))) hG xs [] (fun x hx R hR => step x hx R hR) ?_
  rw [List.nil_append]
  have e : xs.filterMap (fun x => some (enc' (f x))) = (xs.map f).map enc' := by
    rw [List.map_map]; exact congrFun (List.filterMap_eq_map (f := enc' ∘ f)) xs
  rw [e]; exact q
theorem isE_map {α β : Type} (f : α → β) (xs : List α) : (xs.map f).isEmpty = xs.isEmpty := by cases xs <;> rfl
theorem isE_filter {α : Type} (P : α → Bool) : ∀ xs : List α, (xs.filter P).isEmpty = !xs.any P
  | [] => rfl
  | x :: r => by
    rw [List.filter_cons, List.any_cons]
    cases P x with
    | true => rfl
    | false => exact isE_filter P r
theorem pk2 {a b x : Int} : ∃ v : Int, atI [D.int a, .int b] (x % 2) = some (.int v) ∧ (v = a ∨ v = b) := by
  have h : x % 2 = 0 ∨ x % 2 = 1 := by omega
  rcases h with h | h
  · exact ⟨a, by rw [h]; rfl, .inl rfl⟩
  · exact ⟨b, by rw [h]; rfl, .inr rfl⟩
theorem pk3 {a b c x : Int} : ∃ v : Int, atI [D.int a, .int b, .int c] (x % 3) = some (.int v) ∧ (v = a ∨ v = b ∨ v = c) := by
  have h : x % 3 = 0 ∨ x % 3 = 1 ∨ x % 3 = 2 := by omega
  rcases h with h | h | h
  · exact ⟨a, by rw [h]; rfl, .inl rfl⟩
  · exact ⟨b, by rw [h]; rfl, .inr (.inl rfl)⟩
  · exact ⟨c, by rw [h]; rfl, .inr (.inr rfl)⟩
theorem pk {α : Type} {enc : α → D} {xs : List α} {i : Int} (h0 : 0 ≤ i) (h1 : i < xs.length) : ∃ v, atI (xs.map enc) i = some (enc v) ∧ v ∈ xs := by
  obtain ⟨v, h2, h3⟩ := pick h0 h1
  exact ⟨v, atI_map h2, h3⟩
theorem modb (x : Int) {n : Int} (h : 0 < n) : 0 ≤ x % n ∧ x % n < n := ⟨Int.emod_nonneg _ (by omega), Int.emod_lt_of_pos _ h⟩
theorem seq_go {a k : DS} {A : DEnds} {env : En} {st : Sto} (h : a { nx := fun e s => k A e s, rt := A.rt, bk := A.bk, ct := A.ct } env st) : wSeq a k A env st := h
/-- what holds behind a statement, whichever way -/
theorem seq_cut {a k : DS} {A : DEnds} {env : En} {st : Sto} (J : En → Sto → Prop) (h : ∀ K : En → Sto → Prop, (∀ e s, J e s → K e s) → a { nx := K, rt := A.rt, bk := A.bk, ct := A.ct } env st) (hk : ∀ e s, J e s → k A e s) : wSeq a k A env st := h _ hk
theorem enum_map {α : Type} (enc : α → D) (xs : List α) : enumD (xs.map enc) = xs.zipIdx.map fun x => .tup [.int (x.2 : Nat), enc x.1] := by
  unfold enumD
  rw [List.zipIdx_map, List.map_map]
  rfl
theorem enum_at {α : Type} {enc : α → D} {xs : List α} {i : Nat} {d : D} (h : (enumD (xs.map enc))[i]? = some d) : ∃ x, xs[i]? = some x ∧ d = .tup [.int (i : Nat), enc x] := by
  unfold enumD at h
  rw [List.getElem?_map, List.getElem?_zipIdx, List.getElem?_map] at h
  cases e : xs[i]? with
  | none => rw [e] at h; cases h
  | some x => rw [e] at h; cases h; exact ⟨x, rfl, by simp⟩
@[simp] theorem enum_len (ds : List D) : (enumD ds).length = ds.length := by unfold enumD; rw [List.length_map, List.length_zipIdx]
theorem v_mulT {x : List D} {k : Int} {st : Sto} {Q : DK} : dMul (.tup x) (.int k) st Q = (-(2 ^ 63) ≤ k ∧ k ≤ 1000 ∧ x.length ≤ 1000 ∧ Q (.tup (List.replicate k.toNat x).flatten) st) := rfl
theorem flat_one {α : Type} (x : α) : ∀ n : Nat, (List.replicate n [x]).flatten = List.replicate n x
  | 0 => rfl
  | n + 1 => by rw [List.replicate_succ, List.flatten_cons, flat_one x n, List.replicate_succ]; rfl
theorem cut_sub {α : Type} (xs : List α) (a b : Option Int) : (cutL xs a b).Sublist xs := by
  unfold cutL
  exact (List.take_sublist _ _).trans (List.drop_sublist _ _)
theorem v_slT {ds : List D} {a b : Option Int} {m : Bool} {st : Sto} {Q : DK} : dSl m (.tup ds) a b st Q = Q (.tup (cutL ds a b)) st := rfl
def encR (r : List (Int × Int)) : D := .tup (r.map encP)
def encF (f : List (List (Int × Int))) : D := .tup (f.map encR)
def wkAt (s : Sy) (i : Nat) : Wk := (s.works[i]?).getD ⟨0, [], []⟩
def Good (s : Sy) : Prop := s.Ok 900 100 100 900 100
theorem good_of {s : Sy} {a b c l e : Int} (o : s.Ok a b c l e) (ha : a ≤ 900) (hb : b ≤ 100) (hc : c ≤ 100) (hl : l ≤ 900) (he : e ≤ 100) : Good s :=
  ⟨by have := o.days; omega, by have := o.hands; omega, o.rows, by have := o.works; omega, fun i w h => by have := o.work i w h; exact ⟨by have := this.len; omega, this.ahead, this.able, this.any⟩, by have := o.wishes; omega, o.wish⟩
def wholeF (s : Sy) : List (List (Int × Int)) := s.works.map (waysF s)
def w_f_law_whole_1 : DE := wCall S_f_law_ways (wCons (wVar 0) (wCons (wVar 1) (wNil)))
def w_f_law_whole : DS := wRet (wCB bTuple (wCons (wComp false (iRange1 (wCons (wCB bLen (wCons (wOp dIx (wVar 0) (wC (.int 2))) (wNil))) (wNil))) (.nm 1) wYes w_f_law_whole_1 [1]) (wNil)))
def S_f_law_whole : DL.Spec := pureS 1 (fun s : Sy => [s.d]) Good (fun s => encF (wholeF s))
theorem idx_map {α β : Type} (f : α → β) (d : α) (xs : List α) : ((rangeI 0 xs.length).map fun i => f ((xs[i.toNat]?).getD d)) = xs.map f := by
  refine List.ext_getElem? fun i => ?_
  rw [List.getElem?_map, List.getElem?_map]
  unfold rangeI
  rw [List.getElem?_map]
  by_cases h : i < xs.length
  · rw [List.getElem?_range h]
    simp only [Option.map_some, Int.zero_add, Int.toNat_natCast, List.getElem?_eq_getElem h, Option.getD_some]
  · rw [List.getElem?_eq_none (by rw [List.length_range]; omega), List.getElem?_eq_none (by omega)]
    rfl
theorem vc_f_law_whole : ∀ g sto, (S_f_law_whole.args g).length = S_f_law_whole.n → S_f_law_whole.pre g sto → w_f_law_whole (bodyEnds (S_f_law_whole.post g sto)) (startE ["_law_system_here", "_law_work_here"] (S_f_law_whole.args g)) sto := by
  rintro (s : Sy) sto _ (hs : Good s)
  have hw := hs.works
  simp? only [w_f_law_whole, S_f_law_whole, pureS, wComp, wipeE]
  refine ⟨⟨by omega, by omega⟩, by rw [rangeD_len, sizeLine_eq]; omega, ?_⟩
  rw [rangeD_eq]
  refine compL_all D.int (fun i => waysF s ((s.works[i.toNat]?).getD ⟨0, [], []⟩)) encR trivial _ (fun i hi R hR => ?_) ?_
  · have hb := mem_rangeI.mp hi
    obtain ⟨j, rfl⟩ : ∃ j : Nat, i = j := ⟨i.toNat, by omega⟩
    obtain ⟨w, pw, ow⟩ := preWays_of hs (by omega) (by omega) (by omega) (i := j) (by omega)
    simp? only [Tg.dg, wYes, w_f_law_whole_1]
    refine lways_use pw ?_
    have e : s.works[j]? = some w := by
      have h := pw.1
      obtain ⟨v, h1, _⟩ := pick (xs := s.works) (i := (j : Int)) (by omega) (by omega)
      have h2 := atI_of (xs := s.works) (i := (j : Int)) (by omega) (by rw [Int.toNat_natCast]; exact List.getElem?_eq_getElem (show j < s.works.length by omega))
      rw [h] at h2
      cases h2
      exact List.getElem?_eq_getElem _
    rw [Int.toNat_natCast, e] at hR
    exact hR
  · rw [Int.toNat_natCast, idx_map]
    simp? only [true_and]
    rfl
abbrev S30 (s : Sy) : Prop := s.Ok 30 5 100 900 100
theorem s30_of {s : Sy} {a b c l e : Int} (o : s.Ok a b c l e) (ha : a ≤ 30) (hb : b ≤ 5) (hc : c ≤ 100) (hl : l ≤ 900) (he : e ≤ 100) : S30 s :=
  ⟨by have := o.days; omega, by have := o.hands; omega, o.rows, by have := o.works; omega, fun i w h => by have := o.work i w h; exact ⟨by have := this.len; omega, this.ahead, this.able, this.any⟩, by have := o.wishes; omega, o.wish⟩
structure SubF (f g : List (List (Int × Int))) : Prop where
  len : f.length = g.length
  sub : ∀ (i : Nat) r, f[i]? = some r → ∃ r', g[i]? = some r' ∧ r.Sublist r'
theorem SubF.refl (f : List (List (Int × Int))) : SubF f f := ⟨rfl, fun i r h => ⟨r, h, .refl _⟩⟩
theorem SubF.trans {f g h : List (List (Int × Int))} (a : SubF f g) (b : SubF g h) : SubF f h :=
  ⟨a.len.trans b.len, fun i r e => by obtain ⟨r1, e1, s1⟩ := a.sub i r e; obtain ⟨r2, e2, s2⟩ := b.sub i r1 e1; exact ⟨r2, e2, s1.trans s2⟩⟩
theorem SubF.nil : SubF [] [] := ⟨rfl, fun _ _ h => by simp at h⟩
theorem SubF.snoc {f g : List (List (Int × Int))} {r r' : List (Int × Int)} (a : SubF f g) (b : r.Sublist r') : SubF (f ++ [r]) (g ++ [r']) := by
  refine ⟨by rw [List.length_append, List.length_append, a.len]; rfl, fun i x h => ?_⟩
  by_cases hi : i < f.length
  · rw [List.getElem?_append_left hi] at h
    rw [List.getElem?_append_left (by rw [← a.len]; exact hi)]
    exact a.sub i x h
  · rw [List.getElem?_append_right (by omega)] at h
    rw [List.getElem?_append_right (by rw [← a.len]; omega), ← a.len]
    have e0 : i - f.length = 0 := by
      have := (List.getElem?_eq_some_iff.mp h).1
      rw [List.length_singleton] at this
      omega
    rw [e0] at h ⊢
    cases h
    exact ⟨r', rfl, b⟩
theorem take_snoc {α : Type} {xs : List α} {i : Nat} {x : α} (h : xs[i]? = some x) : xs.take (i + 1) = xs.take i ++ [x] := by
  rw [List.take_add_one, h]; rfl
/-- a field of ways of a system's works -/
def FieldOf (s : Sy) (f : List (List (Int × Int))) : Prop := SubF f (wholeF s)
theorem mem_field {s : Sy} {f : List (List (Int × Int))} (h : FieldOf s f) {i : Nat} {r : List (Int × Int)} (hr : f[i]? = some r) : ∃ w, s.works[i]? = some w ∧ r.Sublist (waysF s w) := by
  obtain ⟨r', h1, h2⟩ := h.sub i r hr
  unfold wholeF at h1
  rw [List.getElem?_map] at h1
  cases e : s.works[i]? with
  | none => rw [e] at h1; cases h1
  | some w => rw [e] at h1; cases h1; exact ⟨w, rfl, h2⟩
def behF (one : Int) (w1 w2 : Wk) (p q : Int × Int) : Bool := if w2.ahead.any (· == one) = true then decide (q.1 < p.1 + w1.len) else false
def S_p_is_behind : DL.Spec := ⟨5, Sy × Int × (Int × Int) × Int × (Int × Int) × Wk × Wk, fun (s, i, p, j, q, _) => [s.d, .int i, encP p, .int j, encP q], fun (s, i, _, j, _, w1, w2) _ => atI s.works i = some w1 ∧ atI s.works j = some w2, fun (_, i, p, _, q, w1, w2) st d st' => st' = st ∧ d = .bl (behF i w1 w2 p q)⟩
def w_p_is_behind : DS := wRet (wAndV (wOp dIn (wVar 1) (wOp dIx (wOp dIx (wOp dIx (wVar 0) (wC (.int 2))) (wVar 3)) (wC (.int 1)))) (wOp dLt (wOp dIx (wVar 4) (wC (.int 0))) (wCall S_p_end_of (wCons (wVar 0) (wCons (wVar 1) (wCons (wVar 2) (wNil)))))))
theorem vc_p_is_behind : ∀ g sto, (S_p_is_behind.args g).length = S_p_is_behind.n → S_p_is_behind.pre g sto → w_p_is_behind (bodyEnds (S_p_is_behind.post g sto)) (startE ["system", "one", "way", "other", "other_way"] (S_p_is_behind.args g)) sto := by
  rintro ⟨s, i, p, j, q, w1, w2⟩ sto _ ⟨h1, h2⟩
  simp? only [w_p_is_behind, S_p_is_behind, p_ix0]
  refine ⟨_, atI_map h2, ?_⟩
  (try simp? only [true_and])
  refine v_inI ?_
  simp? only [behF]
  by_cases ha : w2.ahead.any (· == i) = true
  · simp? only [ha, p_ix0]
    refine end_use h1 ?_
    simp? only [ha]
  · simp? only [ha]
theorem beh_use {s : Sy} {i j : Int} {p q : Int × Int} {w1 w2 : Wk} {st : Sto} {Q : DK} (h1 : atI s.works i = some w1) (h2 : atI s.works j = some w2) (k : Q (.bl (behF i w1 w2 p q)) st) :
    ∃ g, [s.d, .int i, encP p, .int j, encP q] = S_p_is_behind.args g ∧ (S_p_is_behind.args g).length = S_p_is_behind.n ∧ S_p_is_behind.pre g st ∧ ∀ d s2, S_p_is_behind.post g st d s2 → Q d s2 :=
  ⟨(s, i, p, j, q, w1, w2), rfl, rfl, ⟨h1, h2⟩, fun d s2 ⟨e1, e2⟩ => by subst e1; subst e2; exact k⟩
def clF (i j : Int) (w1 w2 : Wk) (p q : Int × Int) : Bool := (p.2 == q.2 && decide (p.1 < q.1 + w2.len) && decide (q.1 < p.1 + w1.len)) || behF i w1 w2 p q || behF j w2 w1 q p
def S_p_clash : DL.Spec := ⟨5, Sy × Int × (Int × Int) × Int × (Int × Int) × Wk × Wk, fun (s, i, p, j, q, _) => [s.d, .int i, encP p, .int j, encP q], fun (s, i, _, j, _, w1, w2) _ => atI s.works i = some w1 ∧ atI s.works j = some w2, fun (_, i, p, j, q, w1, w2) st d st' => st' = st ∧ d = .bl (clF i j w1 w2 p q)⟩
def w_p_clash : DS := wSeq (wIf (wAnd (wTest (wOp dEq (wOp dIx (wVar 2) (wC (.int 1))) (wOp dIx (wVar 4) (wC (.int 1))))) (wAnd (wTest (wOp dLt (wOp dIx (wVar 2) (wC (.int 0))) (wCall S_p_end_of (wCons (wVar 0) (wCons (wVar 3) (wCons (wVar 4) (wNil))))))) (wTest (wOp dLt (wOp dIx (wVar 4) (wC (.int 0))) (wCall S_p_end_of (wCons (wVar 0) (wCons (wVar 1) (wCons (wVar 2) (wNil))))))))) (wRet (wC (.bl true))) ((fun D env st => D.nx env st))) (wRet (wOrV (wCall S_p_is_behind (wCons (wVar 0) (wCons (wVar 1) (wCons (wVar 2) (wCons (wVar 3) (wCons (wVar 4) (wNil))))))) (wCall S_p_is_behind (wCons (wVar 0) (wCons (wVar 3) (wCons (wVar 4) (wCons (wVar 1) (wCons (wVar 2) (wNil)))))))))
theorem vc_p_clash : ∀ g sto, (S_p_clash.args g).length = S_p_clash.n → S_p_clash.pre g sto → w_p_clash (bodyEnds (S_p_clash.post g sto)) (startE ["system", "one", "way", "other", "other_way"] (S_p_clash.args g)) sto := by
  rintro ⟨s, i, p, j, q, w1, w2⟩ sto _ ⟨h1, h2⟩
  have tail : ∀ Q : DK, (¬(p.2 = q.2 ∧ p.1 < q.1 + w2.len ∧ q.1 < p.1 + w1.len)) → Q (.bl (clF i j w1 w2 p q)) sto → wOrV (wCall S_p_is_behind (wCons (wVar 0) (wCons (wVar 1) (wCons (wVar 2) (wCons (wVar 3) (wCons (wVar 4) (wNil))))))) (wCall S_p_is_behind (wCons (wVar 0) (wCons (wVar 3) (wCons (wVar 4) (wCons (wVar 1) (wCons (wVar 2) (wNil)))))))
      [some s.d, some (.int i), some (encP p), some (.int j), some (encP q)] sto Q := fun Q hn hQ => by
    have e : (p.2 == q.2 && decide (p.1 < q.1 + w2.len) && decide (q.1 < p.1 + w1.len)) = false := by
      rw [Bool.eq_false_iff]
      intro h
      simp only [Bool.and_eq_true, beq_iff_eq, decide_eq_true_eq] at h
      exact hn ⟨h.1.1, h.1.2, h.2⟩
    unfold clF at hQ
    rw [e, Bool.false_or] at hQ
    simp? only [true_and]
    refine beh_use h1 h2 ?_
    by_cases hb : behF i w1 w2 p q = true
    · rw [hb, Bool.true_or] at hQ
      simp? only [hb]
      exact hQ
    · rw [Bool.not_eq_true] at hb
      rw [hb, Bool.false_or] at hQ
      simp? only [hb]
      exact beh_use h2 h1 hQ
  have tl : (¬(p.2 = q.2 ∧ p.1 < q.1 + w2.len ∧ q.1 < p.1 + w1.len)) → _ := fun hn => tail (fun d s => s = sto ∧ d = .bl (clF i j w1 w2 p q)) hn ⟨rfl, rfl⟩
  simp? only [true_and] at tl
  simp? only [w_p_clash, S_p_clash, p_ix0, p_ix1]
  by_cases a1 : p.2 = q.2
  · simp? only [a1, beq_self_eq_true, p_ix0]
    refine end_use h2 ?_
    by_cases a2 : p.1 < q.1 + w2.len
    · simp? only [a2, decide_true, p_ix0]
      refine end_use h1 ?_
      by_cases a3 : q.1 < p.1 + w1.len
      · simp? only [a3, decide_true, p_ix0]
        unfold clF
        simp only [a1, a2, a3, beq_self_eq_true, decide_true, Bool.and_self, Bool.true_or]
      · simp? only [a3, decide_false]
        exact tl fun h => a3 h.2.2
    · simp? only [a2, decide_false]
      exact tl fun h => a2 h.2.1
  · have e : (p.2 == q.2) = false := by simpa using a1
    simp? only [e]
    exact tl fun h => a1 h.1
theorem clash_use {s : Sy} {i j : Int} {p q : Int × Int} {w1 w2 : Wk} {st : Sto} {Q : DK} (h1 : atI s.works i = some w1) (h2 : atI s.works j = some w2) (k : Q (.bl (clF i j w1 w2 p q)) st) :
    ∃ g, [s.d, .int i, encP p, .int j, encP q] = S_p_clash.args g ∧ (S_p_clash.args g).length = S_p_clash.n ∧ S_p_clash.pre g st ∧ ∀ d s2, S_p_clash.post g st d s2 → Q d s2 :=
  ⟨(s, i, p, j, q, w1, w2), rfl, rfl, ⟨h1, h2⟩, fun d s2 ⟨e1, e2⟩ => by subst e1; subst e2; exact k⟩
abbrev P2 := Int × Int
def isSq (st : Sto) (a : D) (ds : List D) : Prop := rd st a = .lst ds ∨ rd st a = .tup ds
theorem v_ixQ {st : Sto} {a : D} {ds : List D} {i : Int} {Q : DK} (h : isSq st a ds) : dIx a (.int i) st Q = ∃ d, atI ds i = some d ∧ Q d st := by
  apply propext
  constructor
  · rintro ⟨_, e, q⟩
    cases e
    rcases h with h | h <;> (rw [h] at q; exact q)
  · intro q
    refine ⟨_, rfl, ?_⟩
    rcases h with h | h <;> (rw [h]; exact q)
theorem v_lenQ {st : Sto} {a : D} {ds : List D} {Q : DK} (h : isSq st a ds) : bLen [a] st Q = Q (.int ds.length) st := by
  rcases h with h | h
  · exact v_len (by rw [h]; rfl)
  · exact v_len (by rw [h]; rfl)
theorem cell_of {st : Sto} {n : Nat} {ds : List D} (h : rd st (.ref n) = .lst ds) : st[n]? = some (.lst ds) := by
  cases e : st[n]? with
  | none => simp only [rd, e] at h; cases h
  | some c => cases c with
    | lst es => simp only [rd, e] at h; cases h; rfl
    | dead => simp only [rd, e] at h; cases h
    | ins _ _ => simp only [rd, e] at h; cases h
    | dct _ _ => simp only [rd, e] at h; cases h
theorem seqI_of {st : Sto} {d : D} {ds : List D} {R : GK} (h : rd st d = .lst ds) (q : ∀ G : Sto → Prop, (∀ st', rd st' d = .lst ds → G st') → R ds G st) : seqI d st R := by
  cases d with
  | lst es => cases h; exact q _ fun _ _ => trivial
  | ref n => exact ⟨ds, cell_of h, q _ fun st' h' => cell_of h'⟩
  | _ => cases h
theorem rd_app {st ex : Sto} {d : D} {ds : List D} (h : rd st d = .lst ds) : rd (st ++ ex) d = .lst ds := by
  cases d with
  | ref n =>
    have e := cell_of h
    refine rd_ref' ?_
    rw [List.getElem?_append_left (List.getElem?_eq_some_iff.mp e).1]
    exact e
  | lst es => exact h
  | _ => cases h
def w_f_law_clash : DS := wSeq (wAsg (wOp dAdd (wOp dIx (wVar 2) (wC (.int 0))) (wOp dIx (wOp dIx (wOp dIx (wVar 0) (wC (.int 2))) (wVar 1)) (wC (.int 0)))) (gNm 5)) (wSeq (wAsg (wOp dAdd (wOp dIx (wVar 4) (wC (.int 0))) (wOp dIx (wOp dIx (wOp dIx (wVar 0) (wC (.int 2))) (wVar 3)) (wC (.int 0)))) (gNm 6)) (wSeq (wIf (wAnd (wTest (wOp dEq (wOp dIx (wVar 2) (wC (.int 1))) (wOp dIx (wVar 4) (wC (.int 1))))) (wAnd (wTest (wOp dLt (wOp dIx (wVar 2) (wC (.int 0))) (wVar 6))) (wTest (wOp dLt (wOp dIx (wVar 4) (wC (.int 0))) (wVar 5))))) (wRet (wC (.bl true))) ((fun D env st => D.nx env st))) (wSeq (wIf (wAnd (wTest (wOp dIn (wVar 1) (wOp dIx (wOp dIx (wOp dIx (wVar 0) (wC (.int 2))) (wVar 3)) (wC (.int 1))))) (wTest (wOp dLt (wOp dIx (wVar 4) (wC (.int 0))) (wVar 5)))) (wRet (wC (.bl true))) ((fun D env st => D.nx env st))) (wRet (wAndV (wOp dIn (wVar 3) (wOp dIx (wOp dIx (wOp dIx (wVar 0) (wC (.int 2))) (wVar 1)) (wC (.int 1)))) (wOp dLt (wOp dIx (wVar 2) (wC (.int 0))) (wVar 6)))))))
def S_f_law_clash : DL.Spec := pureS 5 (fun (x : Sy × Int × P2 × Int × P2 × Wk × Wk) => [x.1.d, .int x.2.1, encP x.2.2.1, .int x.2.2.2.1, encP x.2.2.2.2.1]) (fun x => atI x.1.works x.2.1 = some x.2.2.2.2.2.1 ∧ atI x.1.works x.2.2.2.1 = some x.2.2.2.2.2.2) (fun x => .bl (clF x.2.1 x.2.2.2.1 x.2.2.2.2.2.1 x.2.2.2.2.2.2 x.2.2.1 x.2.2.2.2.1))
theorem vc_f_law_clash : ∀ g sto, (S_f_law_clash.args g).length = S_f_law_clash.n → S_f_law_clash.pre g sto → w_f_law_clash (bodyEnds (S_f_law_clash.post g sto)) (startE ["_law_system_here", "_law_one", "_law_way", "_law_other", "_law_other_way", "_law_end", "_law_other_end"] (S_f_law_clash.args g)) sto := by
  rintro ⟨s, i, p, j, q, w1, w2⟩ sto _ ⟨h1, h2⟩
  dsimp only at h1 h2
  simp? only [w_f_law_clash, S_f_law_clash, pureS, p_ix0, p_ix1, atI_map h1, atI_map h2, v_inE]
  have e3 : clF i j w1 w2 p q = ((p.2 == q.2 && decide (p.1 < q.1 + w2.len) && decide (q.1 < p.1 + w1.len)) || (if w2.ahead.any (· == i) = true then decide (q.1 < p.1 + w1.len) else false) || if w1.ahead.any (· == j) = true then decide (p.1 < q.1 + w2.len) else false) := rfl
  rw [e3]
  have r0 : sto = sto := rfl
  generalize w2.ahead.any (· == i) = b1
  generalize w1.ahead.any (· == j) = b2
  by_cases a1 : p.2 = q.2 <;> by_cases a2 : p.1 < q.1 + w2.len <;> by_cases a3 : q.1 < p.1 + w1.len <;> cases b1 <;> cases b2 <;> simp [a1, a2, a3]
def w_f_law_goes_1 : DT := wTest (wCall S_f_law_clash (wCons (wVar 0) (wCons (wVar 4) (wCons (wOp dIx (wVar 1) (wVar 4)) (wCons (wVar 2) (wCons (wVar 3) (wNil)))))))
def w_f_law_goes : DS := wRet (wOp dEq (wComp false (iRange1 (wCons (wCB bLen (wCons (wVar 1) (wNil))) (wNil))) (.nm 4) w_f_law_goes_1 (wVar 4) [4]) (wLst false (wNil)))
def goesF (s : Sy) (ps : List P2) (i : Nat) (p : P2) : Bool := !(rangeI 0 ps.length).any fun k => clF k i (wkAt s k.toNat) (wkAt s i) ((ps[k.toNat]?).getD (0, 0)) p
theorem goes_iff {s : Sy} {ps : List P2} {i : Nat} {p : P2} : goesF s ps i p = true ↔ ∀ (k : Nat) q, ps[k]? = some q → clF k i (wkAt s k) (wkAt s i) q p = false := by
  unfold goesF
  rw [Bool.not_eq_true', List.any_eq_false]
  constructor
  · intro h k q hq
    have hk := (List.getElem?_eq_some_iff.mp hq).1
    have := h (k : Int) (mem_rangeI.mpr (by omega))
    rw [Int.toNat_natCast, hq] at this
    simpa using this
  · intro h k hk
    have hb := mem_rangeI.mp hk
    obtain ⟨j, rfl⟩ : ∃ j : Nat, k = j := ⟨k.toNat, by omega⟩
    have hj : j < ps.length := by omega
    rw [Int.toNat_natCast, List.getElem?_eq_getElem hj]
    have := h j _ (List.getElem?_eq_getElem hj)
    simpa using this
theorem wk_at {s : Sy} {i : Nat} (h : i < s.works.length) : atI s.works (i : Int) = some (wkAt s i) := by
  refine atI_of (by omega) ?_
  rw [Int.toNat_natCast]
  unfold wkAt
  rw [List.getElem?_eq_getElem h]
  rfl
def S_f_law_goes : DL.Spec := ⟨4, Sy × D × List P2 × Nat × P2, fun x => [x.1.d, x.2.1, .int (x.2.2.2.1 : Nat), encP x.2.2.2.2], fun x st => isSq st x.2.1 (x.2.2.1.map encP) ∧ x.2.2.1.length ≤ x.1.works.length ∧ x.2.2.2.1 < x.1.works.length ∧ x.1.works.length ≤ 1000, fun x st d st' => st' = st ∧ d = .bl (goesF x.1 x.2.2.1 x.2.2.2.1 x.2.2.2.2)⟩
theorem vc_f_law_goes : ∀ g sto, (S_f_law_goes.args g).length = S_f_law_goes.n → S_f_law_goes.pre g sto → w_f_law_goes (bodyEnds (S_f_law_goes.post g sto)) (startE ["_law_system", "_law_ways_here", "_law_work_here", "_law_way", "_law_one"] (S_f_law_goes.args g)) sto := by
  rintro ⟨s, a, ps, i, p⟩ sto _ ⟨hq, hp, hi, hs⟩
  dsimp only at hq hp hi hs
  simp? only [w_f_law_goes, S_f_law_goes, wComp, wipeE, v_lenQ hq, rangeD_len, List.length_map]
  refine ⟨⟨by omega, by omega⟩, by rw [sizeLine_eq]; omega, ?_⟩
  rw [rangeD_eq]
  refine compL_flt D.int (fun k => clF k i (wkAt s k.toNat) (wkAt s i) ((ps[k.toNat]?).getD (0, 0)) p) id D.int trivial _ (fun k hk R hR => ?_) ?_
  · have hb := mem_rangeI.mp hk
    obtain ⟨j, rfl⟩ : ∃ j : Nat, k = j := ⟨k.toNat, by omega⟩
    have hj : j < ps.length := by omega
    rw [Int.toNat_natCast, List.getElem?_eq_getElem hj] at hR
    simp? only [Tg.dg, w_f_law_goes_1, v_ixQ hq]
    refine ⟨_, atI_map (atI_of (by omega) (List.getElem?_eq_getElem (show (j : Int).toNat < ps.length by omega))), ?_⟩
    exact use_pure (s, (j : Int), ps[(j : Int).toNat], (i : Int), p, wkAt s j, wkAt s i) rfl rfl ⟨wk_at (s := s) (by omega), wk_at (s := s) hi⟩ ⟨_, rfl, hR⟩
  · simp only [List.map_id, isE_map, isE_filter, v_eqE, wComp, wipeE, wFor, wIsi, iEnum, iZip, zipI_tup, zipI_lst, zipI_lt, zipI_tl, seqJ_tup, seqJ_lst, v_app0, v_app1, v_eqNl, v_eqNt, rd_r0, rd_r1, rd_r2, v_ix0, v_ix1, v_ix2, v_eq0, v_len0, v_len1, v_ex0, v_mulS, wRevA, v_revT, v_revL, wRgL1, wRgL2, wRgT1, wRgT2, v_rgx1, v_rgx2, sy_ix0, sy_ix1, sy_ix2, sy_ix3, sy_sl3, sy_tp, wk_ix0, wk_ix1, wk_ix2, wk_tp, ws_tp, ns_seq, ns_len, ns_ix, ns_rd, sy_rd, wk_rd, ws_rd, wSeq, wAsg, wRet, wIf, wDrop, wOp, wCons, wNil, wTup, wLst, wCB, wCall, wTest, wAnd, wOr, wNot, wNotV, wAndV, wOrV, wChain, wNeg, wC, wM, wSl, oNo, oPart, iSeq, seqI_tup, seqI_lst, seqI_scr, v_rg1, v_rg2, gNm, v_gTp, v_gCn, v_gNl, v_var0, v_varS, v_sub, v_mod, v_fdiv, v_pow, v_iadd, v_add, v_addT, v_addL, v_mul, v_lt, v_le, v_gt, v_ge, v_eqi, v_ixT, v_ixL, v_ixS, v_lenT, v_lenL, v_lenS, v_abs, v_min2, v_max2, v_intI, v_intB, v_tupl, v_tupT, v_bl, v_in, v_some, v_newT, v_newF, startE, rd_int', rd_bl', rd_str', rd_tup', rd_lst', rd_scr', rd_non', at0, at1, at2, at3, at4, List.map_cons, List.map_nil, List.length_cons, List.length_nil, List.length_map, List.replicate_succ, List.replicate_zero, Nat.reduceSub, Nat.reduceAdd, List.cons_append, List.nil_append, List.set_cons_zero, List.set_cons_succ, List.getElem?_cons_zero, List.getElem?_cons_succ, Bool.not_true, Bool.not_false, if_true, if_false, Bool.false_eq_true, reduceCtorEq, true_and, and_true, bodyEnds, Nat.zero_add, decide_eq_true_eq, Int.toNat_natCast]
    exact ⟨Nat.zero_le _, okL_ints _, rfl⟩
def szF (r : List P2) : Int := if (r.length : Int) > 1 then (r.length : Int) else 1
def prodI (ns : List Int) : Int := ns.foldl (fun a b => a * b) 1
def manyF (f : List (List P2)) : Int := prodI (f.map szF)
theorem foldl_mul (ns : List Int) : ∀ a : Int, ns.foldl (fun a b => a * b) a = a * prodI ns := by
  induction ns with
  | nil => intro a; simp [prodI]
  | cons x r ih => intro a; unfold prodI; rw [List.foldl_cons, List.foldl_cons, ih, ih, Int.one_mul, Int.mul_assoc]
theorem prodI_cons (x : Int) (ns : List Int) : prodI (x :: ns) = x * prodI ns := by
  unfold prodI; rw [List.foldl_cons, Int.one_mul, foldl_mul]; rfl
theorem prodI_append (ns ms : List Int) : prodI (ns ++ ms) = prodI ns * prodI ms := by
  unfold prodI; rw [List.foldl_append, foldl_mul]; rfl
theorem prodI_pos : ∀ {ns : List Int}, (∀ n ∈ ns, 1 ≤ n) → 1 ≤ prodI ns
  | [], _ => by decide
  | x :: r, h => by
    rw [prodI_cons]
    have h1 := h x List.mem_cons_self
    have h2 := prodI_pos fun n hn => h n (List.mem_cons_of_mem _ hn)
    have := Int.mul_le_mul h1 h2 (by omega) (by omega)
    omega
theorem szF_pos (r : List P2) : 1 ≤ szF r := by unfold szF; split <;> omega
theorem szF_le (r : List P2) : (r.length : Int) ≤ szF r := by unfold szF; split <;> omega
theorem manyF_pos (f : List (List P2)) : 1 ≤ manyF f := prodI_pos fun n hn => by
  obtain ⟨r, _, rfl⟩ := List.mem_map.mp hn
  exact szF_pos r
theorem manyF_append (f g : List (List P2)) : manyF (f ++ g) = manyF f * manyF g := by unfold manyF; rw [List.map_append, prodI_append]
theorem manyF_take (f : List (List P2)) (i : Nat) : manyF (f.take i) ≤ manyF f := by
  have h : manyF f = manyF (f.take i) * manyF (f.drop i) := by rw [← manyF_append, List.take_append_drop]
  have h1 := manyF_pos (f.take i)
  have h2 := manyF_pos (f.drop i)
  rw [h]
  have := Int.mul_le_mul_of_nonneg_left h2 (show 0 ≤ manyF (f.take i) by omega)
  omega
def w_f_law_plans_1 : DT := wTest (wCall S_f_law_goes (wCons (wVar 0) (wCons (wVar 6) (wCons (wVar 3) (wCons (wVar 7) (wNil))))))
def w_f_law_plans_2 : DE := wOp dAdd (wVar 6) (wTup (wCons (wVar 7) (wNil)))
def w_f_law_plans_3 : DS := wDrop (wM mExtend (wVar 5) (wCons (wComp false (iSeq (wVar 4)) (.nm 7) w_f_law_plans_1 w_f_law_plans_2 [7]) (wNil)))
def w_f_law_plans_4 : DS := wSeq (wAsg (wLst true (wNil)) (gNm 5)) (wSeq (wFor (iSeq (wVar 2)) (gNm 6) w_f_law_plans_3) (wAsg (wVar 5) (gNm 2)))
def w_f_law_plans : DS := wSeq (wIf (wTest (wOp dIn (wTup (wNil)) (wVar 1))) (wRet (wLst false (wNil))) ((fun D env st => D.nx env st))) (wSeq (wAsg (wLst false (wCons (wTup (wNil)) (wNil))) (gNm 2)) (wSeq (wFor (iEnum (wVar 1)) (gTp 2 (gCn (gNm 3) (gCn (gNm 4) gNl))) w_f_law_plans_4) (wRet (wFrzA 2))))
def plansN (s : Sy) (f : List (List P2)) : Nat → List (List P2)
  | 0 => [[]]
  | i + 1 => (plansN s f i).flatMap fun ps => (((f[i]?).getD []).filter (goesF s ps i)).map fun p => ps ++ [p]
def plansF (s : Sy) (f : List (List P2)) : List (List P2) := if f.any List.isEmpty then [] else plansN s f f.length
structure IsPl (s : Sy) (f : List (List P2)) (i : Nat) (ps : List P2) : Prop where
  len : ps.length = i
  mem : ∀ (k : Nat) r p, f[k]? = some r → ps[k]? = some p → p ∈ r
  ok : ∀ (j k : Nat) q p, j < k → ps[j]? = some q → ps[k]? = some p → clF j k (wkAt s j) (wkAt s k) q p = false
theorem mem_plansN {s : Sy} {f : List (List P2)} : ∀ {i : Nat} {ps : List P2}, i ≤ f.length → (ps ∈ plansN s f i ↔ IsPl s f i ps)
  | 0, ps, _ => by
    constructor
    · intro h
      have : ps = [] := by simpa [plansN] using h
      subst this
      exact ⟨rfl, fun k r p _ h => by simp at h, fun j k q p _ h => by simp at h⟩
    · intro h
      have : ps = [] := List.length_eq_zero_iff.mp h.len
      subst this
      simp [plansN]
  | i + 1, ps, hi => by
    have hf : f[i]? = some f[i] := List.getElem?_eq_getElem (by omega)
    simp only [plansN, List.mem_flatMap, List.mem_map, List.mem_filter, hf, Option.getD_some]
    constructor
    · rintro ⟨qs, hq, p, ⟨hp, hg⟩, rfl⟩
      have h := (mem_plansN (s := s) (f := f) (i := i) (by omega)).mp hq
      refine ⟨by rw [List.length_append, h.len]; rfl, fun k r x hr hx => ?_, fun j k q x hjk hq' hx => ?_⟩
      · by_cases hk : k < qs.length
        · rw [List.getElem?_append_left hk] at hx; exact h.mem k r x hr hx
        · rw [List.getElem?_append_right (by omega)] at hx
          have e0 : k - qs.length = 0 := by have := (List.getElem?_eq_some_iff.mp hx).1; rw [List.length_singleton] at this; omega
          rw [e0] at hx
          cases hx
          have : k = i := by have := h.len; omega
          subst this
          rw [hf] at hr
          cases hr
          exact hp
      · by_cases hk : k < qs.length
        · rw [List.getElem?_append_left hk] at hx
          rw [List.getElem?_append_left (by omega)] at hq'
          exact h.ok j k q x hjk hq' hx
        · rw [List.getElem?_append_right (by omega)] at hx
          have e0 : k - qs.length = 0 := by have := (List.getElem?_eq_some_iff.mp hx).1; rw [List.length_singleton] at this; omega
          rw [e0] at hx
          cases hx
          have : k = i := by have := h.len; omega
          subst this
          rw [List.getElem?_append_left (by omega)] at hq'
          exact goes_iff.mp hg j q hq'
    · intro h
      have hl := h.len
      have hx : ps[i]? = some ps[i] := List.getElem?_eq_getElem (by omega)
      refine ⟨ps.take i, (mem_plansN (by omega)).mpr ⟨by rw [List.length_take]; omega, fun k r p hr hp => ?_, fun j k q p hjk hq hp => ?_⟩, ps[i], ⟨h.mem i _ _ hf hx, goes_iff.mpr fun k q hq => ?_⟩, ?_⟩
      · rw [List.getElem?_take] at hp
        split at hp
        · exact h.mem k r p hr hp
        · cases hp
      · rw [List.getElem?_take] at hp hq
        split at hp
        · split at hq
          · exact h.ok j k q p hjk hq hp
          · cases hq
        · cases hp
      · rw [List.getElem?_take] at hq
        split at hq
        · rename_i hki
          exact h.ok k i q _ hki hq hx
        · cases hq
      · have := take_snoc hx
        rw [← this, List.take_of_length_le (by omega)]
theorem plansN_len {s : Sy} {f : List (List P2)} : ∀ {i : Nat}, i ≤ f.length → ((plansN s f i).length : Int) ≤ manyF (f.take i)
  | 0, _ => by simp [plansN, manyF, prodI]
  | i + 1, hi => by
    have hf : f[i]? = some f[i] := List.getElem?_eq_getElem (by omega)
    have ih := plansN_len (s := s) (f := f) (i := i) (by omega)
    rw [take_snoc hf, manyF_append]
    have e : manyF [f[i]] = szF f[i] := by simp [manyF, prodI]
    rw [e]
    have h2 := szF_le f[i]
    have hle : ∀ qs : List (List P2), (qs.flatMap fun ps => (((f[i]?).getD []).filter (goesF s ps i)).map fun p => ps ++ [p]).length ≤ qs.length * (f[i]).length := fun qs => by
      induction qs with
      | nil => simp
      | cons q qs ih =>
        rw [List.flatMap_cons, List.length_append, List.length_cons, Nat.succ_mul, List.length_map]
        have : (((f[i]?).getD []).filter (goesF s q i)).length ≤ (f[i]).length := by rw [hf]; exact List.length_filter_le _ _
        omega
    have h3 := hle (plansN s f i)
    have h4 : ((plansN s f (i + 1)).length : Int) ≤ ((plansN s f i).length : Int) * ((f[i]).length : Int) := by
      have : (plansN s f (i + 1)).length ≤ (plansN s f i).length * (f[i]).length := h3
      exact_mod_cast this
    have h5 : ((plansN s f i).length : Int) * ((f[i]).length : Int) ≤ manyF (f.take i) * szF f[i] := Int.mul_le_mul ih h2 (by omega) (by have := manyF_pos (f.take i); omega)
    omega
theorem okL_encR : ∀ f : List (List P2), D.okL (f.map encR) = true
  | [] => rfl
  | r :: f => by rw [List.map_cons]; simp only [D.okL, encR, D.ok, okL_encP, okL_encR f, Bool.and_self]
theorem any_emp (f : List (List P2)) : (f.map encR).any (fun z => z.eqv (.tup [])) = f.any List.isEmpty := by
  rw [List.any_map]
  congr 1
  funext r
  cases r with
  | nil => simp [encR, D.eqv, D.eqvL]
  | cons p r => simp [encR, D.eqv, D.eqvL]
theorem v_inN {f : List (List P2)} {g : Bool → Bool} {st : Sto} {Q : DK} : dInB g (.tup []) (encF f) st Q = Q (.bl (g (f.any List.isEmpty))) st := by
  apply propext
  constructor
  · rintro ⟨ds, h, _, _, _, q⟩
    rcases h with h | h
    · cases h
    · cases h
      rw [← any_emp]
      exact q
  · intro q
    exact ⟨f.map encR, .inr rfl, rfl, okL_encR f, Nat.le_trans (Nat.min_le_right _ _) (by simp [D.dep, D.depL]), by rw [← any_emp] at q; exact q⟩
def S_f_law_plans : DL.Spec := pureS 2 (fun (x : Sy × List (List P2)) => [x.1.d, encF x.2]) (fun x => x.2.length ≤ x.1.works.length ∧ x.1.works.length ≤ 1000 ∧ (¬x.2.any List.isEmpty = true → manyF x.2 ≤ 1000000)) (fun x => .lst ((plansF x.1 x.2).map encR))
theorem blw_encRs (n : Nat) : ∀ f : List (List P2), D.blwL n (f.map encR) = true
  | [] => rfl
  | r :: fs => by rw [List.map_cons]; simp only [D.blwL, encR, D.blw, blw_encP, blw_encRs n fs, Bool.and_self]
theorem rowsize {f : List (List P2)} {r : List P2} (h : r ∈ f) : (r.length : Int) ≤ manyF f := by
  obtain ⟨i, hi, rfl⟩ := List.getElem_of_mem h
  have h1 := manyF_take f (i + 1)
  rw [take_snoc (List.getElem?_eq_getElem hi), manyF_append] at h1
  have e : manyF [f[i]] = szF f[i] := by simp [manyF, prodI]
  rw [e] at h1
  have h2 := szF_le f[i]
  have h3 := manyF_pos (f.take i)
  have h4 := szF_pos f[i]
  have := Int.mul_le_mul_of_nonneg_right h3 (show 0 ≤ szF f[i] by omega)
  omega
theorem vc_f_law_plans : ∀ g sto, (S_f_law_plans.args g).length = S_f_law_plans.n → S_f_law_plans.pre g sto → w_f_law_plans (bodyEnds (popEnds sto.length sto (S_f_law_plans.post g sto))) (startE ["_law_system", "_law_field", "_law_found", "_law_work_here", "_law_row", "_law_longer_rows", "_law_ways_here", "_law_way"] (S_f_law_plans.args g)) sto := by
  rintro ⟨s, f⟩ sto _ ⟨hl, hw, hm⟩
  dsimp only at hl hw hm
  have z1 : 1 ≤ sizeLine := by decide
  simp? only [w_f_law_plans, S_f_law_plans, pureS, wFor, v_inN]
  by_cases hE : f.any List.isEmpty = true
  · rw [if_pos hE]
    refine ⟨Nat.zero_le _, Nat.zero_le _, sto, [], by simp, rfl, rfl, fun i c h => .inl h, rfl, by simp [plansF, hE]⟩
  · rw [if_neg hE]
    have hm := hm hE
    have e0 : plansF s f = plansN s f f.length := by unfold plansF; rw [if_neg hE]
    rw [e0]
    refine ⟨Nat.zero_le _, Nat.zero_le _, z1, ?_⟩
    show seqJ (encF f) _ _
    refine forL_inv (fun i e st => ∃ X2 x3 x4 x5 x6 ex, e = [some s.d, some (encF f), some X2, x3, x4, x5, x6, none] ∧ st = sto ++ ex ∧ rd st X2 = .lst ((plansN s f i).map encR) ∧ (X2 = .lst ((plansN s f i).map encR) ∨ ∃ n, X2 = .ref n ∧ sto.length ≤ n)) ?_ ?_ _ _ ⟨_, _, _, _, _, [], rfl, by simp, rfl, .inl rfl⟩
    · rintro i e st d ⟨X2, x3, x4, x5, x6, ex, rfl, rfl, hrd, hX⟩ he R hR
      obtain ⟨r, hr, rfl⟩ := enum_at he
      have hil := (List.getElem?_eq_some_iff.mp hr).1
      refine ⟨trivial, ?_⟩
      simp? only [w_f_law_plans_4, wFor]
      refine ⟨Nat.zero_le _, ?_⟩
      refine seqI_of (rd_app (ex := [.lst []]) hrd) fun G hG => ?_
      have hrl := rowsize (List.mem_of_getElem? hr)
      have hpl := plansN_len (s := s) (f := f) (i := i) (by omega)
      have hpl2 : ((plansN s f i).length : Int) * r.length ≤ 1000000 := by
        have h1 := manyF_take f (i + 1)
        rw [take_snoc hr, manyF_append] at h1
        have e : manyF [r] = szF r := by simp [manyF, prodI]
        rw [e] at h1
        have h5 : ((plansN s f i).length : Int) * (r.length : Int) ≤ manyF (f.take i) * szF r := Int.mul_le_mul hpl (szF_le r) (by omega) (by have := manyF_pos (f.take i); omega)
        omega
      have hpl3 : (plansN s f i).length * r.length ≤ 1000000 := by
        have h : (((plansN s f i).length * r.length : Nat) : Int) ≤ ((1000000 : Nat) : Int) := by rw [Int.natCast_mul]; exact hpl2
        exact Int.ofNat_le.mp h
      refine forL_fold encR (fun acc ps => acc ++ ((r.filter (goesF s ps i)).map fun p => ps ++ [p])) (fun k acc e st => ∃ x6, e = [some s.d, some (encF f), some X2, some (.int (i : Nat)), some (encR r), some (.ref (sto ++ ex).length), x6, none] ∧ st = sto ++ ex ++ [.lst (acc.map encR)] ∧ acc.length ≤ k * r.length) _ [] _ _ ?_ ?_ ⟨_, rfl, rfl, Nat.zero_le _⟩
      · rintro k acc ps e st hk hps ⟨x6, rfl, rfl, hacc⟩ R2 hR2
        have hpl4 := ((mem_plansN (s := s) (f := f) (i := i) (by omega)).mp hps).len
        refine ⟨hG _ (rd_app hrd), ?_⟩
        simp? only [w_f_law_plans_3, wComp, wipeE, rd_ref' (get_last _ _), encR]
        refine ⟨by rw [sizeLine_eq]; omega, ?_⟩
        refine compL_flt encP (goesF s ps i) (fun p => ps ++ [p]) encR trivial _ (fun p hp R3 hR3 => ?_) ?_
        · simp? only [Tg.dg, w_f_law_plans_1, w_f_law_plans_2]
          refine ⟨(s, encR ps, ps, i, p), rfl, rfl, ⟨.inr rfl, by show ps.length ≤ s.works.length; omega, by show i < s.works.length; omega, hw⟩, ?_⟩
          rintro _ _ ⟨rfl, rfl⟩
          refine ⟨_, rfl, ?_⟩
          cases hg : goesF s ps i p with
          | true =>
            rw [hg, if_pos rfl] at hR3
            simp only [encR, List.map_append, List.map_cons, List.map_nil] at hR3 ⊢
            (try simp? only [true_and])
            exact ⟨z1, by rw [sizeLine_eq]; omega, hR3⟩
          | false =>
            rw [hg, if_neg (by decide)] at hR3
            (try simp? only [true_and])
            exact hR3
        · have hfl : (r.filter (goesF s ps i)).length ≤ r.length := List.length_filter_le _ _
          have hkk : (k + 1) * r.length ≤ (plansN s f i).length * r.length := Nat.mul_le_mul_right _ (by omega)
          have hac : (acc ++ ((r.filter (goesF s ps i)).map fun p => ps ++ [p])).length ≤ (k + 1) * r.length := by
            rw [List.length_append, List.length_map, Nat.succ_mul]; omega
          have hac2 := hac
          rw [List.length_append, List.length_map] at hac2
          refine ⟨_, _, _, _, rfl, rfl, get_last _ _, rfl, by rw [List.length_map, List.length_map, List.length_map, sizeLine_eq]; omega, ?_⟩
          rw [set_last, ← List.map_append]
          exact hR2 _ _ ⟨_, rfl, rfl, hac⟩
      · rintro e st ⟨x6, rfl, rfl, _⟩
        refine ⟨hG _ (rd_app hrd), ?_⟩
        (try simp? only [true_and])
        have e2 : (plansN s f i).foldl (fun acc ps => acc ++ ((r.filter (goesF s ps i)).map fun p => ps ++ [p])) [] = plansN s f (i + 1) := by
          have key : ∀ (qs : List (List P2)) (acc : List (List P2)), qs.foldl (fun acc ps => acc ++ ((r.filter (goesF s ps i)).map fun p => ps ++ [p])) acc = acc ++ qs.flatMap fun ps => (r.filter (goesF s ps i)).map fun p => ps ++ [p] := fun qs => by
            induction qs with
            | nil => intro acc; simp
            | cons q qs ih => intro acc; rw [List.foldl_cons, ih, List.flatMap_cons, List.append_assoc]
          rw [key, List.nil_append]
          simp only [plansN, hr, Option.getD_some]
        rw [e2]
        refine hR _ _ ⟨_, _, _, _, _, ex ++ [.lst ((plansN s f (i + 1)).map encR)], rfl, by rw [List.append_assoc], rd_ref' (get_last _ _), .inr ⟨_, rfl, by rw [List.length_append]; omega⟩⟩
    · rintro e st ⟨X2, x3, x4, x5, x6, ex, rfl, rfl, hrd, hX⟩
      rw [enum_len, List.length_map] at hrd hX
      refine ⟨trivial, ?_⟩
      rcases hX with rfl | ⟨n, rfl, hn⟩
      · exact .inl ⟨_, rfl, sto, ex, rfl, rfl, blw_encRs _ _, fun i c h => .inl h, rfl, rfl⟩
      · refine .inr ⟨n, _, rfl, cell_of hrd, sto, ex.set (n - sto.length) .dead, ?_, rfl, blw_encRs _ _, fun i c h => .inl h, rfl, rfl⟩
        rw [List.set_append_right _ _ hn]
theorem ways_flat (s : Sy) (w : Wk) : waysF s w = (rangeI 0 (s.days - w.len + 1).toNat).flatMap fun b => (w.able.filter fun h => freeF (rowOf s h) b (b + w.len)).map fun h => (b, h) := by
  have inner : ∀ (b : Int) (hs : List Int) (acc : List P2), hs.foldl (fun acc h => if freeF (rowOf s h) b (b + w.len) = true then acc ++ [(b, h)] else acc) acc = acc ++ (hs.filter fun h => freeF (rowOf s h) b (b + w.len)).map fun h => (b, h) := fun b hs => by
    induction hs with
    | nil => intro acc; simp
    | cons h r ih =>
      intro acc
      rw [List.foldl_cons, ih, List.filter_cons]
      cases freeF (rowOf s h) b (b + w.len) with
      | true => simp
      | false => simp
  have outer : ∀ (bs : List Int) (acc : List P2), bs.foldl (fun acc b => w.able.foldl (fun acc h => if freeF (rowOf s h) b (b + w.len) = true then acc ++ [(b, h)] else acc) acc) acc = acc ++ bs.flatMap fun b => (w.able.filter fun h => freeF (rowOf s h) b (b + w.len)).map fun h => (b, h) := fun bs => by
    induction bs with
    | nil => intro acc; simp
    | cons b r ih => intro acc; rw [List.foldl_cons, ih, inner, List.flatMap_cons, List.append_assoc]
  unfold waysF
  rw [outer, List.nil_append]
theorem mem_ways {s : Sy} {w : Wk} {p : P2} : p ∈ waysF s w ↔ (0 ≤ p.1 ∧ p.1 < (s.days - w.len + 1).toNat) ∧ p.2 ∈ w.able ∧ freeF (rowOf s p.2) p.1 (p.1 + w.len) = true := by
  rw [ways_flat]
  simp only [List.mem_flatMap, List.mem_map, List.mem_filter]
  constructor
  · rintro ⟨b, hb, h, ⟨h1, h2⟩, rfl⟩
    have := mem_rangeI.mp hb
    exact ⟨by dsimp only; omega, h1, h2⟩
  · rintro ⟨h1, h2, h3⟩
    exact ⟨p.1, mem_rangeI.mpr (by omega), p.2, ⟨h2, h3⟩, rfl⟩
theorem free_iff {row : List Int} {a b : Int} : freeF row a b = true ↔ ∀ d ∈ row, ¬(a ≤ d ∧ d < b) := by
  unfold freeF
  rw [Bool.not_eq_true', List.any_eq_false]
  constructor
  · intro h d hd ⟨h1, h2⟩
    refine h _ (List.mem_map_of_mem hd) ?_
    simp [h1, h2]
  · intro h x hx
    obtain ⟨d, hd, rfl⟩ := List.mem_map.mp hx
    have := h d hd
    by_cases h1 : a ≤ d
    · simp [h1]; omega
    · simp [h1]
def S_p_is_free : DL.Spec := ⟨4, Sy × Int × Int × Int × List Int, fun (s, h, a, b, _) => [s.d, .int h, .int a, .int b], fun (s, h, _, _, row) _ => atI s.hands h = some row ∧ row.length ≤ 1000,
  fun (_, _, a, b, row) st d st' => st' = st ∧ d = .bl (freeF row a b)⟩
def w_p_is_free_1 : DE := wChain dLe dLt (wVar 2) (wVar 4) (wVar 3)
def w_p_is_free : DS := wRet (wNotV (wCB bAny (wCons (wComp false (iSeq (wOp dIx (wOp dIx (wVar 0) (wC (.int 1))) (wVar 1))) (.nm 4) wYes w_p_is_free_1 [4]) (wNil))))
theorem vc_p_is_free : ∀ g sto, (S_p_is_free.args g).length = S_p_is_free.n → S_p_is_free.pre g sto → w_p_is_free (bodyEnds (S_p_is_free.post g sto)) (startE ["system", "hand", "first", "last", "day"] (S_p_is_free.args g)) sto := by
  rintro ⟨s, h, a, b, row⟩ sto _ ⟨hr, hl⟩
  simp? only [w_p_is_free, S_p_is_free, wComp]
  refine ⟨_, atI_map hr, ?_⟩
  simp? only [wipeE]
  refine ⟨by rw [sizeLine_eq]; omega, compL_map D.int (fun day => some (.bl (if a ≤ day then decide (day < b) else false))) trivial row [] (fun x hx R hR => ?_) ?_⟩
  · simp? only [Tg.dg, w_p_is_free_1, wYes]
    by_cases hx : a ≤ x
    · simpa [hx] using hR
    · simpa [hx] using hR
  · have e : row.filterMap (fun day => some (D.bl (if a ≤ day then decide (day < b) else false))) = (row.map fun day => if a ≤ day then decide (day < b) else false).map D.bl := by
      rw [List.map_map]; exact congrFun (List.filterMap_eq_map (f := D.bl ∘ fun day => if a ≤ day then decide (day < b) else false)) row
    simp only [List.nil_append, e, v_any, v_bl]
    exact ⟨trivial, rfl⟩
theorem free_use {s : Sy} {h a b : Int} {row : List Int} {st : Sto} {Q : DK} (hr : atI s.hands h = some row) (hl : row.length ≤ 1000) (q : Q (.bl (freeF row a b)) st) :
    ∃ g, [s.d, .int h, .int a, .int b] = S_p_is_free.args g ∧ (S_p_is_free.args g).length = S_p_is_free.n ∧ S_p_is_free.pre g st ∧ ∀ d s2, S_p_is_free.post g st d s2 → Q d s2 :=
  ⟨(s, h, a, b, row), rfl, rfl, ⟨hr, hl⟩, fun d s2 ⟨e1, e2⟩ => by subst e1; subst e2; exact q⟩
def D.isNum : D → Bool
  | .int _ => true
  | _ => false
def fromF (d : D) (a b : Int) : Bool := match d with
  | .int i => if a ≤ i then decide (i ≤ b) else false
  | _ => false
theorem noRef_of {d : D} (h : d.blw 0 = true) : d.noRef := by
  cases d with
  | ref n => simp [D.blw] at h
  | fn => simp [D.blw] at h
  | exc => simp [D.blw] at h
  | _ => trivial
def w_p_is_number : DS := wRet (wAndV (wIsi "int" (wVar 0)) (wNotV (wIsi "bool" (wVar 0))))
def S_p_is_number : DL.Spec := pureS 1 (fun d : D => [d]) D.noRef (fun d => .bl (D.isNum d))
theorem vc_p_is_number : ∀ g sto, (S_p_is_number.args g).length = S_p_is_number.n → S_p_is_number.pre g sto → w_p_is_number (bodyEnds (S_p_is_number.post g sto)) (startE ["thing"] (S_p_is_number.args g)) sto := by
  rintro (d : D) sto _ (h : d.noRef)
  simp? only [w_p_is_number, S_p_is_number, pureS, wIsi]
  refine ⟨h, ?_⟩
  cases d with
  | ref n => exact h.elim
  | fn => exact h.elim
  | exc => exact h.elim
  | _ => simp [D.isa, D.ty, D.isNum, D.noRef]
def w_p_is_from : DS := wRet (wAndV (wCall S_p_is_number (wCons (wVar 0) (wNil))) (wChain dLe dLe (wVar 1) (wVar 0) (wVar 2)))
def S_p_is_from : DL.Spec := pureS 3 (fun x : D × Int × Int => [x.1, .int x.2.1, .int x.2.2]) (fun x => x.1.noRef) (fun x => .bl (fromF x.1 x.2.1 x.2.2))
theorem vc_p_is_from : ∀ g sto, (S_p_is_from.args g).length = S_p_is_from.n → S_p_is_from.pre g sto → w_p_is_from (bodyEnds (S_p_is_from.post g sto)) (startE ["thing", "low", "high"] (S_p_is_from.args g)) sto := by
  rintro ⟨d, a, b⟩ sto _ h
  simp? only [w_p_is_from, S_p_is_from, pureS]
  refine use_pure d rfl rfl h ?_
  cases d with
  | int i =>
    simp? only [D.isNum, fromF]
    by_cases h : a ≤ i
    · simp [h]
    · simp [h]
  | _ => simp [D.isNum, fromF]
def D.p2 : D → Option P2
  | .tup [.int a, .int b] => some (a, b)
  | _ => none
theorem p2_enc (p : P2) : D.p2 (encP p) = some p := rfl
theorem p2_some {d : D} {p : P2} (h : D.p2 d = some p) : d = encP p := by
  unfold D.p2 at h
  split at h
  · cases h; rfl
  · cases h
def okP (s : Sy) (w : Wk) (p : P2) : Bool := (if 0 ≤ p.1 then decide (p.1 ≤ s.days - w.len) else false) && (if 0 ≤ p.2 then decide (p.2 ≤ s.hands.length - 1) else false) && w.able.any (· == p.2) && freeF (rowOf s p.2) p.1 (p.1 + w.len)
def wayD (s : Sy) (w : Wk) (d : D) : Bool := match D.p2 d with
  | some p => okP s w p
  | none => false
def w_p_is_way : DS := wSeq (wIf (wOr (wNot (wTest (wIsi "tuple" (wVar 2)))) (wTest (wOp dNe (wCB bLen (wCons (wVar 2) (wNil))) (wC (.int 2))))) (wRet (wC (.bl false))) ((fun D env st => D.nx env st))) (wSeq (wAsg (wOp dIx (wOp dIx (wVar 0) (wC (.int 2))) (wVar 1)) (gTp 3 (gCn (gNm 3) (gCn (gNm 4) (gCn (gNm 5) gNl))))) (wSeq (wAsg (wVar 2) (gTp 2 (gCn (gNm 6) (gCn (gNm 7) gNl)))) (wSeq (wIf (wOr (wNot (wTest (wCall S_p_is_from (wCons (wVar 6) (wCons (wC (.int 0)) (wCons (wOp dSub (wOp dIx (wVar 0) (wC (.int 0))) (wVar 3)) (wNil))))))) (wOr (wNot (wTest (wCall S_p_is_from (wCons (wVar 7) (wCons (wC (.int 0)) (wCons (wOp dSub (wCB bLen (wCons (wOp dIx (wVar 0) (wC (.int 1))) (wNil))) (wC (.int 1))) (wNil))))))) (wTest (wOp dNotIn (wVar 7) (wVar 5))))) (wRet (wC (.bl false))) ((fun D env st => D.nx env st))) (wRet (wCall S_p_is_free (wCons (wVar 0) (wCons (wVar 7) (wCons (wVar 6) (wCons (wOp dAdd (wVar 6) (wVar 3)) (wNil))))))))))
def S_p_is_way : DL.Spec := pureS 3 (fun x : Sy × Int × D × Wk => [x.1.d, .int x.2.1, x.2.2.1]) (fun x => atI x.1.works x.2.1 = some x.2.2.2 ∧ (∀ r ∈ x.1.hands, r.length ≤ 1000) ∧ x.2.2.1.blw 0 = true) (fun x => .bl (wayD x.1 x.2.2.2 x.2.2.1))
theorem blw_items {ds : List D} {n : Nat} (h : D.blw n (.tup ds) = true) : ∀ d ∈ ds, d.blw n = true := by
  simp only [D.blw] at h
  induction ds with
  | nil => intro d hd; cases hd
  | cons x r ih =>
    simp only [D.blwL, Bool.and_eq_true] at h
    intro d hd
    rcases List.mem_cons.mp hd with z | z
    · subst z; exact h.1
    · exact ih h.2 d z
theorem vc_p_is_way : ∀ g sto, (S_p_is_way.args g).length = S_p_is_way.n → S_p_is_way.pre g sto → w_p_is_way (bodyEnds (S_p_is_way.post g sto)) (startE ["system", "work", "thing", "length", "ahead", "able", "begin", "hand"] (S_p_is_way.args g)) sto := by
  rintro ⟨s, i, d, w⟩ sto _ ⟨hw, hr, hb⟩
  dsimp only at hw hr hb
  simp? only [w_p_is_way, S_p_is_way, pureS, wIsi]
  refine ⟨noRef_of hb, ?_⟩
  cases d with
  | tup ds =>
    simp? only [D.isa, D.ty]
    match ds, hb with
    | [], _ => simp [wayD, D.p2]
    | [x], _ => simp [wayD, D.p2]
    | x :: y :: z :: r, _ =>
      have e : ((((x :: y :: z :: r).length : Nat) : Int) == 2) = false := by
        rw [beq_eq_false_iff_ne]
        simp only [List.length_cons]
        omega
      simp [wayD, D.p2]
      intro h
      omega
    | [x, y], hb =>
      have hx := blw_items hb x (by simp)
      have hy := blw_items hb y (by simp)
      simp? only [true_and]
      rw [if_neg (by decide)]
      refine ⟨_, atI_map hw, ?_⟩
      (try simp? only [true_and])
      refine use_pure (x, 0, s.days - w.len) rfl rfl (noRef_of hx) ?_
      (try simp? only [true_and])
      have key : ∀ a b : Int, x = .int a → y = .int b → wayD s w (.tup [x, y]) = okP s w (a, b) := fun a b e1 e2 => by subst e1; subst e2; rfl
      have no : (∀ p : P2, D.tup [x, y] ≠ encP p) → wayD s w (.tup [x, y]) = false := fun h => by
        unfold wayD
        cases e : D.p2 (.tup [x, y]) with
        | none => rfl
        | some p => exact absurd (p2_some e) (h p)
      cases hx1 : fromF x 0 (s.days - w.len) with
      | false =>
        (try simp? only [true_and])
        cases x with
        | int a =>
          cases y with
          | int b =>
            rw [key a b rfl rfl]
            simp only [fromF] at hx1
            simp only [okP, hx1, Bool.false_and]
          | _ => rw [no fun p h => by simp [encP] at h]
        | _ => rw [no fun p h => by simp [encP] at h]
      | true =>
        (try simp? only [true_and])
        refine use_pure (y, 0, (s.hands.length : Int) - 1) rfl rfl (noRef_of hy) ?_
        obtain ⟨a, rfl⟩ : ∃ a, x = .int a := by
          cases x with
          | int a => exact ⟨a, rfl⟩
          | _ => simp [fromF] at hx1
        cases hy1 : fromF y 0 ((s.hands.length : Int) - 1) with
        | false =>
          (try simp? only [true_and])
          cases y with
          | int b =>
            rw [key a b rfl rfl]
            simp only [fromF] at hy1
            simp only [okP, hy1, Bool.false_and, Bool.and_false]
          | _ => rw [no fun p h => by simp [encP] at h]
        | true =>
          obtain ⟨b, rfl⟩ : ∃ b, y = .int b := by
            cases y with
            | int b => exact ⟨b, rfl⟩
            | _ => simp [fromF] at hy1
          rw [key a b rfl rfl]
          simp? only [v_inE]
          have hx2 := hx1
          have hy2 := hy1
          simp only [fromF] at hx1 hy1
          unfold okP
          simp only [hx1, hy1]
          cases ha : w.able.any (· == b) with
          | false => simp
          | true =>
            simp? only [true_and]
            have hb0 : 0 ≤ b ∧ b < s.hands.length := by
              by_cases h : 0 ≤ b
              · rw [if_pos h] at hy1; have := of_decide_eq_true hy1; omega
              · rw [if_neg h] at hy1; cases hy1
            obtain ⟨row, h1, h2⟩ := pick (xs := s.hands) hb0.1 hb0.2
            refine free_use h1 (hr row h2) ?_
            have e : rowOf s b = row := by unfold rowOf; rw [h1]; rfl
            rw [e]
            simp
  | ref n => simp [D.blw] at hb
  | fn => simp [D.blw] at hb
  | exc => simp [D.blw] at hb
  | _ => simp [D.isa, D.ty, wayD, D.p2]
noncomputable def tr (P : Prop) : Bool := @decide P (Classical.propDecidable P)
theorem tr_true {P : Prop} (h : P) : tr P = true := @decide_eq_true P (Classical.propDecidable P) h
theorem tr_false {P : Prop} (h : ¬P) : tr P = false := @decide_eq_false P (Classical.propDecidable P) h
theorem tr_iff {P : Prop} : tr P = true ↔ P := @decide_eq_true_iff P (Classical.propDecidable P)
theorem tr_eq {P : Prop} {b : Bool} (h : b = true ↔ P) : b = tr P := by
  cases b with
  | true => exact (tr_true (h.mp rfl)).symm
  | false => exact (tr_false fun p => Bool.false_ne_true (h.mpr p)).symm
def encG (x : Nat × P2) : D := .tup [.int (x.1 : Nat), encP x.2]
structure IsPlan (s : Sy) (ps : List P2) : Prop where
  len : ps.length = s.works.length
  way : ∀ (i : Nat) p, ps[i]? = some p → okP s (wkAt s i) p = true
  ok : ∀ (j k : Nat) q p, j < k → ps[j]? = some q → ps[k]? = some p → clF j k (wkAt s j) (wkAt s k) q p = false
noncomputable def planD (s : Sy) (d : D) : Bool := tr (∃ ps, d = encR ps ∧ IsPlan s ps)
theorem enum_at' {ds : List D} {i : Nat} {d : D} (h : (enumD ds)[i]? = some d) : ∃ x, ds[i]? = some x ∧ d = .tup [.int (i : Nat), x] := by
  have := enum_at (enc := id) (xs := ds) (i := i) (d := d) (by rw [List.map_id]; exact h)
  exact this
theorem map_at_encP {ps : List P2} {i : Nat} {d : D} (h : (ps.map encP)[i]? = some d) : ∃ p, ps[i]? = some p ∧ d = encP p := by
  rw [List.getElem?_map] at h
  cases e : ps[i]? with
  | none => rw [e] at h; cases h
  | some p => rw [e] at h; cases h; exact ⟨p, rfl, rfl⟩
theorem any_zip {s : Sy} {ps : List P2} {i : Nat} {p : P2} : (!(ps.zipIdx.map fun x => (x.2, x.1)).any fun g => clF (g.1 : Nat) i (wkAt s g.1) (wkAt s i) g.2 p) = true ↔ ∀ (k : Nat) q, ps[k]? = some q → clF k i (wkAt s k) (wkAt s i) q p = false := by
  rw [Bool.not_eq_true', List.any_eq_false]
  constructor
  · intro h k q hq
    have := h (k, q) (List.mem_map.mpr ⟨(q, k), List.mem_zipIdx_iff_getElem?.mpr hq, rfl⟩)
    simpa using this
  · rintro h g hg
    obtain ⟨⟨q, k⟩, hx, rfl⟩ := List.mem_map.mp hg
    have := h k q (List.mem_zipIdx_iff_getElem?.mp hx)
    simpa using this
theorem encP_inj {a b : P2} (h : encP a = encP b) : a = b := by
  have := congrArg D.p2 h
  rw [p2_enc, p2_enc] at this
  exact Option.some.inj this
theorem encR_inj {a b : List P2} (h : encR a = encR b) : a = b := by
  unfold encR at h
  injection h with h
  exact (List.map_inj_right fun _ _ e => encP_inj e).mp h
theorem planD_enc (s : Sy) (ps : List P2) : planD s (encR ps) = tr (IsPlan s ps) := by
  unfold planD
  by_cases h : IsPlan s ps
  · rw [tr_true h, tr_true ⟨ps, rfl, h⟩]
  · rw [tr_false h, tr_false fun ⟨qs, e, hq⟩ => h (by rw [encR_inj e]; exact hq)]
theorem okP_iff {s : Sy} {w : Wk} {p : P2} : okP s w p = true ↔ (0 ≤ p.1 ∧ p.1 ≤ s.days - w.len) ∧ (0 ≤ p.2 ∧ p.2 ≤ s.hands.length - 1) ∧ w.able.any (· == p.2) = true ∧ ∀ d ∈ rowOf s p.2, ¬(p.1 ≤ d ∧ d < p.1 + w.len) := by
  unfold okP
  rw [Bool.and_eq_true, Bool.and_eq_true, Bool.and_eq_true, free_iff]
  constructor
  · rintro ⟨⟨⟨h1, h2⟩, h3⟩, h4⟩
    refine ⟨?_, ?_, h3, h4⟩
    · by_cases h : 0 ≤ p.1
      · rw [if_pos h] at h1; exact ⟨h, of_decide_eq_true h1⟩
      · rw [if_neg h] at h1; cases h1
    · by_cases h : 0 ≤ p.2
      · rw [if_pos h] at h2; exact ⟨h, of_decide_eq_true h2⟩
      · rw [if_neg h] at h2; cases h2
  · rintro ⟨⟨h1, h2⟩, ⟨h3, h4⟩, h5, h6⟩
    refine ⟨⟨⟨?_, ?_⟩, h5⟩, h6⟩
    · rw [if_pos h1]; exact decide_eq_true h2
    · rw [if_pos h3]; exact decide_eq_true h4
theorem ways_okP {s : Sy} (hs : S30 s) {i : Nat} {w : Wk} (hw : s.works[i]? = some w) (p : P2) : (waysF s w).any (· == p) = okP s w p := by
  have ow := hs.work i w hw
  rw [Bool.eq_iff_iff, okP_iff, List.any_eq_true]
  constructor
  · rintro ⟨q, hq, e⟩
    have := beq_iff_eq.mp e
    subst this
    have hm := mem_ways.mp hq
    have ha := ow.able.2 _ hm.2.1
    exact ⟨by omega, by omega, List.any_eq_true.mpr ⟨_, hm.2.1, beq_self_eq_true _⟩, free_iff.mp hm.2.2⟩
  · rintro ⟨h1, h2, h3, h4⟩
    obtain ⟨x, hx, e⟩ := List.any_eq_true.mp h3
    have := beq_iff_eq.mp e
    subst this
    exact ⟨p, mem_ways.mpr ⟨by omega, hx, free_iff.mpr h4⟩, beq_self_eq_true _⟩
theorem wk_get {s : Sy} {i : Nat} (h : i < s.works.length) : s.works[i]? = some (wkAt s i) := by
  unfold wkAt; rw [List.getElem?_eq_getElem h]; rfl
theorem good30 {s : Sy} (hs : S30 s) : Good s := good_of hs (by omega) (by omega) (by omega) (by omega) (by omega)
section
variable {st : Sto} {Q : DK} {u : Ws}
theorem ws_ix0 : dIx u.d (.int 0) st Q = Q (.int u.work) st := by unfold Ws.d; rw [v_ixT]; simp only [at0, v_some]
theorem ws_ix1 : dIx u.d (.int 1) st Q = Q (.int u.kind) st := by unfold Ws.d; rw [v_ixT]; simp only [at1, v_some]
theorem ws_ix2 : dIx u.d (.int 2) st Q = Q (.int u.day) st := by unfold Ws.d; rw [v_ixT]; simp only [at2, v_some]
theorem ws_ix3 : dIx u.d (.int 3) st Q = Q (.int u.weight) st := by unfold Ws.d; rw [v_ixT]; simp only [at3, v_some]
theorem ws_ix4 : dIx u.d (.int 4) st Q = Q (.int u.rank) st := by unfold Ws.d; rw [v_ixT]; simp only [at4, v_some]
end
def keptF (s : Sy) (u : Ws) (p : P2) : Bool := if (u.kind == 0) = true then decide (u.day ≤ p.1) else decide (p.1 + (wkAt s u.work.toNat).len ≤ u.day)
def addW (f : List Int) (r : Nat) (x : Int) : List Int := f.set r ((f[r]?).getD 0 + x)
def weightsF (k : Ws → Bool) (us : List Ws) : List Int := us.foldl (fun f u => if k u = true then addW f u.rank.toNat u.weight else f) [0, 0, 0, 0]
theorem addW_len (f : List Int) (r : Nat) (x : Int) : (addW f r x).length = f.length := by unfold addW; rw [List.length_set]
theorem addW_zero (f : List Int) (r : Nat) : addW f r 0 = f := by
  unfold addW
  refine List.ext_getElem? fun i => ?_
  by_cases h : r = i
  · subst h
    by_cases hl : r < f.length
    · rw [List.getElem?_set_self hl, List.getElem?_eq_getElem hl]
      simp
    · rw [List.getElem?_eq_none (by rw [List.length_set]; omega), List.getElem?_eq_none (by omega)]
  · rw [List.getElem?_set_ne h]
theorem rank_ix {f : List Int} {i : Int} (h : f.length = 4) (h0 : 0 ≤ i ∧ i ≤ 3) : atI (f.map D.int) i = some (.int ((f[i.toNat]?).getD 0)) ∧ ixN (f.map D.int).length i = some i.toNat := by
  have hl : i.toNat < f.length := by omega
  have e : ixN 4 i = some i.toNat := by unfold ixN; rw [if_pos h0.1, if_pos (by omega)]
  rw [List.length_map, h]
  refine ⟨?_, e⟩
  unfold atI
  rw [List.length_map, h, e]
  show (f.map D.int)[i.toNat]? = _
  rw [List.getElem?_map, List.getElem?_eq_getElem hl]
  rfl
theorem wk_of {s : Sy} {u : Ws} {d : Int} (h : u.Ok s.works.length d) : atI s.works u.work = some (wkAt s u.work.toNat) := by
  have := h.work
  have e := wk_at (s := s) (i := u.work.toNat) (by omega)
  rwa [Int.toNat_of_nonneg this.1] at e
def wayOf (ps : List P2) (u : Ws) : P2 := (ps[u.work.toNat]?).getD (0, 0)
theorem way_ix {s : Sy} {u : Ws} {d : Int} {ps : List P2} (h : u.Ok s.works.length d) (hl : ps.length = s.works.length) : atI (ps.map encP) u.work = some (encP (wayOf ps u)) := by
  have := h.work
  refine atI_map ?_
  unfold atI ixN wayOf
  rw [if_pos this.1, if_pos (by omega)]
  show ps[u.work.toNat]? = _
  rw [List.getElem?_eq_getElem (by omega)]
  rfl
def w_f_law_kept : DS := wSeq (wIf (wTest (wOp dEq (wOp dIx (wVar 1) (wC (.int 1))) (wC (.int 0)))) (wRet (wOp dGe (wOp dIx (wVar 2) (wC (.int 0))) (wOp dIx (wVar 1) (wC (.int 2))))) ((fun D env st => D.nx env st))) (wRet (wOp dLe (wOp dAdd (wOp dIx (wVar 2) (wC (.int 0))) (wOp dIx (wOp dIx (wOp dIx (wVar 0) (wC (.int 2))) (wOp dIx (wVar 1) (wC (.int 0)))) (wC (.int 0)))) (wOp dIx (wVar 1) (wC (.int 2)))))
def S_f_law_kept : DL.Spec := pureS 3 (fun x : Sy × Ws × P2 => [x.1.d, x.2.1.d, encP x.2.2]) (fun x => x.2.1.Ok x.1.works.length x.1.days) (fun x => .bl (keptF x.1 x.2.1 x.2.2))
theorem vc_f_law_kept : ∀ g sto, (S_f_law_kept.args g).length = S_f_law_kept.n → S_f_law_kept.pre g sto → w_f_law_kept (bodyEnds (S_f_law_kept.post g sto)) (startE ["_law_system", "_law_wish_here", "_law_way"] (S_f_law_kept.args g)) sto := by
  rintro ⟨s, u, p⟩ sto _ (hu : u.Ok s.works.length s.days)
  simp? only [w_f_law_kept, S_f_law_kept, pureS, ws_ix0, ws_ix1, ws_ix2, p_ix0]
  cases h : u.kind == 0 with
  | true => simp? only [keptF, h]
  | false =>
    (try simp? only [true_and])
    refine ⟨_, atI_map (wk_of hu), ?_⟩
    simp? only [keptF, h]
def S_p_goes_with : DL.Spec := ⟨4, Sy × D × List (Nat × P2) × Nat × P2, fun x => [x.1.d, x.2.1, .int (x.2.2.2.1 : Nat), encP x.2.2.2.2], fun x st => rd st x.2.1 = .lst (x.2.2.1.map encG) ∧ x.2.2.1.length ≤ 1000 ∧ (∀ g ∈ x.2.2.1, g.1 < x.1.works.length) ∧ x.2.2.2.1 < x.1.works.length, fun x st d st' => st' = st ∧ d = .bl (!x.2.2.1.any fun g => clF g.1 x.2.2.2.1 (wkAt x.1 g.1) (wkAt x.1 x.2.2.2.1) g.2 x.2.2.2.2)⟩
def w_p_goes_with_1 : DE := wCall S_p_clash (wCons (wVar 0) (wCons (wVar 4) (wCons (wVar 5) (wCons (wVar 2) (wCons (wVar 3) (wNil))))))
def w_p_goes_with : DS := wRet (wNotV (wCB bAny (wCons (wComp false (iSeq (wVar 1)) (.tp [4, 5]) wYes w_p_goes_with_1 [4, 5]) (wNil))))
theorem vc_p_goes_with : ∀ g sto, (S_p_goes_with.args g).length = S_p_goes_with.n → S_p_goes_with.pre g sto → w_p_goes_with (bodyEnds (S_p_goes_with.post g sto)) (startE ["system", "ways", "work", "way", "other", "other_way"] (S_p_goes_with.args g)) sto := by
  rintro ⟨s, a, gs, i, p⟩ sto _ ⟨hq, hl, hg, hi⟩
  dsimp only at hq hl hg hi
  simp? only [w_p_goes_with, S_p_goes_with, wComp, wipeE]
  refine seqI_of hq fun G hG => ⟨by rw [List.length_map, sizeLine_eq]; omega, ?_⟩
  refine compL_all encG (fun g => clF g.1 i (wkAt s g.1) (wkAt s i) g.2 p) D.bl (hG _ hq) _ (fun g hgm R hR => ?_) ?_
  · show (Tg.tp [4, 5]).dg (.tup [.int (g.1 : Nat), encP g.2]) _ _ _
    simp? only [Tg.dg, List.foldr_cons, List.foldr_nil, wYes, w_p_goes_with_1]
    exact clash_use (wk_at (hg g hgm)) (wk_at hi) hR
  · (try simp? only [true_and])
    simp? only [v_any, List.any_map]
    rfl
def w_p_is_plan_1 : DS := wSeq (wIf (wOr (wNot (wTest (wCall S_p_is_way (wCons (wVar 0) (wCons (wVar 3) (wCons (wVar 4) (wNil))))))) (wNot (wTest (wCall S_p_goes_with (wCons (wVar 0) (wCons (wVar 2) (wCons (wVar 3) (wCons (wVar 4) (wNil))))))))) (wRet (wC (.bl false))) ((fun D env st => D.nx env st))) (wDrop (wM mAppend (wVar 2) (wCons (wTup (wCons (wVar 3) (wCons (wVar 4) (wNil)))) (wNil))))
def w_p_is_plan : DS := wSeq (wIf (wOr (wNot (wTest (wIsi "tuple" (wVar 1)))) (wTest (wOp dNe (wCB bLen (wCons (wVar 1) (wNil))) (wCB bLen (wCons (wOp dIx (wVar 0) (wC (.int 2))) (wNil)))))) (wRet (wC (.bl false))) ((fun D env st => D.nx env st))) (wSeq (wAsg (wLst true (wNil)) (gNm 2)) (wSeq (wFor (iEnum (wVar 1)) (gTp 2 (gCn (gNm 3) (gCn (gNm 4) gNl))) w_p_is_plan_1) (wRet (wC (.bl true)))))
noncomputable def S_p_is_plan : DL.Spec := pureS 2 (fun x : Sy × D => [x.1.d, x.2]) (fun x => x.1.works.length ≤ 1000 ∧ (∀ r ∈ x.1.hands, r.length ≤ 1000) ∧ x.2.blw 0 = true) (fun x => .bl (planD x.1 x.2))
theorem vc_p_is_plan : ∀ g sto, (S_p_is_plan.args g).length = S_p_is_plan.n → S_p_is_plan.pre g sto → w_p_is_plan (bodyEnds (popEnds sto.length sto (S_p_is_plan.post g sto))) (startE ["system", "thing", "given", "work", "way"] (S_p_is_plan.args g)) sto := by
  rintro ⟨s, d⟩ sto _ ⟨hw, hr, hb⟩
  dsimp only at hw hr hb
  have z2 : 2 ≤ sizeLine := by decide
  simp? only [w_p_is_plan, S_p_is_plan, pureS, wIsi, wFor]
  refine ⟨noRef_of hb, ?_⟩
  have pop : ∀ (b : Bool) (ex : Sto), b = planD s d → popEnds sto.length sto (fun d_1 st' => st' = sto ∧ d_1 = .bl (planD s d)) (.bl b) (sto ++ ex) := fun b ex e => ⟨sto, ex, rfl, rfl, rfl, fun i c h => .inl h, rfl, by rw [e]⟩
  have pop0 : planD s d = false → popEnds sto.length sto (fun d_1 st' => st' = sto ∧ d_1 = .bl (planD s d)) (.bl false) sto := fun e => by
    have := pop false [] e.symm
    rwa [List.append_nil] at this
  cases d with
  | tup ds =>
    simp? only [D.isa, D.ty]
    rw [if_neg (by decide)]
    by_cases hl : ds.length = s.works.length
    · have e1 : (!((ds.length : Int) == (s.works.length : Int))) = false := by rw [hl]; simp
      simp? only [e1]
      refine ⟨Nat.zero_le _, ?_⟩
      refine forL_inv (fun i e st => ∃ x3 x4 ps, e = [some s.d, some (.tup ds), some (.ref sto.length), x3, x4] ∧ st = sto ++ [.lst ((ps.zipIdx.map fun x => (x.2, x.1)).map encG)] ∧ ds.take i = ps.map encP ∧ (∀ (i : Nat) p, ps[i]? = some p → okP s (wkAt s i) p = true) ∧ (∀ (j k : Nat) q p, j < k → ps[j]? = some q → ps[k]? = some p → clF j k (wkAt s j) (wkAt s k) q p = false)) ?_ ?_ _ _ ⟨_, _, [], rfl, rfl, rfl, fun i p h => by simp at h, fun j k q p _ h => by simp at h⟩
      · rintro i e st d ⟨x3, x4, ps, rfl, rfl, ht, hway, hok⟩ he R hR
        obtain ⟨x, hx, rfl⟩ := enum_at' he
        have hil := (List.getElem?_eq_some_iff.mp hx).1
        have hpl : ps.length = i := by
          have := congrArg List.length ht
          rw [List.length_take, List.length_map] at this
          omega
        refine ⟨trivial, ?_⟩
        simp? only [w_p_is_plan_1]
        refine use_pure (s, (i : Int), x, wkAt s i) rfl rfl ⟨wk_at (s := s) (by omega), hr, blw_items hb x (List.mem_of_getElem? hx)⟩ ?_
        (try simp? only [true_and])
        cases hwd : wayD s (wkAt s i) x with
        | false =>
          (try simp? only [true_and])
          refine pop false _ (tr_false ?_).symm
          rintro ⟨qs, e, hp⟩
          cases e
          obtain ⟨p, hp1, rfl⟩ := map_at_encP hx
          have := hp.way i p hp1
          simp only [wayD, p2_enc] at hwd
          rw [this] at hwd
          cases hwd
        | true =>
          (try simp? only [true_and])
          obtain ⟨p, rfl, hp⟩ : ∃ p, x = encP p ∧ okP s (wkAt s i) p = true := by
            unfold wayD at hwd
            cases e : D.p2 x with
            | none => rw [e] at hwd; cases hwd
            | some p => rw [e] at hwd; exact ⟨p, p2_some e, hwd⟩
          have htk : ∀ qs : List P2, ds = qs.map encP → ps = qs.take i := fun qs e => by
            rw [e, ← List.map_take] at ht
            have inj : Function.Injective encP := fun a b h => by
              have := congrArg D.p2 h
              rw [p2_enc, p2_enc] at this
              exact Option.some.inj this
            exact ((List.map_inj_right fun a b h => inj h).mp ht).symm
          refine ⟨(s, .ref sto.length, ps.zipIdx.map (fun x => (x.2, x.1)), i, p), rfl, rfl, ⟨rd_ref' (get_last _ _), by show (ps.zipIdx.map fun x => (x.2, x.1)).length ≤ 1000; rw [List.length_map, List.length_zipIdx]; omega, fun g hg => ?_, by show i < s.works.length; omega⟩, ?_⟩
          · obtain ⟨⟨q, k⟩, hx2, rfl⟩ := List.mem_map.mp hg
            have := (List.getElem?_eq_some_iff.mp (List.mem_zipIdx_iff_getElem?.mp hx2)).1
            show k < s.works.length
            omega
          · rintro _ _ ⟨rfl, rfl⟩
            refine ⟨_, rfl, ?_⟩
            dsimp only
            by_cases hg : (!(ps.zipIdx.map fun x => (x.2, x.1)).any fun g => clF (g.1 : Nat) i (wkAt s g.1) (wkAt s i) g.2 p) = true
            · have hg2 := any_zip.mp hg
              rw [hg]
              simp? only [rd_ref' (get_last _ _), v_app (get_last _ _), set_last]
              refine ⟨z2, by rw [List.length_zipIdx, sizeLine_eq]; omega, hR _ _ ⟨_, _, ps ++ [p], rfl, ?_, ?_, fun j q hq => ?_, fun j k q p' hjk hq hp' => ?_⟩⟩
              · rw [List.zipIdx_append, List.map_append, List.map_append, Nat.zero_add, hpl]; rfl
              · rw [take_snoc hx, ht, List.map_append]; rfl
              · by_cases hj : j < ps.length
                · rw [List.getElem?_append_left hj] at hq; exact hway j q hq
                · rw [List.getElem?_append_right (by omega)] at hq
                  have e0 : j - ps.length = 0 := by have := (List.getElem?_eq_some_iff.mp hq).1; rw [List.length_singleton] at this; omega
                  rw [e0] at hq
                  cases hq
                  rwa [show j = i by omega]
              · by_cases hk : k < ps.length
                · rw [List.getElem?_append_left hk] at hp'
                  rw [List.getElem?_append_left (by omega)] at hq
                  exact hok j k q p' hjk hq hp'
                · rw [List.getElem?_append_right (by omega)] at hp'
                  have e0 : k - ps.length = 0 := by have := (List.getElem?_eq_some_iff.mp hp').1; rw [List.length_singleton] at this; omega
                  rw [e0] at hp'
                  cases hp'
                  rw [List.getElem?_append_left (by omega)] at hq
                  rw [show k = i by omega]
                  exact hg2 j q hq
            · have hg1 : (!(ps.zipIdx.map fun x => (x.2, x.1)).any fun g => clF (g.1 : Nat) i (wkAt s g.1) (wkAt s i) g.2 p) = false := by simpa using hg
              rw [hg1]
              (try simp? only [true_and])
              refine pop false _ (tr_false ?_).symm
              rintro ⟨qs, e, hp2⟩
              cases e
              refine hg (any_zip.mpr fun k q hq => ?_)
              rw [htk qs rfl, List.getElem?_take] at hq
              split at hq
              · rename_i hki
                obtain ⟨p', hp', e⟩ := map_at_encP hx
                have := congrArg D.p2 e
                rw [p2_enc, p2_enc] at this
                cases this
                exact hp2.ok k i q p hki hq hp'
              · cases hq
      · rintro e st ⟨x3, x4, ps, rfl, rfl, ht, hway, hok⟩
        rw [enum_len, List.take_length] at ht
        refine ⟨trivial, pop true _ (tr_true ⟨ps, by rw [ht]; rfl, ?_, hway, hok⟩).symm⟩
        rw [← hl, ht, List.length_map]
    · have e1 : (!((ds.length : Int) == (s.works.length : Int))) = true := by
        rw [Bool.not_eq_true', beq_eq_false_iff_ne]; omega
      simp? only [e1]
      refine pop0 (tr_false ?_)
      rintro ⟨ps, e, hp⟩
      cases e
      have := hp.len
      rw [List.length_map] at hl
      exact hl this
  | ref n => simp [D.blw] at hb
  | fn => simp [D.blw] at hb
  | exc => simp [D.blw] at hb
  | _ =>
    simp? only [D.isa, D.ty]
    exact pop0 (tr_false fun ⟨ps, e, _⟩ => by simp [encR] at e)
theorem len_blk : ∀ ds : List D, ds.length ≤ D.blkL ds
  | [] => Nat.zero_le _
  | d :: r => by simp only [D.blkL, List.length_cons]; have := len_blk r; omega
structure Any (d : D) : Prop where
  blw : d.blw 0 = true
  blk : d.blk ≤ 1000000
theorem Any.noRef {d : D} (h : Any d) : d.noRef := noRef_of h.blw
theorem Any.len {ds : List D} (h : Any (.tup ds)) : ds.length ≤ 1000000 := by have := len_blk ds; have h2 := h.blk; simp only [D.blk] at h2; omega
theorem isa_tup {d : D} : (∃ ds, d = .tup ds) ∨ (d.isa "tuple" = false ∧ ∀ ds, d ≠ .tup ds) := by
  cases d with
  | tup ds => exact .inl ⟨ds, rfl⟩
  | _ => exact .inr ⟨rfl, fun ds h => nomatch h⟩
theorem isa_tupT {ds : List D} : D.isa "tuple" (.tup ds) = true := rfl
theorem fromF_iff {d : D} {a b : Int} : fromF d a b = true ↔ ∃ i, d = .int i ∧ a ≤ i ∧ i ≤ b := by
  cases d with
  | int i =>
    simp only [fromF]
    by_cases h : a ≤ i
    · rw [if_pos h, decide_eq_true_iff]
      exact ⟨fun h2 => ⟨i, rfl, h, h2⟩, fun ⟨j, e, _, h2⟩ => by cases e; exact h2⟩
    · rw [if_neg h]
      exact ⟨fun h => (nomatch h), fun ⟨j, e, h2, _⟩ => by cases e; exact absurd h2 h⟩
  | _ => exact ⟨fun h => (nomatch h), fun ⟨j, e, _⟩ => nomatch e⟩
theorem blwL_rows (n : Nat) : ∀ rs : List (List Int), D.blwL n (rs.map dInts) = true
  | [] => rfl
  | r :: rs => by rw [List.map_cons]; simp only [D.blwL, dInts, D.blw, blwL_ints, blwL_rows n rs, Bool.and_self]
theorem blw_wk (n : Nat) (w : Wk) : w.d.blw n = true := by simp only [Wk.d, dInts, D.blw, D.blwL, blwL_ints, Bool.and_self]
theorem blw_ws (n : Nat) (w : Ws) : w.d.blw n = true := by simp only [Ws.d, D.blw, D.blwL, Bool.and_self]
theorem blwL_of {n : Nat} : ∀ {ds : List D}, (∀ d ∈ ds, d.blw n = true) → D.blwL n ds = true
  | [], _ => rfl
  | d :: r, h => by simp only [D.blwL, h d List.mem_cons_self, blwL_of fun x hx => h x (List.mem_cons_of_mem _ hx), Bool.and_self]
theorem blwL_works (n : Nat) (ws : List Wk) : D.blwL n (ws.map Wk.d) = true := blwL_of fun d hd => by
  obtain ⟨w, _, rfl⟩ := List.mem_map.mp hd; exact blw_wk n w
theorem blwL_wishes (n : Nat) (ws : List Ws) : D.blwL n (ws.map Ws.d) = true := blwL_of fun d hd => by
  obtain ⟨w, _, rfl⟩ := List.mem_map.mp hd; exact blw_ws n w
theorem blw_sy (n : Nat) (s : Sy) : s.d.blw n = true := by simp only [Sy.d, D.blw, D.blwL, blwL_rows, blwL_works, blwL_wishes, Bool.and_self]
mutual
theorem blw_up (n : Nat) : ∀ d : D, d.blw 0 = true → d.blw n = true
  | .non, _ => rfl
  | .bl _, _ => rfl
  | .int _, _ => rfl
  | .str _, _ => rfl
  | .dct _, _ => rfl
  | .ref _, h => by simp [D.blw] at h
  | .fn _ _ _, h => by simp [D.blw] at h
  | .exc _ _ _, h => by simp [D.blw] at h
  | .tup ds, h => by simp only [D.blw] at h ⊢; exact blwL_up n ds h
  | .lst ds, h => by simp only [D.blw] at h ⊢; exact blwL_up n ds h
  | .scr ds, h => by simp only [D.blw] at h ⊢; exact blwL_up n ds h
theorem blwL_up (n : Nat) : ∀ ds : List D, D.blwL 0 ds = true → D.blwL n ds = true
  | [], _ => rfl
  | d :: r, h => by simp only [D.blwL, Bool.and_eq_true] at h ⊢; exact ⟨blw_up n d h.1, blwL_up n r h.2⟩
end
structure EvOk (s : Sy) : Prop where
  s30 : S30 s
  one : ∀ u ∈ s.wishes, u.kind = 1
def lenA (s : Sy) : Int := (wkAt s 0).len
def roomF (s : Sy) (day : Int) : Int := s.hands.length * (day / lenA s)
def lowF (a b : Ws) : Bool := if a.rank < b.rank then true else (if (a.rank == b.rank) = true then decide (b.weight ≤ a.weight) else false)
def kpF (s : Sy) (ps : List P2) (u : Ws) : Bool := keptF s u (wayOf ps u)
def kpL (s : Sy) (ps : List P2) : List Ws := s.wishes.filter (kpF s ps)
def leftL (s : Sy) (ps : List P2) : List Nat := (s.wishes.zipIdx.filter fun x => !kpF s ps x.1).map (·.2)
def cntF (ks : List Ws) (u : Ws) (day : Int) : Nat := (ks.filter fun a => if lowF a u = true then decide (a.day ≤ day) else false).length
def wsAt (s : Sy) (k : Nat) : Ws := (s.wishes[k]?).getD ⟨0, 0, 0, 0, 0⟩
def dayOkF (s : Sy) (ks : List Ws) (k : Nat) (day : Int) : Bool := ((cntF ks (wsAt s k) day : Nat) : Int) == roomF s day
def pairD (s : Sy) (ks : List Ws) (k : Nat) : D → Bool
  | .tup [a, b] => if fromF a k k = true then (if fromF b (wsAt s k).day s.days = true then (match b with
    | .int day => dayOkF s ks k day
    | _ => false) else false) else false
  | _ => false
theorem ws_at {s : Sy} {k : Nat} (h : k < s.wishes.length) : atI s.wishes (k : Int) = some (wsAt s k) ∧ wsAt s k ∈ s.wishes := by
  have e : s.wishes[k]? = some (wsAt s k) := by unfold wsAt; rw [List.getElem?_eq_getElem h]; rfl
  exact ⟨atI_of (by omega) (by rw [Int.toNat_natCast]; exact e), List.mem_of_getElem? e⟩
theorem dIn_ints {i : Int} {ns : List Int} {f : Bool → Bool} {st : Sto} {Q : DK} (q : Q (.bl (f (ns.any (· == i)))) st) : dInB f (.int i) (.lst (ns.map .int)) st Q :=
  ⟨ns.map .int, .inl rfl, rfl, okL_ints ns, by rw [depL_ints]; exact Nat.zero_le _, by rw [← any_ints] at q; exact q⟩
def w_p_room_up_to : DS := wRet (wOp dMul (wCB bLen (wCons (wOp dIx (wVar 0) (wC (.int 1))) (wNil))) (wOp dFdiv (wVar 1) (wOp dIx (wOp dIx (wOp dIx (wVar 0) (wC (.int 2))) (wC (.int 0))) (wC (.int 0)))))
def S_p_room_up_to : DL.Spec := pureS 2 (fun x : Sy × Int => [x.1.d, .int x.2]) (fun x => S30 x.1 ∧ 0 < x.1.works.length ∧ 0 ≤ x.2 ∧ x.2 ≤ 1000) (fun x => .int (roomF x.1 x.2))
theorem lenA_pos {s : Sy} (hs : S30 s) (h : 0 < s.works.length) : 0 < lenA s ∧ lenA s ≤ 900 := by
  have := (hs.work 0 _ (wk_get h)).len
  unfold lenA
  omega
theorem div_le {a b : Int} (h : 0 ≤ a) (hb : 0 < b) : 0 ≤ a / b ∧ a / b ≤ a := ⟨Int.ediv_nonneg h (by omega), Int.ediv_le_self _ h⟩
theorem vc_p_room_up_to : ∀ g sto, (S_p_room_up_to.args g).length = S_p_room_up_to.n → S_p_room_up_to.pre g sto → w_p_room_up_to (bodyEnds (S_p_room_up_to.post g sto)) (startE ["system", "day"] (S_p_room_up_to.args g)) sto := by
  rintro ⟨s, day⟩ sto _ ⟨hs, hw, h0, h1⟩
  dsimp only at hs hw h0 h1
  have hl := lenA_pos hs hw
  have hh := hs.hands
  have hd := div_le h0 hl.1
  have hat : atI s.works 0 = some (wkAt s 0) := wk_at (i := 0) hw
  simp? only [w_p_room_up_to, S_p_room_up_to, pureS, atI_map hat]
  unfold lenA at hl hd
  refine ⟨⟨by omega, by omega⟩, .inl ⟨by omega, by omega⟩, rfl⟩
def w_f_law_room : DS := wRet (wOp dMul (wCB bLen (wCons (wOp dIx (wVar 0) (wC (.int 1))) (wNil))) (wOp dFdiv (wVar 1) (wOp dIx (wOp dIx (wOp dIx (wVar 0) (wC (.int 2))) (wC (.int 0))) (wC (.int 0)))))
def S_f_law_room : DL.Spec := pureS 2 (fun x : Sy × Int => [x.1.d, .int x.2]) (fun x => S30 x.1 ∧ 0 < x.1.works.length ∧ 0 ≤ x.2 ∧ x.2 ≤ 1000) (fun x => .int (roomF x.1 x.2))
theorem vc_f_law_room : ∀ g sto, (S_f_law_room.args g).length = S_f_law_room.n → S_f_law_room.pre g sto → w_f_law_room (bodyEnds (S_f_law_room.post g sto)) (startE ["_law_system", "_law_day"] (S_f_law_room.args g)) sto := fun g sto a b => vc_p_room_up_to g sto a b
def w_p_is_no_lower : DS := wRet (wOrV (wOp dLt (wOp dIx (wVar 0) (wC (.int 4))) (wOp dIx (wVar 1) (wC (.int 4)))) (wAndV (wOp dEq (wOp dIx (wVar 0) (wC (.int 4))) (wOp dIx (wVar 1) (wC (.int 4)))) (wOp dGe (wOp dIx (wVar 0) (wC (.int 3))) (wOp dIx (wVar 1) (wC (.int 3))))))
def S_p_is_no_lower : DL.Spec := pureS 2 (fun x : Ws × Ws => [x.1.d, x.2.d]) (fun _ => True) (fun x => .bl (lowF x.1 x.2))
theorem vc_p_is_no_lower : ∀ g sto, (S_p_is_no_lower.args g).length = S_p_is_no_lower.n → S_p_is_no_lower.pre g sto → w_p_is_no_lower (bodyEnds (S_p_is_no_lower.post g sto)) (startE ["wish", "other"] (S_p_is_no_lower.args g)) sto := by
  rintro ⟨a, b⟩ sto _ _
  simp? only [w_p_is_no_lower, S_p_is_no_lower, pureS, ws_ix3, ws_ix4]
  unfold lowF
  by_cases h : a.rank < b.rank
  · simp? only [h]
  · simp? only [h]
    cases h2 : a.rank == b.rank with
    | true => simp? only [h2]
    | false => simp? only [h2]
def w_p_holds_full_1 : DT := wAnd (wTest (wCall S_p_is_no_lower (wCons (wVar 6) (wCons (wVar 4) (wNil))))) (wTest (wOp dLe (wOp dIx (wVar 6) (wC (.int 2))) (wVar 5)))
def w_p_holds_full : DS := wSeq (wAsg (wOp dIx (wOp dIx (wVar 0) (wC (.int 3))) (wVar 2)) (gNm 4)) (wSeq (wIf (wOr (wNot (wTest (wIsi "tuple" (wVar 3)))) (wOr (wTest (wOp dNe (wCB bLen (wCons (wVar 3) (wNil))) (wC (.int 2)))) (wNot (wTest (wCall S_p_is_from (wCons (wOp dIx (wVar 3) (wC (.int 0))) (wCons (wVar 2) (wCons (wVar 2) (wNil))))))))) (wRet (wC (.bl false))) ((fun D env st => D.nx env st))) (wSeq (wAsg (wOp dIx (wVar 3) (wC (.int 1))) (gNm 5)) (wSeq (wIf (wNot (wTest (wCall S_p_is_from (wCons (wVar 5) (wCons (wOp dIx (wVar 4) (wC (.int 2))) (wCons (wOp dIx (wVar 0) (wC (.int 0))) (wNil))))))) (wRet (wC (.bl false))) ((fun D env st => D.nx env st))) (wRet (wOp dEq (wCB bLen (wCons (wComp false (iSeq (wVar 1)) (.nm 6) w_p_holds_full_1 (wVar 6) [6]) (wNil))) (wCall S_p_room_up_to (wCons (wVar 0) (wCons (wVar 5) (wNil)))))))))
def S_p_holds_full : DL.Spec := pureS 4 (fun x : Sy × List Ws × Nat × D => [x.1.d, .lst (x.2.1.map Ws.d), .int x.2.2.1, x.2.2.2]) (fun x => S30 x.1 ∧ x.2.1.length ≤ 1000 ∧ x.2.2.1 < x.1.wishes.length ∧ x.2.2.2.blw 0 = true) (fun x => .bl (pairD x.1 x.2.1 x.2.2.1 x.2.2.2))
theorem vc_p_holds_full : ∀ g sto, (S_p_holds_full.args g).length = S_p_holds_full.n → S_p_holds_full.pre g sto → w_p_holds_full (bodyEnds (S_p_holds_full.post g sto)) (startE ["system", "kept", "place", "pair", "wish", "day", "one"] (S_p_holds_full.args g)) sto := by
  rintro ⟨s, ks, k, d⟩ sto _ ⟨hs, hks, hk, hd⟩
  dsimp only at hs hks hk hd
  obtain ⟨hat, hmem⟩ := ws_at hk
  have hu := hs.wish _ hmem
  have hdays := hs.days
  have huw := hu.work
  simp? only [w_p_holds_full, S_p_holds_full, pureS, atI_map hat, wComp, wipeE]
  refine ⟨noRef_of hd, ?_⟩
  rcases isa_tup (d := d) with ⟨ds, rfl⟩ | ⟨h1, h2⟩
  · simp? only [isa_tupT]
    by_cases hl : ds.length = 2
    · obtain ⟨a, b, rfl⟩ : ∃ a b, ds = [a, b] := by
        match ds, hl with
        | [a, b], _ => exact ⟨a, b, rfl⟩
      have ha := noRef_of (blw_items hd a (by simp))
      have hb := noRef_of (blw_items hd b (by simp))
      have e2 : (((2 : Nat) : Int) == 2) = true := rfl
      simp? only [List.length_cons, List.length_nil]
      rw [if_neg (by simp)]
      refine use_pure (a, (k : Int), (k : Int)) rfl rfl ha ?_
      dsimp only
      cases h3 : fromF a k k with
      | false => simp? only [pairD, h3]
      | true =>
        simp? only [ws_ix2]
        refine use_pure (b, (wsAt s k).day, s.days) rfl rfl hb ?_
        dsimp only
        cases h4 : fromF b (wsAt s k).day s.days with
        | false => simp? only [pairD, h3, h4]
        | true =>
          obtain ⟨day, rfl, h5, h6⟩ := fromF_iff.mp h4
          have hdd := hu.day
          simp? only [ws_ix2, List.length_map]
          refine ⟨by rw [sizeLine_eq]; omega, ?_⟩
          refine compL_flt Ws.d (fun a => if lowF a (wsAt s k) = true then decide (a.day ≤ day) else false) id Ws.d trivial _ (fun x hx R hR => ?_) ?_
          · simp? only [Tg.dg, w_p_holds_full_1, ws_ix2]
            refine use_pure (x, wsAt s k) rfl rfl trivial ?_
            dsimp only
            cases h7 : lowF x (wsAt s k) with
            | true =>
              simp? only [h7] at hR ⊢
              exact hR
            | false =>
              simp? only [h7] at hR ⊢
              exact hR
          · rw [List.map_id]
            (try simp? only [true_and])
            refine use_pure (s, day) rfl rfl ⟨hs, by show 0 < s.works.length; omega, by show 0 ≤ day; omega, by show day ≤ 1000; omega⟩ ?_
            (try simp? only [true_and])
            simp? only [pairD, h3, h4, dayOkF, cntF]
    · have e2 : (((ds.length : Nat) : Int) == 2) = false := by rw [beq_eq_false_iff_ne]; omega
      have e3 : pairD s ks k (.tup ds) = false := by
        match ds, hl with
        | [], _ => rfl
        | [_], _ => rfl
        | [a, b], h => exact absurd rfl h
        | _ :: _ :: _ :: _, _ => rfl
      simp? only [e2, e3]
  · have e : pairD s ks k d = false := by
      cases d with
      | tup ds => exact absurd rfl (h2 ds)
      | _ => rfl
    simp? only [h1, e]
def w_f_law_even_wish : DS := wSeq (wAsg (wOp dIx (wLst false (wCons (wC (.int 1)) (wCons (wC (.int 2)) (wCons (wC (.int 4)) (wNil))))) (wOp dMod (wCall S_f_law_next (wCons (wVar 0) (wNil))) (wC (.int 3)))) (gNm 3)) (wSeq (wAsg (wOp dIx (wLst false (wCons (wOp dAdd (wC (.int 1)) (wOp dMod (wCall S_f_law_next (wCons (wVar 0) (wNil))) (wC (.int 3)))) (wCons (wOp dAdd (wC (.int 1)) (wOp dMod (wCall S_f_law_next (wCons (wVar 0) (wNil))) (wC (.int 100)))) (wNil)))) (wOp dMod (wCall S_f_law_next (wCons (wVar 0) (wNil))) (wC (.int 2)))) (gNm 4)) (wRet (wTup (wCons (wVar 1) (wCons (wC (.int 1)) (wCons (wOp dMod (wCall S_f_law_next (wCons (wVar 0) (wNil))) (wOp dAdd (wVar 2) (wC (.int 1)))) (wCons (wVar 4) (wCons (wOp dMod (wCall S_f_law_next (wCons (wVar 0) (wNil))) (wVar 3)) (wNil)))))))))
def S_f_law_even_wish : DL.Spec := deckS 3 10 (fun x : Int × Int => [.int x.1, .int x.2]) (fun x => 0 ≤ x.2) fun x d => ∃ u : Ws, d = u.d ∧ u.work = x.1 ∧ u.kind = 1 ∧ (0 ≤ u.day ∧ u.day ≤ x.2) ∧ (1 ≤ u.weight ∧ u.weight ≤ 100) ∧ (0 ≤ u.rank ∧ u.rank ≤ 3)
theorem vc_f_law_even_wish : ∀ g sto, (S_f_law_even_wish.args g).length = S_f_law_even_wish.n → S_f_law_even_wish.pre g sto → w_f_law_even_wish (bodyEnds (S_f_law_even_wish.post g sto)) (startE ["_law_deck_here", "_law_work", "_law_days", "_law_ranks", "_law_weight"] (S_f_law_even_wish.args g)) sto := by
  rintro ⟨rest, B, n, h⟩ sto _ ⟨hD, hB, h0⟩
  dsimp only at hD hB h0
  have z2 : 2 ≤ sizeLine := by decide
  have z3 : 3 ≤ sizeLine := by decide
  have z5 : 5 ≤ sizeLine := by decide
  simp? only [w_f_law_even_wish, S_f_law_even_wish, deckS]
  refine ⟨z3, next_use hD (by omega) fun x1 st1 a1 b1 hD => ?_⟩
  obtain ⟨p, hp, hp2⟩ := pk3 (a := 1) (b := 2) (c := 4) (x := x1)
  simp? only [hp]
  refine ⟨by decide, next_use hD (by omega) fun x2 st2 a2 b2 hD => ?_⟩
  (try simp? only [true_and])
  refine ⟨by decide, next_use hD (by omega) fun x3 st3 a3 b3 hD => ?_⟩
  (try simp? only [true_and])
  refine ⟨by decide, z2, next_use hD (by omega) fun x4 st4 a4 b4 hD => ?_⟩
  obtain ⟨q, hq, hq2⟩ := pk2 (a := 1 + x2 % 3) (b := 1 + x3 % 100) (x := x4)
  have hq0 : 1 ≤ q ∧ q ≤ 100 := by omega
  simp? only [hq]
  refine ⟨by decide, next_use hD (by omega) fun x5 st5 a5 b5 hD => ?_⟩
  have m5 := modb x5 (show (0 : Int) < h + 1 by omega)
  (try simp? only [true_and])
  refine ⟨by omega, next_use hD (by omega) fun x6 st6 a6 b6 hD => ?_⟩
  have m6 := modb x6 (show (0 : Int) < p by omega)
  (try simp? only [true_and])
  exact ⟨by omega, z5, ⟨⟨n, 1, x5 % (h + 1), q, x6 % p⟩, rfl, rfl, rfl, ⟨m5.1, by show x5 % (h + 1) ≤ h; omega⟩, hq0, m6.1, by show x6 % p ≤ 3; omega⟩, hD.mono (by omega)⟩
def w_f_law_even_1 : DS := wIf (wTest (wOp dGt (wOp dMod (wCall S_f_law_next (wCons (wVar 0) (wNil))) (wC (.int 5))) (wC (.int 0)))) (wDrop (wM mAppend (wVar 11) (wCons (wCall S_f_law_even_wish (wCons (wVar 0) (wCons (wOp dMod (wOp dAdd (wOp dMul (wVar 12) (wOp dIx (wLst false (wCons (wC (.int 1)) (wCons (wOp dSub (wVar 9) (wC (.int 1))) (wNil)))) (wOp dMod (wVar 10) (wC (.int 2))))) (wVar 10)) (wVar 9)) (wCons (wVar 5) (wNil))))) (wNil)))) ((fun D env st => D.nx env st))
def w_f_law_even : DS := wSeq (wAsg (wOp dAdd (wC (.int 1)) (wOp dMod (wCall S_f_law_next (wCons (wVar 0) (wNil))) (wVar 1))) (gNm 5)) (wSeq (wAsg (wRgT1 (wOp dAdd (wC (.int 1)) (wOp dMod (wCall S_f_law_next (wCons (wVar 0) (wNil))) (wVar 2)))) (gNm 6)) (wSeq (wAsg (wOp dAdd (wC (.int 1)) (wOp dMod (wCall S_f_law_next (wCons (wVar 0) (wNil))) (wVar 4))) (gNm 7)) (wSeq (wAsg (wOp dMul (wCB bLen (wCons (wVar 6) (wNil))) (wOp dFdiv (wVar 5) (wVar 7))) (gNm 8)) (wSeq (wAsg (wCB bMin2 (wCons (wVar 3) (wCons (wOp dIx (wLst false (wCons (wVar 8) (wCons (wOp dMod (wCall S_f_law_next (wCons (wVar 0) (wNil))) (wOp dAdd (wVar 8) (wC (.int 1)))) (wCons (wOp dAdd (wVar 8) (wC (.int 1))) (wNil))))) (wOp dIx (wLst false (wCons (wC (.int 0)) (wCons (wC (.int 1)) (wCons (wC (.int 0)) (wCons (wC (.int 1)) (wCons (wC (.int 0)) (wCons (wC (.int 2)) (wNil)))))))) (wOp dMod (wCall S_f_law_next (wCons (wVar 0) (wNil))) (wC (.int 6))))) (wNil)))) (gNm 9)) (wSeq (wAsg (wCall S_f_law_next (wCons (wVar 0) (wNil))) (gNm 10)) (wSeq (wAsg (wLst true (wNil)) (gNm 11)) (wSeq (wFor (iRange1 (wCons (wVar 9) (wNil))) (gNm 12) w_f_law_even_1) (wRet (wTup (wCons (wVar 5) (wCons (wOp dMul (wTup (wCons (wTup (wNil)) (wNil))) (wCB bLen (wCons (wVar 6) (wNil)))) (wCons (wOp dMul (wTup (wCons (wTup (wCons (wVar 7) (wCons (wTup (wNil)) (wCons (wVar 6) (wNil))))) (wNil))) (wVar 9)) (wCons (wCB bTuple (wCons (wVar 11) (wNil))) (wNil))))))))))))))
structure EvSy (s : Sy) : Prop where
  hands : ∀ r ∈ s.hands, r = []
  works : ∃ l, ∀ w ∈ s.works, w = ⟨l, [], rangeI 0 s.hands.length⟩
  kind : ∀ u ∈ s.wishes, u.kind = 1
  nd : (s.wishes.map (·.work)).Nodup
theorem turn_ne {n v x i k : Int} (hv : v = 1 ∨ v = n - 1) (h0 : 0 ≤ k) (h1 : k < i) (h2 : i < n) : (i * v + x) % n ≠ (k * v + x) % n := by
  intro e
  have h3 := Int.emod_emod_of_dvd (i * v + x) (Int.dvd_refl n)
  have d1 : n ∣ (i * v + x) - (k * v + x) := Int.dvd_of_emod_eq_zero (by rw [Int.sub_emod, e, Int.sub_self, Int.zero_emod])
  have d2 : n ∣ i - k := by
    rcases hv with hv | hv
    · subst hv
      rw [show i * 1 + x - (k * 1 + x) = i - k by omega] at d1
      exact d1
    · subst hv
      have e2 : i * (n - 1) + x - (k * (n - 1) + x) = n * (i - k) - (i - k) := by
        rw [Int.mul_sub, Int.mul_sub, Int.mul_sub, Int.mul_comm n i, Int.mul_comm n k]
        omega
      rw [e2] at d1
      have := Int.dvd_sub (Int.dvd_mul_right n (i - k)) d1
      rwa [show n * (i - k) - (n * (i - k) - (i - k)) = i - k by omega] at this
  have := Int.le_of_dvd (by omega) d2
  omega
def S_f_law_even : DL.Spec := deckS 5 1000 (fun x : Int × Int × Int × Int => [.int x.1, .int x.2.1, .int x.2.2.1, .int x.2.2.2]) (fun x => (1 ≤ x.1 ∧ x.1 ≤ 30) ∧ (1 ≤ x.2.1 ∧ x.2.1 ≤ 5) ∧ (0 ≤ x.2.2.1 ∧ x.2.2.1 ≤ 12) ∧ (1 ≤ x.2.2.2 ∧ x.2.2.2 ≤ 10)) fun x d => ∃ s : Sy, d = s.d ∧ s.Ok x.1 x.2.1 x.2.2.1 x.2.2.2 12 ∧ EvSy s
theorem row_range (n : Nat) : Row n (rangeI 0 n) := by
  unfold rangeI Row
  refine ⟨?_, fun x hx => ?_⟩
  · rw [List.pairwise_map]
    exact List.pairwise_lt_range.imp fun h => by omega
  · obtain ⟨i, hi, rfl⟩ := List.mem_map.mp hx
    rw [List.mem_range] at hi
    omega
theorem vc_f_law_even : ∀ g sto, (S_f_law_even.args g).length = S_f_law_even.n → S_f_law_even.pre g sto → w_f_law_even (bodyEnds (popEnds sto.length sto (S_f_law_even.post g sto))) (startE ["_law_deck_here", "_law_days", "_law_hands", "_law_works", "_law_length", "_law_many", "_law_able", "_law_size", "_law_room", "_law_count", "_law_turn", "_law_wishes", "_law_k"] (S_f_law_even.args g)) sto := by
  rintro ⟨rest, B, a, b, c, l⟩ sto _ ⟨hD, hB, ha, hb, hc, hl⟩
  have hD0 := hD
  dsimp only at hD0 hD hB ha hb hc hl
  have z1 : 1 ≤ sizeLine := by decide
  have z2 : 2 ≤ sizeLine := by decide
  have z3 : 3 ≤ sizeLine := by decide
  have z4 : 4 ≤ sizeLine := by decide
  have z6 : 6 ≤ sizeLine := by decide
  simp? only [w_f_law_even, S_f_law_even, deckS, wFor]
  refine next_use hD (by omega) fun x1 st1 a1 b1 hD => ?_
  have m1 := modb x1 (show (0 : Int) < a by omega)
  (try simp? only [true_and])
  obtain ⟨dd, ed⟩ : ∃ dd, dd = 1 + x1 % a := ⟨_, rfl⟩
  simp only [← ed]
  refine ⟨by omega, next_use hD (by omega) fun x2 st2 a2 b2 hD => ?_⟩
  have m2 := modb x2 (show (0 : Int) < b by omega)
  (try simp? only [true_and])
  obtain ⟨h, eh⟩ : ∃ h : Nat, 1 + x2 % b = (h : Int) := ⟨(1 + x2 % b).toNat, by omega⟩
  have erg : rgD 0 (h : Int) = (rangeI 0 h).map D.int := by unfold rgD rangeI; rw [List.map_map, Int.sub_zero, Int.toNat_natCast]; rfl
  have erl : (rangeI 0 h).length = h := by unfold rangeI; rw [List.length_map, List.length_range]
  rw [eh, erg]
  refine ⟨by omega, ⟨by decide, by decide, by omega, by omega⟩, next_use hD (by omega) fun x3 st3 a3 b3 hD => ?_⟩
  have m3 := modb x3 (show (0 : Int) < l by omega)
  (try simp? only [true_and])
  obtain ⟨z, ez⟩ : ∃ z, z = 1 + x3 % l := ⟨_, rfl⟩
  simp only [← ez, erl]
  have hdv : 0 ≤ dd / z ∧ dd / z ≤ dd := ⟨Int.ediv_nonneg (by omega) (by omega), Int.ediv_le_self _ (by omega)⟩
  obtain ⟨rm, er⟩ : ∃ rm, rm = (h : Int) * (dd / z) := ⟨_, rfl⟩
  have hrm : 0 ≤ rm ∧ rm ≤ 150 := by
    rw [er]
    have : (h : Int) * (dd / z) ≤ 5 * 30 := Int.mul_le_mul (by omega) (by omega) (by omega) (by omega)
    exact ⟨Int.mul_nonneg (by omega) hdv.1, by omega⟩
  simp only [← er]
  refine ⟨by omega, ⟨by omega, by omega⟩, .inl ⟨by omega, by omega⟩, next_use hD (by omega) fun x4 st4 a4 b4 hD => ?_⟩
  have m4 := modb x4 (show (0 : Int) < rm + 1 by omega)
  (try simp? only [true_and])
  refine ⟨by omega, z3, z6, next_use hD (by omega) fun x5 st5 a5 b5 hD => ?_⟩
  (try simp? only [true_and])
  have hk : ∃ k : Int, atI [D.int 0, .int 1, .int 0, .int 1, .int 0, .int 2] (x5 % 6) = some (.int k) ∧ 0 ≤ k ∧ k < 3 := by
    obtain ⟨k, h1, h2⟩ := pickI (ns := [0, 1, 0, 1, 0, 2]) (i := x5 % 6) (by omega) (by simp; omega)
    refine ⟨k, h1, ?_⟩
    simp only [List.mem_cons, List.not_mem_nil, or_false] at h2
    omega
  obtain ⟨k, hk, hk0, hk3⟩ := hk
  obtain ⟨cv, hcv, hcv2⟩ := pickI (ns := [rm, x4 % (rm + 1), rm + 1]) (i := k) hk0 (by simp; omega)
  have hcv0 : 0 ≤ cv := by
    simp only [List.mem_cons, List.not_mem_nil, or_false] at hcv2
    omega
  simp only [List.map_cons, List.map_nil] at hcv
  simp? only [hk, hcv]
  obtain ⟨n, en⟩ : ∃ n : Nat, (if cv < c then cv else c) = (n : Int) := ⟨(if cv < c then cv else c).toNat, by split <;> omega⟩
  rw [en]
  have hn : (n : Int) ≤ c := by rw [← en]; split <;> omega
  refine ⟨by decide, next_use hD (by omega) fun x6 st6 a6 b6 hD => ?_⟩
  (try simp? only [true_and])
  refine ⟨Nat.zero_le _, ⟨by omega, by omega⟩, ?_⟩
  rw [Int.toNat_natCast, hD.len]
  obtain ⟨v, hv, hv2⟩ := pk2 (a := 1) (b := (n : Int) - 1) (x := x6)
  refine forL_inv (fun i e st => ∃ x12 us, e = [some (.ref 2), some (.int a), some (.int b), some (.int c), some (.int l), some (.int dd), some (.tup ((rangeI 0 h).map D.int)), some (.int z), some (.int rm), some (.int n), some (.int x6), some (.ref (rest.length + 3)), x12] ∧ List.length us ≤ i ∧ ((∀ u ∈ us, Ws.Ok u n dd ∧ u.kind = 1) ∧ (us.map (·.work)).Nodup ∧ ∀ u ∈ us, ∃ k : Nat, k < i ∧ u.work = ((k : Int) * v + x6) % n) ∧ Dk (B + 10 + i * 20) (rest ++ [.lst (us.map Ws.d)]) st) ?_ ?_ _ _ ⟨_, [], rfl, Nat.zero_le _, ⟨(fun _ h => nomatch h), List.nodup_nil, (fun _ h => nomatch h)⟩, hD.push.mono (by omega)⟩
  · rintro i e st d ⟨x12, us, rfl, hul, ⟨hus, hnd, huk⟩, hD⟩ he R hR
    obtain ⟨hi, rfl⟩ := rangeD_at he
    refine ⟨trivial, ?_⟩
    simp? only [w_f_law_even_1]
    refine next_use hD (by omega) fun y st y0 y1 hD => ?_
    (try simp? only [true_and])
    refine ⟨by decide, ?_⟩
    by_cases hy : 0 < y % 5
    · rw [if_pos hy]
      have hvv : 0 ≤ v ∧ v ≤ 12 := by omega
      have hmul : 0 ≤ (i : Int) * v ∧ (i : Int) * v ≤ 12 * 12 := ⟨Int.mul_nonneg (by omega) hvv.1, Int.mul_le_mul (by omega) (by omega) (by omega) (by omega)⟩
      simp? only [rd_ref' hD.top, hv, Int.zero_add]
      have m7 := modb ((i : Int) * v + x6) (show (0 : Int) < n by omega)
      refine ⟨z2, by decide, .inl ⟨by omega, by omega⟩, by omega, ?_⟩
      refine use_deck (((i : Int) * v + x6) % n, dd) rfl rfl hD (by omega) (by show 0 ≤ dd; omega) fun d st hd hD => ?_
      obtain ⟨u, rfl, g1, g2, g3, g4, g5⟩ := hd
      dsimp only at g1 g3
      simp? only [v_app hD.top]
      refine ⟨by rw [sizeLine_eq]; omega, ?_⟩
      refine hR _ _ ⟨_, us ++ [u], rfl, by rw [List.length_append, List.length_singleton]; omega, ⟨fun w hw => ?_, ?_, fun w hw => ?_⟩, ?_⟩
      · rcases List.mem_append.mp hw with hw | hw
        · exact hus w hw
        · rw [List.mem_singleton] at hw
          subst hw
          exact ⟨⟨by omega, by omega, g3, g4, g5⟩, g2⟩
      · rw [List.map_append, List.nodup_append]
        refine ⟨hnd, by simp, fun y hy z hz e => ?_⟩
        rw [List.map_cons, List.map_nil, List.mem_singleton] at hz
        obtain ⟨w, hw, rfl⟩ := List.mem_map.mp hy
        obtain ⟨k, hk, ek⟩ := huk w hw
        rw [hz, g1, ek] at e
        exact turn_ne hv2 (by omega) (by omega) (by omega) e.symm
      · rcases List.mem_append.mp hw with hw | hw
        · obtain ⟨k, hk, ek⟩ := huk w hw
          exact ⟨k, by omega, ek⟩
        · rw [List.mem_singleton] at hw
          subst hw
          exact ⟨i, by omega, g1⟩
      · rw [List.map_append]
        exact hD.put.mono (by omega)
    · rw [if_neg hy]
      exact hR _ _ ⟨_, us, rfl, by omega, ⟨hus, hnd, fun u hu => by obtain ⟨k, hk, ek⟩ := huk u hu; exact ⟨k, by omega, ek⟩⟩, hD.mono (by omega)⟩
  · rintro e st ⟨x12, us, rfl, hul, ⟨hus, hnd, huk⟩, hD⟩
    rw [rangeD_len] at hul hD
    refine ⟨trivial, ?_⟩
    simp? only [v_mulT, v_tupL (rd_ref' hD.top), flat_one, List.length_map, erl, Int.toNat_natCast]
    refine ⟨Nat.zero_le _, z1, by omega, by omega, (show 1 ≤ 1000 by decide), Nat.zero_le _, z3, z1, by omega, by omega, (show 1 ≤ 1000 by decide), z4, ?_⟩
    let wk : Wk := ⟨z, [], rangeI 0 h⟩
    let S : Sy := ⟨dd, List.replicate h [], List.replicate n wk, us⟩
    have hS : S.Ok a b c l 12 := by
      have e1 : S.hands.length = h := List.length_replicate
      have e2 : S.works.length = n := List.length_replicate
      refine ⟨⟨by show 1 ≤ dd; omega, by show dd ≤ a; omega⟩, ⟨by rw [e1]; omega, by rw [e1]; omega⟩, fun r hr => ?_, by rw [e2]; exact hn, fun i w hw => ?_, by show (us.length : Int) ≤ 12; omega, fun u hu => by rw [e2]; exact (hus u hu).1⟩
      · rw [List.eq_of_mem_replicate hr]
        exact ⟨.nil, fun _ h => nomatch h⟩
      · have := List.eq_of_mem_replicate (List.mem_of_getElem? hw)
        subst this
        refine ⟨⟨by show 1 ≤ z; omega, by show z ≤ l; omega⟩, ⟨.nil, fun _ h => nomatch h⟩, by rw [e1]; exact row_range h, ?_⟩
        intro e
        have e3 : (rangeI 0 h).length = 0 := by rw [show rangeI 0 h = [] from e]; rfl
        omega
    have hE : EvSy S := ⟨fun r hr => List.eq_of_mem_replicate hr, ⟨z, fun w hw => by rw [List.eq_of_mem_replicate hw]; show wk = ⟨z, [], rangeI 0 (List.replicate h ([] : List Int)).length⟩; rw [List.length_replicate]⟩, fun u hu => (hus u hu).2, hnd⟩
    have eS : S.d = .tup [.int dd, .tup (List.replicate h (.tup [])), .tup (List.replicate n (.tup [.int z, .tup [], .tup ((rangeI 0 h).map D.int)])), .tup (us.map Ws.d)] := by
      show D.tup [.int dd, .tup ((List.replicate h ([] : List Int)).map dInts), .tup ((List.replicate n wk).map Wk.d), .tup (us.map Ws.d)] = _
      rw [List.map_replicate, List.map_replicate]
      rfl
    rw [← eS]
    exact dk_pop hD0 hD (blw_sy _ S) fun st1 h1 => ⟨⟨S, rfl, hS, hE⟩, h1.mono (by omega)⟩
def natE (k : Nat) : D := .int (k : Nat)
def PapIs (s : Sy) (ps : List P2) (fs : List D) : Prop := IsPlan s ps ∧ fs.length = (leftL s ps).length ∧ ∀ x ∈ (leftL s ps).zip fs, pairD s (kpL s ps) x.1 x.2 = true
noncomputable def paperD (s : Sy) (d : D) : Bool := tr (∃ ps fs, d = .tup [encR ps, .tup fs] ∧ PapIs s ps fs)
theorem paper_enc {s : Sy} {ps : List P2} {fs : List D} : paperD s (.tup [encR ps, .tup fs]) = tr (PapIs s ps fs) := by
  unfold paperD
  congr 1
  refine propext ⟨?_, fun h => ⟨ps, fs, rfl, h⟩⟩
  rintro ⟨ps2, fs2, e, h⟩
  simp only [D.tup.injEq, List.cons.injEq, and_true] at e
  have e1 := encR_inj e.1
  subst e1
  rw [e.2]
  exact h
theorem zip_map2 (ks : List Nat) (fs : List D) : zipD (ks.map natE) fs = (ks.zip fs).map fun x => .tup [natE x.1, x.2] := by
  unfold zipD
  induction ks generalizing fs with
  | nil => rfl
  | cons k r ih =>
    cases fs with
    | nil => rfl
    | cons f fs => rw [List.map_cons, List.zipWith_cons_cons, List.zip_cons_cons, List.map_cons, ih]
theorem zx_mem {s : Sy} {x : Ws × Nat} (h : x ∈ s.wishes.zipIdx) : x.1 ∈ s.wishes ∧ x.2 < s.wishes.length ∧ s.wishes[x.2]? = some x.1 := by
  have e := List.mem_zipIdx_iff_getElem?.mp h
  exact ⟨List.mem_of_getElem? e, (List.getElem?_eq_some_iff.mp e).1, e⟩
theorem left_lt {s : Sy} {ps : List P2} {k : Nat} (h : k ∈ leftL s ps) : k < s.wishes.length := by
  unfold leftL at h
  obtain ⟨x, hx, rfl⟩ := List.mem_map.mp h
  exact (zx_mem (List.mem_filter.mp hx).1).2.1
def fullsF (s : Sy) (ps : List P2) (k : Nat) : List Int := (rangeI (wsAt s k).day (s.days + 1 - (wsAt s k).day).toNat).filter fun d => dayOkF s (kpL s ps) k d
def cntB (s : Sy) (ps : List P2) (u : Ws) (day : Int) (a : Ws) : Bool := (if lowF a u = true then decide (a.day ≤ day) else false) && kpF s ps a
theorem cnt_eq {s : Sy} {ps : List P2} {u : Ws} {day : Int} : cntF (kpL s ps) u day = s.wishes.countP (cntB s ps u day) := by
  unfold cntF kpL cntB
  rw [List.filter_filter, List.countP_eq_length_filter]
theorem fold_filter {α : Type} {p : α → Bool} : ∀ (xs acc : List α), xs.foldl (fun acc d => if p d = true then acc ++ [d] else acc) acc = acc ++ xs.filter p
  | [], acc => by simp
  | x :: r, acc => by
    rw [List.foldl_cons, List.filter_cons]
    cases h : p x with
    | true => rw [if_pos rfl, if_pos rfl, fold_filter r, List.append_assoc]; rfl
    | false => rw [if_neg Bool.false_ne_true, if_neg Bool.false_ne_true, fold_filter r]
def w_f_law_full_days_1 : DS := wSeq (wAsg (wOrV (wOp dLt (wOp dIx (wVar 7) (wC (.int 4))) (wOp dIx (wVar 3) (wC (.int 4)))) (wAndV (wOp dEq (wOp dIx (wVar 7) (wC (.int 4))) (wOp dIx (wVar 3) (wC (.int 4)))) (wOp dGe (wOp dIx (wVar 7) (wC (.int 3))) (wOp dIx (wVar 3) (wC (.int 3)))))) (gNm 8)) (wIf (wAnd (wTest (wVar 8)) (wAnd (wTest (wOp dLe (wOp dIx (wVar 7) (wC (.int 2))) (wVar 5))) (wTest (wCall S_f_law_kept (wCons (wVar 0) (wCons (wVar 7) (wCons (wOp dIx (wVar 1) (wOp dIx (wVar 7) (wC (.int 0)))) (wNil)))))))) (wAsg (wOp dAdd (wVar 6) (wC (.int 1))) (gNm 6)) ((fun D env st => D.nx env st)))
def w_f_law_full_days_2 : DS := wSeq (wAsg (wC (.int 0)) (gNm 6)) (wSeq (wFor (iSeq (wOp dIx (wVar 0) (wC (.int 3)))) (gNm 7) w_f_law_full_days_1) (wIf (wTest (wOp dEq (wVar 6) (wCall S_f_law_room (wCons (wVar 0) (wCons (wVar 5) (wNil)))))) (wDrop (wM mAppend (wVar 4) (wCons (wVar 5) (wNil)))) ((fun D env st => D.nx env st))))
def w_f_law_full_days : DS := wSeq (wAsg (wOp dIx (wOp dIx (wVar 0) (wC (.int 3))) (wVar 2)) (gNm 3)) (wSeq (wAsg (wLst true (wNil)) (gNm 4)) (wSeq (wFor (iRange2 (wCons (wOp dIx (wVar 3) (wC (.int 2))) (wCons (wOp dAdd (wOp dIx (wVar 0) (wC (.int 0))) (wC (.int 1))) (wNil)))) (gNm 5) w_f_law_full_days_2) (wRet (wFrz 4))))
def S_f_law_full_days : DL.Spec := pureS 3 (fun x : Sy × List P2 × Nat => [x.1.d, encR x.2.1, .int x.2.2]) (fun x => EvOk x.1 ∧ x.2.2 < x.1.wishes.length ∧ x.2.1.length = x.1.works.length) (fun x => .lst ((fullsF x.1 x.2.1 x.2.2).map .int))
theorem vc_f_law_full_days : ∀ g sto, (S_f_law_full_days.args g).length = S_f_law_full_days.n → S_f_law_full_days.pre g sto → w_f_law_full_days (bodyEnds (popEnds sto.length sto (S_f_law_full_days.post g sto))) (startE ["_law_system", "_law_plan", "_law_place", "_law_wish", "_law_found", "_law_day", "_law_many", "_law_one", "_law_high"] (S_f_law_full_days.args g)) sto := by
  rintro ⟨s, ps, k⟩ sto _ ⟨hs, hk, hpl⟩
  dsimp only at hs hk hpl
  have h30 := hs.s30
  have hwl := h30.works
  have hul := h30.wishes
  have hdd := h30.days
  obtain ⟨hat, hmem⟩ := ws_at hk
  have hu := h30.wish _ hmem
  have huw := hu.work
  have hud := hu.day
  have hw0 : 0 < s.works.length := by omega
  simp? only [w_f_law_full_days, S_f_law_full_days, pureS, atI_map hat, ws_ix2, wFor]
  refine ⟨Nat.zero_le _, by omega, ?_⟩
  rw [rangeD_eq]
  refine forL_fold D.int (fun acc d => if dayOkF s (kpL s ps) k d = true then acc ++ [d] else acc)
    (fun i acc e st => ∃ x5 x6 x7 x8, e = [some s.d, some (encR ps), some (.int (k : Nat)), some (wsAt s k).d, some (.ref sto.length), x5, x6, x7, x8] ∧ st = sto ++ [.lst (acc.map .int)] ∧ acc.length ≤ i) _ [] _ _ ?_ ?_ ⟨_, _, _, _, rfl, rfl, Nat.le_refl _⟩
  · rintro i acc day e st hi hb ⟨x5, x6, x7, x8, rfl, rfl, hl⟩ R hR
    have hbr := mem_rangeI.mp hb
    rw [rangeI_len] at hi
    refine ⟨trivial, ?_⟩
    simp?! only [w_f_law_full_days_2, wFor]
    refine seq_go ?_
    (try simp?! only [true_and])
    refine seq_cut (fun e st => ∃ x7 x8, e = [some s.d, some (encR ps), some (.int (k : Nat)), some (wsAt s k).d, some (.ref sto.length), some (.int day), some (.int (cntF (kpL s ps) (wsAt s k) day : Nat)), x7, x8] ∧ st = sto ++ [.lst (acc.map .int)]) (fun K hK => ?_) ?_
    · (try simp?! only [true_and])
      refine forL_inv (fun j e st => ∃ v x7 x8, e = [some s.d, some (encR ps), some (.int (k : Nat)), some (wsAt s k).d, some (.ref sto.length), some (.int day), some (.int v), x7, x8] ∧ v = (((s.wishes.take j).countP (cntB s ps (wsAt s k) day) : Nat) : Int) ∧ st = sto ++ [.lst (acc.map .int)]) ?_ ?_ _ _ ⟨0, _, _, rfl, rfl, rfl⟩
      · rintro j e st d ⟨v, x7, x8, rfl, hv, rfl⟩ he R2 hR2
        rw [List.getElem?_map] at he
        cases ha : s.wishes[j]? with
        | none => rw [ha] at he; cases he
        | some a =>
          rw [ha] at he
          cases he
          have ham := List.mem_of_getElem? ha
          have hau := h30.wish _ ham
          refine ⟨trivial, ?_⟩
          have hst : (((s.wishes.take (j + 1)).countP (cntB s ps (wsAt s k) day) : Nat) : Int) = v + (if cntB s ps (wsAt s k) day a = true then 1 else 0) := by
            rw [List.take_add_one, List.countP_append, ha, hv]
            show ((_ + List.countP _ [a] : Nat) : Int) = _
            rw [List.countP_singleton]
            split <;> simp
          have yes : cntB s ps (wsAt s k) day a = true → ∀ x7 x8, R2 [some s.d, some (encR ps), some (.int (k : Nat)), some (wsAt s k).d, some (.ref sto.length), some (.int day), some (.int (v + 1)), x7, x8] (sto ++ [.lst (acc.map .int)]) := fun h x7 x8 => hR2 _ _ ⟨v + 1, _, _, rfl, by rw [hst, if_pos h], rfl⟩
          have no : cntB s ps (wsAt s k) day a = false → ∀ x7 x8, R2 [some s.d, some (encR ps), some (.int (k : Nat)), some (wsAt s k).d, some (.ref sto.length), some (.int day), some (.int v), x7, x8] (sto ++ [.lst (acc.map .int)]) := fun h x7 x8 => hR2 _ _ ⟨v, _, _, rfl, by rw [hst, if_neg (by rw [h]; exact Bool.false_ne_true), Int.add_zero], rfl⟩
          simp?! only [w_f_law_full_days_1]
          refine seq_cut (fun e st => e = [some s.d, some (encR ps), some (.int (k : Nat)), some (wsAt s k).d, some (.ref sto.length), some (.int day), some (.int v), some a.d, some (.bl (lowF a (wsAt s k)))] ∧ st = sto ++ [.lst (acc.map .int)]) (fun K hK => ?_) ?_
          · simp?! only [ws_ix3, ws_ix4]
            unfold lowF at hK
            by_cases h : a.rank < (wsAt s k).rank
            · simp? only [h] at hK ⊢
              exact hK _ _ ⟨rfl, rfl⟩
            · simp? only [h] at hK ⊢
              cases h2 : a.rank == (wsAt s k).rank with
              | true => simp? only [h2] at hK ⊢; exact hK _ _ ⟨rfl, rfl⟩
              | false => simp? only [h2] at hK ⊢; exact hK _ _ ⟨rfl, rfl⟩
          rintro e st ⟨rfl, rfl⟩
          (try simp?! only [true_and])
          cases h1 : lowF a (wsAt s k) with
          | false =>
            (try simp? only [true_and])
            exact no (by unfold cntB; rw [h1]; rfl) _ _
          | true =>
            simp? only [ws_ix2]
            by_cases h2 : a.day ≤ day
            · rw [if_pos h2]
              simp? only [ws_ix0, encR, way_ix hau hpl]
              refine use_pure (s, a, wayOf ps a) rfl rfl hau ?_
              (try simp? only [true_and])
              have e3 : cntB s ps (wsAt s k) day a = keptF s a (wayOf ps a) := by unfold cntB kpF; rw [h1, if_pos rfl, decide_eq_true h2, Bool.true_and]
              cases h3 : keptF s a (wayOf ps a) with
              | true => rw [if_pos rfl]; exact yes (by rw [e3, h3]) _ _
              | false => rw [if_neg Bool.false_ne_true]; exact no (by rw [e3, h3]) _ _
            · rw [if_neg h2]
              exact no (by unfold cntB; rw [h1, if_pos rfl, decide_eq_false h2]; rfl) _ _
      · rintro e st ⟨v, x7, x8, rfl, hv, rfl⟩
        rw [List.length_map, List.take_length, ← cnt_eq] at hv
        rw [hv]
        exact ⟨trivial, hK _ _ ⟨_, _, rfl, rfl⟩⟩
    rintro e st ⟨x7, x8, rfl, rfl⟩
    (try simp?! only [true_and])
    refine use_pure (s, day) rfl rfl ⟨h30, hw0, by show 0 ≤ day; omega, by show day ≤ 1000; omega⟩ ?_
    dsimp only
    (try simp? only [true_and])
    cases h : dayOkF s (kpL s ps) k day with
    | true =>
      rw [h, if_pos rfl] at hR
      unfold dayOkF at h
      rw [if_pos h]
      simp? only [v_app (get_last _ _), set_last, rd_ref' (get_last _ _)]
      exact ⟨by rw [sizeLine_eq]; (try rw [List.length_map]); omega, hR _ _ ⟨_, _, _, _, rfl, by rw [List.map_append]; rfl, by rw [List.length_append, List.length_singleton]; omega⟩⟩
    | false =>
      rw [h, if_neg Bool.false_ne_true] at hR
      unfold dayOkF at h
      rw [if_neg (by rw [h]; exact Bool.false_ne_true)]
      exact hR _ _ ⟨_, _, _, _, rfl, rfl, by omega⟩
  · rintro e st ⟨x5, x6, x7, x8, rfl, rfl, hl⟩
    refine ⟨trivial, ?_⟩
    simp? only [wFrz]
    refine ⟨_, _, rfl, get_last _ _, ?_⟩
    rw [set_last, fold_filter, List.nil_append]
    exact ⟨sto, _, rfl, rfl, by simp only [D.blw, blwL_ints], fun i c h => .inl h, rfl, rfl⟩
theorem anyI_mem {f : List Int} {i : Int} : f.any (· == i) = true ↔ i ∈ f := by
  rw [List.any_eq_true]
  exact ⟨fun ⟨x, h, e⟩ => by rw [beq_iff_eq] at e; rwa [← e], fun h => ⟨i, h, beq_self_eq_true _⟩⟩
theorem fulls_any {s : Sy} {ps : List P2} {k : Nat} {day : Int} : (fullsF s ps k).any (· == day) = (decide ((wsAt s k).day ≤ day ∧ day ≤ s.days) && dayOkF s (kpL s ps) k day) := by
  rw [Bool.eq_iff_iff, anyI_mem]
  unfold fullsF
  rw [List.mem_filter, mem_rangeI, Bool.and_eq_true, decide_eq_true_iff]
  refine and_congr_left fun _ => ?_
  omega
theorem okL_intsE : ∀ ns : List Int, (dInts ns).ok = true := fun ns => by
  show (D.tup (ns.map .int)).ok = true
  simp only [D.ok, okL_ints]
theorem okL_wksE : ∀ ws : List Wk, D.okL (ws.map Wk.d) = true
  | [] => rfl
  | w :: r => by
    rw [List.map_cons]
    have h1 := okL_intsE w.ahead
    have h2 := okL_intsE w.able
    simp only [D.okL, Wk.d, D.ok, h1, h2, okL_wksE r, Bool.and_self]
section
variable {s : Sy}
def dayK (s : Sy) (k : Nat) : Int := (wsAt s k).day
def upTo (s : Sy) (G : List Nat) (D : Int) : Nat := G.countP fun k => decide (dayK s k ≤ D)
def Feas (s : Sy) (G : List Nat) : Prop := ∀ D, 0 ≤ D → D ≤ s.days → ((upTo s G D : Nat) : Int) ≤ roomF s D
theorem feas_exist {G : List Nat} (h : ¬Feas s G) : ∃ D, 0 ≤ D ∧ D ≤ s.days ∧ roomF s D < ((upTo s G D : Nat) : Int) := by
  apply Classical.byContradiction
  intro h2
  refine h fun D h0 h1 => ?_
  apply Classical.byContradiction
  intro h3
  exact h2 ⟨D, h0, h1, by omega⟩
noncomputable def takeS (s : Sy) (G : List Nat) (k : Nat) : List Nat := if tr (Feas s (G ++ [k])) = true then G ++ [k] else G
noncomputable def takeF (s : Sy) (os : List Nat) : List Nat := os.foldl (takeS s) []
theorem upTo_snoc (G : List Nat) (k : Nat) (D : Int) : upTo s (G ++ [k]) D = upTo s G D + (if dayK s k ≤ D then 1 else 0) := by
  unfold upTo
  rw [List.countP_append, List.countP_singleton]
  by_cases h : dayK s k ≤ D
  · rw [if_pos h, decide_eq_true h, if_pos rfl]
  · rw [if_neg h, decide_eq_false h, if_neg Bool.false_ne_true]
def nbTo (s : Sy) (G : List Nat) (k : Nat) (D : Int) : Nat := G.countP fun j => lowF (wsAt s j) (wsAt s k) && decide (dayK s j ≤ D)
structure TakI (s : Sy) (pre G : List Nat) : Prop where
  sub : G.Sublist pre
  feas : Feas s G
  out : ∀ k ∈ pre, k ∉ G → ∃ D, dayK s k ≤ D ∧ 0 ≤ D ∧ D ≤ s.days ∧ roomF s D ≤ ((nbTo s G k D : Nat) : Int)
theorem nb_snoc (G : List Nat) (k j : Nat) (D : Int) : nbTo s G k D ≤ nbTo s (G ++ [j]) k D := by
  unfold nbTo
  rw [List.countP_append]
  omega
theorem nb_all {G : List Nat} {k : Nat} {D : Int} (h : ∀ j ∈ G, lowF (wsAt s j) (wsAt s k) = true) : nbTo s G k D = upTo s G D := by
  unfold nbTo upTo
  refine List.countP_congr fun j hj => ?_
  rw [h j hj, Bool.true_and]
theorem nb_le (G : List Nat) (k : Nat) (D : Int) : nbTo s G k D ≤ upTo s G D := by
  unfold nbTo upTo
  refine List.countP_mono_left fun j _ h => ?_
  rw [Bool.and_eq_true] at h
  exact h.2
theorem feas_nil (hs : S30 s) (hw : 0 < s.works.length) : Feas s [] := fun D h0 _ => by
  show (0 : Int) ≤ roomF s D
  unfold roomF
  have := (div_le h0 (lenA_pos hs hw).1).1
  exact Int.mul_nonneg (by omega) this
theorem tak_step {pre G : List Nat} {k : Nat} (h : TakI s pre G) (hk : k ∉ pre) (hb : ∀ j ∈ pre, lowF (wsAt s j) (wsAt s k) = true) : TakI s (pre ++ [k]) (takeS s G k) := by
  unfold takeS
  by_cases hf : Feas s (G ++ [k])
  · rw [tr_true hf, if_pos rfl]
    refine ⟨h.sub.append (List.Sublist.refl _), hf, fun j hj hn => ?_⟩
    rw [List.mem_append] at hj hn
    rcases hj with hj | hj
    · obtain ⟨D, h1, h2, h3, h4⟩ := h.out j hj fun z => hn (.inl z)
      exact ⟨D, h1, h2, h3, by have := nb_snoc (s := s) G j k D; omega⟩
    · exact absurd (.inr hj) hn
  · rw [tr_false hf, if_neg Bool.false_ne_true]
    refine ⟨h.sub.trans (List.sublist_append_left _ _), h.feas, fun j hj hn => ?_⟩
    rcases List.mem_append.mp hj with hj | hj
    · exact h.out j hj hn
    · rw [List.mem_singleton] at hj
      subst hj
      obtain ⟨D, h0, h1, h2⟩ := feas_exist hf
      have h3 := h.feas D h0 h1
      rw [upTo_snoc] at h2
      have hd : dayK s j ≤ D := by
        apply Classical.byContradiction
        intro z
        rw [if_neg z] at h2
        omega
      rw [if_pos hd] at h2
      refine ⟨D, hd, h0, h1, ?_⟩
      rw [nb_all fun i hi => hb i (h.sub.subset hi)]
      omega
theorem tak_all : ∀ {os pre G : List Nat}, TakI s pre G → (pre ++ os).Nodup → (pre ++ os).Pairwise (fun i j => lowF (wsAt s i) (wsAt s j) = true) → TakI s (pre ++ os) (os.foldl (takeS s) G)
  | [], pre, G, h, _, _ => by rw [List.append_nil]; exact h
  | k :: os, pre, G, h, hn, hp => by
    have e : pre ++ k :: os = (pre ++ [k]) ++ os := by rw [List.append_assoc]; rfl
    rw [e] at hn hp ⊢
    refine tak_all (tak_step h ?_ ?_) hn hp
    · have := (List.nodup_append.mp (List.nodup_append.mp hn).1).2.2
      intro hk
      exact this k hk k (by simp) rfl
    · intro j hj
      have := (List.pairwise_append.mp (List.pairwise_append.mp hp).1).2.2
      exact this j hj k (by simp)
structure OrdOk (s : Sy) (os : List Nat) : Prop where
  perm : os.Perm (List.range s.wishes.length)
  low : os.Pairwise fun i j => lowF (wsAt s i) (wsAt s j) = true
/-- a row of places taken, as it should be -/
structure Taken (s : Sy) (G : List Nat) : Prop where
  nd : G.Nodup
  lt : ∀ k ∈ G, k < s.wishes.length
  feas : Feas s G
  out : ∀ k, k < s.wishes.length → k ∉ G → ∃ D, dayK s k ≤ D ∧ 0 ≤ D ∧ D ≤ s.days ∧ roomF s D = ((nbTo s G k D : Nat) : Int)
theorem taken_of {os : List Nat} (hs : S30 s) (hw : 0 < s.works.length) (h : OrdOk s os) : Taken s (takeF s os) := by
  have hn : os.Nodup := h.perm.nodup_iff.mpr List.nodup_range
  have := tak_all (s := s) (os := os) (pre := []) (G := []) ⟨.slnil, feas_nil hs hw, fun _ h => nomatch h⟩ hn h.low
  rw [List.nil_append] at this
  refine ⟨this.sub.nodup hn, fun k hk => List.mem_range.mp (h.perm.mem_iff.mp (this.sub.subset hk)), this.feas, fun k hk hg => ?_⟩
  obtain ⟨D, h1, h2, h3, h4⟩ := this.out k (h.perm.mem_iff.mpr (List.mem_range.mpr hk)) hg
  refine ⟨D, h1, h2, h3, ?_⟩
  have h5 := this.feas D h2 h3
  have h6 := nb_le (s := s) (takeF s os) k D
  have : roomF s D ≤ ((nbTo s (takeF s os) k D : Nat) : Int) := h4
  have h5 : ((upTo s (takeF s os) D : Nat) : Int) ≤ roomF s D := h5
  omega
def workK (s : Sy) (k : Nat) : Nat := (wsAt s k).work.toNat
def slotP (s : Sy) (i : Nat) : P2 := ((i : Int) / (s.hands.length : Int) * lenA s, (i : Int) % (s.hands.length : Int))
def blockP (s : Sy) (ws : List Nat) : List P2 := (List.range s.works.length).map fun w => slotP s (ws.idxOf w)
theorem even_wk {s : Sy} (h : EvSy s) {i : Nat} (hi : i < s.works.length) : wkAt s i = ⟨lenA s, [], rangeI 0 s.hands.length⟩ := by
  obtain ⟨l, hl⟩ := h.works
  have g : ∀ j, j < s.works.length → wkAt s j = ⟨l, [], rangeI 0 s.hands.length⟩ := fun j hj => hl _ (List.mem_of_getElem? (wk_get hj))
  unfold lenA
  rw [g i hi, g 0 (by omega)]
theorem even_row {s : Sy} (h : EvSy s) (k : Int) : rowOf s k = [] := by
  unfold rowOf
  cases e : atI s.hands k with
  | none => rfl
  | some r =>
    have : r ∈ s.hands := by
      unfold atI at e
      cases e2 : ixN s.hands.length k with
      | none => rw [e2] at e; cases e
      | some j => rw [e2] at e; exact List.mem_of_getElem? e
    exact h.hands r this
end
theorem block_at {s : Sy} {ws : List Nat} {w : Nat} {p : P2} (h : (blockP s ws)[w]? = some p) : w < s.works.length ∧ p = slotP s (ws.idxOf w) := by
  unfold blockP at h
  rw [List.getElem?_map] at h
  cases e : (List.range s.works.length)[w]? with
  | none => rw [e] at h; cases h
  | some x =>
    rw [e] at h
    have := List.getElem?_eq_some_iff.mp e
    obtain ⟨h1, h2⟩ := this
    rw [List.getElem_range] at h2
    subst h2
    rw [List.length_range] at h1
    cases h
    exact ⟨h1, rfl⟩
theorem slot_day {s : Sy} {i : Nat} {D : Int} (hh : 0 < s.hands.length) (hl : 0 < lenA s) (h0 : 0 ≤ D) (h : (i : Int) + 1 ≤ roomF s D) : 0 ≤ (slotP s i).1 ∧ (slotP s i).1 + lenA s ≤ D ∧ 0 ≤ (slotP s i).2 ∧ (slotP s i).2 < s.hands.length := by
  unfold roomF at h
  unfold slotP
  dsimp only
  have hH : (0 : Int) < s.hands.length := by omega
  have m1 := Int.emod_nonneg (i : Int) (show (s.hands.length : Int) ≠ 0 by omega)
  have m2 := Int.emod_lt_of_pos (i : Int) hH
  have q0 : 0 ≤ (i : Int) / (s.hands.length : Int) := Int.ediv_nonneg (by omega) (by omega)
  have hlt : (i : Int) / (s.hands.length : Int) < D / lenA s := by
    rw [Int.ediv_lt_iff_lt_mul hH, Int.mul_comm]
    omega
  have h3 : ((i : Int) / (s.hands.length : Int) + 1) * lenA s ≤ D / lenA s * lenA s := Int.mul_le_mul_of_nonneg_right (by omega) (by omega)
  have h4 : D / lenA s * lenA s ≤ D := Int.ediv_mul_le D (by omega)
  rw [Int.add_mul, Int.one_mul] at h3
  exact ⟨Int.mul_nonneg q0 (by omega), by omega, m1, m2⟩
theorem slot_apart {s : Sy} {i j : Nat} (hh : 0 < s.hands.length) (hl : 0 < lenA s) (h2 : (slotP s i).2 = (slotP s j).2) (h1 : (slotP s i).1 < (slotP s j).1 + lenA s) (h3 : (slotP s j).1 < (slotP s i).1 + lenA s) : i = j := by
  unfold slotP at h1 h2 h3
  dsimp only at h1 h2 h3
  have e1 := Int.mul_ediv_add_emod (i : Int) (s.hands.length : Int)
  have e2 := Int.mul_ediv_add_emod (j : Int) (s.hands.length : Int)
  have g1 : (i : Int) / (s.hands.length : Int) < (j : Int) / (s.hands.length : Int) + 1 := by
    apply Classical.byContradiction
    intro z
    have := Int.mul_le_mul_of_nonneg_right (show (j : Int) / (s.hands.length : Int) + 1 ≤ (i : Int) / (s.hands.length : Int) by omega) (show 0 ≤ lenA s by omega)
    rw [Int.add_mul, Int.one_mul] at this
    omega
  have g2 : (j : Int) / (s.hands.length : Int) < (i : Int) / (s.hands.length : Int) + 1 := by
    apply Classical.byContradiction
    intro z
    have := Int.mul_le_mul_of_nonneg_right (show (i : Int) / (s.hands.length : Int) + 1 ≤ (j : Int) / (s.hands.length : Int) by omega) (show 0 ≤ lenA s by omega)
    rw [Int.add_mul, Int.one_mul] at this
    omega
  have g3 : (i : Int) / (s.hands.length : Int) = (j : Int) / (s.hands.length : Int) := by omega
  rw [g3, h2] at e1
  omega
theorem clF_even {s : Sy} (h : EvSy s) {i j : Nat} (hi : i < s.works.length) (hj : j < s.works.length) (p q : P2) : clF i j (wkAt s i) (wkAt s j) p q = (p.2 == q.2 && decide (p.1 < q.1 + lenA s) && decide (q.1 < p.1 + lenA s)) := by
  rw [even_wk h hi, even_wk h hj]
  unfold clF behF
  simp
theorem okP_even {s : Sy} (h : EvSy s) {i : Nat} (hi : i < s.works.length) (p : P2) : okP s (wkAt s i) p = true ↔ (0 ≤ p.1 ∧ p.1 + lenA s ≤ s.days) ∧ 0 ≤ p.2 ∧ p.2 < s.hands.length := by
  rw [okP_iff, even_wk h hi, even_row h]
  dsimp only
  have e : (rangeI 0 s.hands.length).any (· == p.2) = true ↔ 0 ≤ p.2 ∧ p.2 < s.hands.length := by
    rw [anyI_mem, mem_rangeI]
    omega
  rw [e]
  constructor
  · rintro ⟨h1, h2, h3, _⟩
    exact ⟨by omega, h3⟩
  · rintro ⟨h1, h2⟩
    exact ⟨by omega, by omega, h2, fun _ h => nomatch h⟩
theorem block_plan {s : Sy} (h : EvSy s) (hs : S30 s) (hw : 0 < s.works.length) {ws : List Nat} (hp : ws.Perm (List.range s.works.length)) (hr : (s.works.length : Int) ≤ roomF s s.days) : IsPlan s (blockP s ws) := by
  have hl := (lenA_pos hs hw).1
  have hd := hs.days
  have hh : 0 < s.hands.length := by have := hs.hands; omega
  have hidx : ∀ w, w < s.works.length → ws.idxOf w < s.works.length := fun w hw => by
    have := List.idxOf_lt_length_iff.mpr (hp.mem_iff.mpr (List.mem_range.mpr hw))
    rwa [hp.length_eq, List.length_range] at this
  refine ⟨by unfold blockP; rw [List.length_map, List.length_range], fun i p hi => ?_, fun j k q p hjk hj hk => ?_⟩
  · obtain ⟨h1, rfl⟩ := block_at hi
    rw [okP_even h h1]
    have := hidx i h1
    obtain ⟨a, b, c, d⟩ := slot_day (D := s.days) (i := ws.idxOf i) hh hl (by omega) (by omega)
    exact ⟨⟨a, b⟩, c, d⟩
  · obtain ⟨h1, rfl⟩ := block_at hj
    obtain ⟨h2, rfl⟩ := block_at hk
    rw [clF_even h h1 h2, Bool.eq_false_iff]
    intro e
    rw [Bool.and_eq_true, Bool.and_eq_true, beq_iff_eq, decide_eq_true_iff, decide_eq_true_iff] at e
    have := slot_apart hh hl e.1.1 e.1.2 e.2
    have hj2 := hp.mem_iff.mpr (List.mem_range.mpr h1)
    have hk2 := hp.mem_iff.mpr (List.mem_range.mpr h2)
    have e1 := List.getElem_idxOf (List.idxOf_lt_length_iff.mpr hj2)
    have e2 := List.getElem_idxOf (List.idxOf_lt_length_iff.mpr hk2)
    have : j = k := by
      rw [← e1, ← e2]
      congr 1
    omega
theorem nodup_le {α : Type} [DecidableEq α] {xs : List α} {ys : List α} (hn : xs.Nodup) (h : ∀ x ∈ xs, x ∈ ys) : xs.length ≤ ys.length := List.Nodup.length_le_of_subset hn h
theorem plan_room {s : Sy} (h : EvSy s) (hs : S30 s) (hw : 0 < s.works.length) {ps : List P2} (hp : IsPlan s ps) {D : Int} (h0 : 0 ≤ D) {ws : List Nat} (hn : ws.Nodup) (hm : ∀ w ∈ ws, ∃ p, ps[w]? = some p ∧ p.1 + lenA s ≤ D) : (ws.length : Int) ≤ roomF s D := by
  have hl := (lenA_pos hs hw).1
  have hq := div_le h0 hl
  obtain ⟨q, eq⟩ : ∃ q : Nat, D / lenA s = (q : Int) := ⟨(D / lenA s).toNat, by omega⟩
  have key : (ws.map fun w => (((ps[w]?).getD (0, 0)).2.toNat, (((ps[w]?).getD (0, 0)).1 / lenA s).toNat)).length ≤ ((List.range s.hands.length).flatMap fun a => (List.range q).map fun b => (a, b)).length := by
    refine nodup_le ?_ ?_
    · rw [List.Nodup, List.pairwise_map]
      refine List.Pairwise.imp_of_mem (fun {w v} hwm hvm hne e => ?_) hn
      obtain ⟨p, ep, h1⟩ := hm w hwm
      obtain ⟨r, er, h2⟩ := hm v hvm
      rw [ep, er] at e
      simp only [Option.getD_some, Prod.mk.injEq] at e
      have hwl : w < s.works.length := by rw [← hp.len]; exact (List.getElem?_eq_some_iff.mp ep).1
      have hvl : v < s.works.length := by rw [← hp.len]; exact (List.getElem?_eq_some_iff.mp er).1
      have o1 := (okP_even h hwl p).mp (hp.way w p ep)
      have o2 := (okP_even h hvl r).mp (hp.way v r er)
      have e2 : p.2 = r.2 := by omega
      have d1 : 0 ≤ p.1 / lenA s := Int.ediv_nonneg o1.1.1 (by omega)
      have d2 : 0 ≤ r.1 / lenA s := Int.ediv_nonneg o2.1.1 (by omega)
      have e3 : p.1 / lenA s = r.1 / lenA s := by omega
      have g1 := Int.mul_ediv_add_emod p.1 (lenA s)
      have g2 := Int.mul_ediv_add_emod r.1 (lenA s)
      have m1 := Int.emod_nonneg p.1 (show lenA s ≠ 0 by omega)
      have m2 := Int.emod_lt_of_pos p.1 hl
      have m3 := Int.emod_nonneg r.1 (show lenA s ≠ 0 by omega)
      have m4 := Int.emod_lt_of_pos r.1 hl
      rw [e3] at g1
      have cl : ∀ {a b : Nat} {x y : P2}, a < b → a < s.works.length → b < s.works.length → ps[a]? = some x → ps[b]? = some y → x.2 = y.2 → x.1 < y.1 + lenA s → y.1 < x.1 + lenA s → False := fun {a b x y} hab ha hb ea eb c1 c2 c3 => by
        have := hp.ok a b x y hab ea eb
        rw [clF_even h ha hb, c1, beq_self_eq_true, decide_eq_true c2, decide_eq_true c3] at this
        cases this
      rcases Nat.lt_or_gt_of_ne hne with z | z
      · exact cl z hwl hvl ep er e2 (by omega) (by omega)
      · exact cl z hvl hwl er ep e2.symm (by omega) (by omega)
    · intro x hx
      obtain ⟨w, hwm, rfl⟩ := List.mem_map.mp hx
      obtain ⟨p, ep, h1⟩ := hm w hwm
      have hwl : w < s.works.length := by rw [← hp.len]; exact (List.getElem?_eq_some_iff.mp ep).1
      have o1 := (okP_even h hwl p).mp (hp.way w p ep)
      rw [ep]
      simp only [Option.getD_some]
      rw [List.mem_flatMap]
      refine ⟨p.2.toNat, List.mem_range.mpr (by omega), List.mem_map.mpr ⟨_, List.mem_range.mpr ?_, rfl⟩⟩
      have : p.1 / lenA s < D / lenA s := by
        have h3 : (p.1 + lenA s) / lenA s ≤ D / lenA s := Int.ediv_le_ediv hl h1
        rw [Int.add_ediv_of_dvd_right (Int.dvd_refl _), Int.ediv_self (by omega)] at h3
        omega
      have d1 : 0 ≤ p.1 / lenA s := Int.ediv_nonneg o1.1.1 (by omega)
      omega
  rw [List.length_map] at key
  have e : ((List.range s.hands.length).flatMap fun a => (List.range q).map fun b => (a, b)).length = s.hands.length * q := by
    rw [List.length_flatMap]
    simp [List.map_const', List.sum_replicate_nat]
  rw [e] at key
  unfold roomF
  rw [eq]
  exact_mod_cast key
theorem wishes_map (s : Sy) : s.wishes = (List.range s.wishes.length).map (wsAt s) := by
  refine List.ext_getElem (by rw [List.length_map, List.length_range]) fun i h1 h2 => ?_
  rw [List.getElem_map, List.getElem_range]
  unfold wsAt
  rw [List.getElem?_eq_getElem h1]
  rfl
theorem perm_range {n : Nat} {G : List Nat} (hn : G.Nodup) (hl : ∀ k ∈ G, k < n) : G.Perm ((List.range n).filter fun k => decide (k ∈ G)) := by
  rw [List.perm_ext_iff_of_nodup hn (List.nodup_range.sublist List.filter_sublist)]
  intro k
  rw [List.mem_filter, List.mem_range, decide_eq_true_iff]
  exact ⟨fun h => ⟨hl k h, h⟩, fun h => h.2⟩
theorem kp_perm {s : Sy} {ps : List P2} {G : List Nat} (hn : G.Nodup) (hl : ∀ k ∈ G, k < s.wishes.length) (hk : ∀ k, k < s.wishes.length → kpF s ps (wsAt s k) = decide (k ∈ G)) : (kpL s ps).Perm (G.map (wsAt s)) := by
  have e : kpL s ps = ((List.range s.wishes.length).filter fun k => decide (k ∈ G)).map (wsAt s) := by
    unfold kpL
    rw [wishes_map s, List.filter_map]
    rw [← wishes_map s]
    congr 1
    refine List.filter_congr fun k hk2 => ?_
    exact hk k (List.mem_range.mp hk2)
  rw [e]
  exact (perm_range hn hl).symm.map _
theorem cnt_nb {s : Sy} {G : List Nat} (k : Nat) (D : Int) : cntF (G.map (wsAt s)) (wsAt s k) D = nbTo s G k D := by
  unfold cntF nbTo
  rw [← List.countP_eq_length_filter, List.countP_map]
  refine List.countP_congr fun j _ => ?_
  show (if lowF (wsAt s j) (wsAt s k) = true then decide ((wsAt s j).day ≤ D) else false) = true ↔ _
  unfold dayK
  cases lowF (wsAt s j) (wsAt s k) <;> simp
theorem cnt_perm {a b : List Ws} (h : a.Perm b) (u : Ws) (D : Int) : cntF a u D = cntF b u D := by
  unfold cntF
  rw [← List.countP_eq_length_filter, ← List.countP_eq_length_filter]
  exact h.countP_eq _
theorem dayOk_perm {s : Sy} {a b : List Ws} (h : a.Perm b) (k : Nat) (D : Int) : dayOkF s a k D = dayOkF s b k D := by
  unfold dayOkF
  rw [cnt_perm h]
theorem left_eq {s : Sy} {ps : List P2} : leftL s ps = (List.range s.wishes.length).filter fun k => !kpF s ps (wsAt s k) := by
  unfold leftL
  have e : s.wishes.zipIdx = (List.range s.wishes.length).map fun k => (wsAt s k, k) := by
    refine List.ext_getElem (by rw [List.length_zipIdx, List.length_map, List.length_range]) fun i h1 h2 => ?_
    rw [List.getElem_zipIdx, List.getElem_map, List.getElem_range]
    rw [List.length_zipIdx] at h1
    unfold wsAt
    rw [List.getElem?_eq_getElem h1]
    simp
  rw [e, List.filter_map, List.map_map]
  conv => rhs; rw [← List.map_id ((List.range s.wishes.length).filter fun k => !kpF s ps (wsAt s k))]
  rfl
/-- a plan that keeps just what is taken -/
structure Keep (s : Sy) (G : List Nat) (ps : List P2) : Prop where
  tk : Taken s G
  pl : IsPlan s ps
  kp : ∀ k, k < s.wishes.length → kpF s ps (wsAt s k) = decide (k ∈ G)
theorem Keep.left {s : Sy} {G : List Nat} {ps : List P2} (h : Keep s G ps) : leftL s ps = (List.range s.wishes.length).filter fun k => !decide (k ∈ G) := by
  rw [left_eq]
  refine List.filter_congr fun k hk => ?_
  rw [h.kp k (List.mem_range.mp hk)]
theorem Keep.perm {s : Sy} {G : List Nat} {ps : List P2} (h : Keep s G ps) : (kpL s ps).Perm (G.map (wsAt s)) := kp_perm h.tk.nd h.tk.lt h.kp
theorem Keep.day {s : Sy} {G : List Nat} {ps : List P2} (h : Keep s G ps) {k : Nat} (hk : k < s.wishes.length) (hg : k ∉ G) : ∃ D, dayK s k ≤ D ∧ D ≤ s.days ∧ dayOkF s (G.map (wsAt s)) k D = true := by
  obtain ⟨D, h1, _, h3, h4⟩ := h.tk.out k hk hg
  refine ⟨D, h1, h3, ?_⟩
  unfold dayOkF
  rw [cnt_nb, h4]
  exact beq_self_eq_true _
theorem Keep.fulls {s : Sy} {G : List Nat} {ps : List P2} (h : Keep s G ps) {k : Nat} (hk : k < s.wishes.length) (hg : k ∉ G) : fullsF s ps k ≠ [] := by
  obtain ⟨D, h1, h2, h3⟩ := h.day hk hg
  have : (fullsF s ps k).any (· == D) = true := by
    rw [fulls_any, dayOk_perm h.perm, h3, Bool.and_true, decide_eq_true_iff]
    exact ⟨h1, h2⟩
  intro e
  rw [e] at this
  cases this
theorem Keep.paper {s : Sy} {G : List Nat} {ps : List P2} (h : Keep s G ps) {qs : List (Nat × Int)} (hq : qs.map (·.1) = (List.range s.wishes.length).filter fun k => !decide (k ∈ G)) (hd : ∀ x ∈ qs, dayK s x.1 ≤ x.2 ∧ x.2 ≤ s.days ∧ dayOkF s (G.map (wsAt s)) x.1 x.2 = true) :
    PapIs s ps (qs.map fun x => .tup [.int (x.1 : Nat), .int x.2]) := by
  refine ⟨h.pl, by rw [List.length_map, h.left, ← hq, List.length_map], ?_⟩
  rw [h.left, ← hq]
  intro x hx
  obtain ⟨i, hi, e⟩ := List.mem_iff_getElem.mp hx
  rw [List.getElem_zip, List.getElem_map, List.getElem_map] at e
  have hil : i < qs.length := by rw [List.length_zip, List.length_map, List.length_map] at hi; omega
  obtain ⟨g1, g2, g3⟩ := hd qs[i] (List.getElem_mem hil)
  subst e
  have c1 : fromF (.int (qs[i].1 : Nat)) (qs[i].1 : Nat) (qs[i].1 : Nat) = true := fromF_iff.mpr ⟨_, rfl, Int.le_refl _, Int.le_refl _⟩
  have c2 : fromF (.int qs[i].2) (wsAt s qs[i].1).day s.days = true := fromF_iff.mpr ⟨_, rfl, g1, g2⟩
  show pairD s (kpL s ps) qs[i].1 (.tup [.int (qs[i].1 : Nat), .int qs[i].2]) = true
  show (if fromF (.int (qs[i].1 : Nat)) (qs[i].1 : Nat) (qs[i].1 : Nat) = true then (if fromF (.int qs[i].2) (wsAt s qs[i].1).day s.days = true then dayOkF s (kpL s ps) qs[i].1 qs[i].2 else false) else false) = true
  rw [c1, c2, if_pos rfl, if_pos rfl, dayOk_perm h.perm]
  exact g3
def restW (s : Sy) (first : List Nat) : List Nat := (List.range s.works.length).filter fun w => !first.any (· == w)
def ordW (s : Sy) (first : List Nat) : List Nat := first ++ restW s first
theorem any_mem_nat {f : List Nat} {i : Nat} : f.any (· == i) = true ↔ i ∈ f := by
  rw [List.any_eq_true]
  exact ⟨fun ⟨x, h, e⟩ => by rw [beq_iff_eq] at e; rwa [← e], fun h => ⟨i, h, beq_self_eq_true _⟩⟩
theorem ordW_perm {s : Sy} {first : List Nat} (hn : first.Nodup) (hl : ∀ w ∈ first, w < s.works.length) : (ordW s first).Perm (List.range s.works.length) := by
  have hr : ∀ w, w ∈ restW s first ↔ w < s.works.length ∧ w ∉ first := fun w => by
    unfold restW
    rw [List.mem_filter, List.mem_range, Bool.not_eq_true', Bool.eq_false_iff]
    exact and_congr_right fun _ => not_congr any_mem_nat
  unfold ordW
  rw [List.perm_ext_iff_of_nodup ?_ List.nodup_range]
  · intro w
    rw [List.mem_append, hr, List.mem_range]
    constructor
    · rintro (h | h)
      · exact hl w h
      · exact h.1
    · intro h
      by_cases hw : w ∈ first
      · exact .inl hw
      · exact .inr ⟨h, hw⟩
  · rw [List.nodup_append]
    refine ⟨hn, List.nodup_range.sublist List.filter_sublist, fun a ha b hb e => ?_⟩
    subst e
    exact ((hr a).mp hb).2 ha
def duesOf (s : Sy) (G : List Nat) : List (Int × Int) := G.map fun k => (dayK s k, (wsAt s k).work)
def firstW (dw : List (Int × Int)) : List Nat := dw.map fun x => x.2.toNat
theorem work_lt {s : Sy} (hs : S30 s) {k : Nat} (hk : k < s.wishes.length) : 0 ≤ (wsAt s k).work ∧ workK s k < s.works.length := by
  have := (hs.wish _ (ws_at hk).2).work
  unfold workK
  omega
theorem work_inj {s : Sy} (h : EvSy s) {i j : Nat} (hi : i < s.wishes.length) (hj : j < s.wishes.length) (e : (wsAt s i).work = (wsAt s j).work) : i = j := by
  have hn := h.nd
  have e1 : wsAt s i = s.wishes[i] := by unfold wsAt; rw [List.getElem?_eq_getElem hi]; rfl
  have e2 : wsAt s j = s.wishes[j] := by unfold wsAt; rw [List.getElem?_eq_getElem hj]; rfl
  rw [e1, e2] at e
  apply Classical.byContradiction
  intro hne
  have hn2 := List.pairwise_iff_getElem.mp hn
  have li : i < (s.wishes.map (·.work)).length := by rw [List.length_map]; exact hi
  have lj : j < (s.wishes.map (·.work)).length := by rw [List.length_map]; exact hj
  rcases Nat.lt_or_gt_of_ne hne with z | z
  · exact hn2 i j li lj z (by rw [List.getElem_map, List.getElem_map]; exact e)
  · exact hn2 j i lj li z (by rw [List.getElem_map, List.getElem_map]; exact e.symm)
theorem works_nd {s : Sy} (h : EvSy s) (hs : S30 s) {G : List Nat} (hn : G.Nodup) (hl : ∀ k ∈ G, k < s.wishes.length) : (G.map (workK s)).Nodup := by
  rw [List.Nodup, List.pairwise_map]
  refine List.Pairwise.imp_of_mem (fun {a b} ha hb hne e => hne ?_) hn
  have h1 := work_lt hs (hl a ha)
  have h2 := work_lt hs (hl b hb)
  unfold workK at e
  exact work_inj h (hl a ha) (hl b hb) (by omega)
theorem first_nd {s : Sy} (h : EvSy s) (hs : S30 s) {G : List Nat} (hn : G.Nodup) (hl : ∀ k ∈ G, k < s.wishes.length) {dw : List (Int × Int)} (hp : dw.Perm (duesOf s G)) : (firstW dw).Nodup ∧ ∀ w ∈ firstW dw, w < s.works.length := by
  have hp2 : (firstW dw).Perm (G.map (workK s)) := by
    have := hp.map fun x : Int × Int => x.2.toNat
    unfold duesOf at this
    rw [List.map_map] at this
    exact this
  refine ⟨hp2.nodup_iff.mpr (works_nd h hs hn hl), fun w hw => ?_⟩
  obtain ⟨k, hk, rfl⟩ := List.mem_map.mp (hp2.mem_iff.mp hw)
  exact (work_lt hs (hl k hk)).2
theorem due_slot {s : Sy} {G : List Nat} (hf : Feas s G) (h0 : ∀ k ∈ G, 0 ≤ dayK s k ∧ dayK s k ≤ s.days) {dw : List (Int × Int)} (hp : dw.Perm (duesOf s G)) (hs : dw.Pairwise LexLe) {i : Nat} {x : Int × Int} (hi : dw[i]? = some x) : (i : Int) + 1 ≤ roomF s x.1 := by
  have hx : x ∈ duesOf s G := hp.mem_iff.mp (List.mem_of_getElem? hi)
  obtain ⟨k, hk, rfl⟩ := List.mem_map.mp hx
  have hd := h0 k hk
  have h1 := hf (dayK s k) hd.1 hd.2
  have h2 : upTo s G (dayK s k) = dw.countP fun y => decide (y.1 ≤ dayK s k) := by
    rw [hp.countP_eq]
    unfold upTo duesOf
    rw [List.countP_map]
    rfl
  have hil := (List.getElem?_eq_some_iff.mp hi).1
  have h3 : i + 1 ≤ dw.countP fun y => decide (y.1 ≤ dayK s k) := by
    have e : dw = dw.take (i + 1) ++ dw.drop (i + 1) := (List.take_append_drop _ _).symm
    rw [e, List.countP_append]
    have : (dw.take (i + 1)).countP (fun y => decide (y.1 ≤ dayK s k)) = (dw.take (i + 1)).length := by
      rw [List.countP_eq_length]
      intro y hy
      obtain ⟨j, hj, e⟩ := List.mem_iff_getElem.mp hy
      rw [List.length_take] at hj
      rw [List.getElem_take] at e
      rw [decide_eq_true_iff]
      have ei := (List.getElem?_eq_some_iff.mp hi).2
      by_cases hji : j = i
      · subst hji
        rw [← e, ei]
        exact Int.le_refl _
      · have := List.pairwise_iff_getElem.mp hs j i (by omega) hil (by omega)
        rw [e, ei] at this
        unfold LexLe at this
        dsimp only at this
        omega
    rw [this, List.length_take]
    omega
  show (i : Int) + 1 ≤ roomF s (dayK s k)
  omega
theorem block_wayOf {s : Sy} (hs : S30 s) {k : Nat} (hk : k < s.wishes.length) {ws : List Nat} : wayOf (blockP s ws) (wsAt s k) = slotP s (ws.idxOf (workK s k)) := by
  have := (work_lt hs hk).2
  unfold wayOf blockP
  show ((List.map _ _)[workK s k]?).getD (0, 0) = _
  rw [List.getElem?_map, List.getElem?_range this]
  rfl
theorem kpF_iff {s : Sy} (h : EvSy s) (hs : S30 s) {ps : List P2} {k : Nat} (hk : k < s.wishes.length) : kpF s ps (wsAt s k) = decide ((wayOf ps (wsAt s k)).1 + lenA s ≤ dayK s k) := by
  unfold kpF keptF
  have e1 : ((wsAt s k).kind == 0) = false := by rw [h.kind _ (ws_at hk).2]; rfl
  have e2 : (wkAt s (wsAt s k).work.toNat).len = lenA s := by rw [even_wk h (show (wsAt s k).work.toNat < s.works.length from (work_lt hs hk).2)]
  rw [e1, if_neg Bool.false_ne_true, e2]
  rfl
theorem kept_few {s : Sy} (h : EvSy s) (hs : S30 s) {ps : List P2} (hp : IsPlan s ps) {F : List Nat} (hn : F.Nodup) (hl : ∀ k ∈ F, k < s.wishes.length) (hk : ∀ k ∈ F, kpF s ps (wsAt s k) = true) {D : Int} (h0 : 0 ≤ D) (hd : ∀ k ∈ F, dayK s k ≤ D) (hw : 0 < s.works.length) : (F.length : Int) ≤ roomF s D := by
  have := plan_room h hs hw hp h0 (works_nd h hs hn hl) fun w hw => by
    obtain ⟨k, hkm, rfl⟩ := List.mem_map.mp hw
    have hwl := (work_lt hs (hl k hkm)).2
    have h1 := hk k hkm
    rw [kpF_iff h hs (hl k hkm), decide_eq_true_iff] at h1
    have e : ps[workK s k]? = some (wayOf ps (wsAt s k)) := by
      unfold wayOf
      show ps[workK s k]? = some ((ps[workK s k]?).getD (0, 0))
      rw [List.getElem?_eq_getElem (by rw [hp.len]; exact hwl)]
      rfl
    exact ⟨_, e, by have := hd k hkm; omega⟩
  rwa [List.length_map] at this
theorem idx_get {xs : List Nat} (hn : xs.Nodup) {i : Nat} (hi : i < xs.length) : xs.idxOf xs[i] = i := by
  have hm : xs[i] ∈ xs := List.getElem_mem hi
  have hl := List.idxOf_lt_length_iff.mpr hm
  have e := List.getElem_idxOf hl
  apply Classical.byContradiction
  intro hne
  have hn2 := List.pairwise_iff_getElem.mp hn
  rcases Nat.lt_or_gt_of_ne hne with z | z
  · exact hn2 _ _ hl hi z e
  · exact hn2 _ _ hi hl z e.symm
theorem keep_of {s : Sy} (h : EvSy s) (hs : S30 s) (hw : 0 < s.works.length) (hr : (s.works.length : Int) ≤ roomF s s.days) {G : List Nat} (hT : Taken s G) {dw : List (Int × Int)} (hp : dw.Perm (duesOf s G)) (hso : dw.Pairwise LexLe) : Keep s G (blockP s (ordW s (firstW dw))) := by
  have hday : ∀ k, k < s.wishes.length → 0 ≤ dayK s k ∧ dayK s k ≤ s.days := fun k hk => (hs.wish _ (ws_at hk).2).day
  obtain ⟨fn, fl⟩ := first_nd h hs hT.nd hT.lt hp
  have hpl := block_plan h hs hw (ordW_perm fn fl) hr
  have hl0 := (lenA_pos hs hw).1
  have hh : 0 < s.hands.length := by have := hs.hands; omega
  have hin : ∀ k ∈ G, kpF s (blockP s (ordW s (firstW dw))) (wsAt s k) = true := fun k hk => by
    have hkl := hT.lt k hk
    rw [kpF_iff h hs hkl, block_wayOf hs hkl, decide_eq_true_iff]
    have hx : (dayK s k, (wsAt s k).work) ∈ dw := hp.mem_iff.mpr (List.mem_map.mpr ⟨k, hk, rfl⟩)
    obtain ⟨i, hi⟩ := List.mem_iff_getElem?.mp hx
    have hil := (List.getElem?_eq_some_iff.mp hi).1
    have e : (ordW s (firstW dw)).idxOf (workK s k) = i := by
      unfold ordW
      have e1 : (firstW dw)[i]? = some (workK s k) := by unfold firstW; rw [List.getElem?_map, hi]; rfl
      have hil2 := (List.getElem?_eq_some_iff.mp e1).1
      rw [List.idxOf_append, if_pos (List.mem_of_getElem? e1), ← (List.getElem?_eq_some_iff.mp e1).2]
      exact idx_get fn hil2
    rw [e]
    exact (slot_day hh hl0 (hday k hkl).1 (due_slot hT.feas (fun k hk => hday k (hT.lt k hk)) hp hso hi)).2.1
  refine ⟨hT, hpl, fun k hk => ?_⟩
  by_cases hg : k ∈ G
  · rw [decide_eq_true hg]; exact hin k hg
  · rw [decide_eq_false hg, Bool.eq_false_iff]
    intro hkp
    obtain ⟨D, h1, h2, h3, h4⟩ := hT.out k hk hg
    have hF := kept_few h hs hpl (F := k :: G.filter fun j => lowF (wsAt s j) (wsAt s k) && decide (dayK s j ≤ D)) (List.nodup_cons.mpr ⟨fun z => hg (List.mem_filter.mp z).1, hT.nd.sublist List.filter_sublist⟩)
      (fun j hj => by
        rcases List.mem_cons.mp hj with e | hj
        · rw [e]; exact hk
        · exact hT.lt j (List.mem_filter.mp hj).1)
      (fun j hj => by
        rcases List.mem_cons.mp hj with e | hj
        · rw [e]; exact hkp
        · exact hin j (List.mem_filter.mp hj).1)
      h2
      (fun j hj => by
        rcases List.mem_cons.mp hj with e | hj
        · rw [e]; exact h1
        · have := (List.mem_filter.mp hj).2
          rw [Bool.and_eq_true, decide_eq_true_iff] at this
          exact this.2) hw
    rw [List.length_cons, ← List.countP_eq_length_filter] at hF
    unfold nbTo at h4
    omega
def encO : Option P2 → D
  | none => .non
  | some p => encP p
theorem range_nat (n : Nat) : rangeD 0 n = (List.range n).map natE := by
  unfold rangeD natE
  refine List.map_congr_left fun i _ => ?_
  rw [Int.zero_add]
theorem enum_wishes (s : Sy) : enumD (s.wishes.map Ws.d) = (List.range s.wishes.length).map fun k => .tup [.int (k : Nat), (wsAt s k).d] := by
  rw [enum_map]
  have e : s.wishes.zipIdx = (List.range s.wishes.length).map fun k => (wsAt s k, k) := by
    refine List.ext_getElem (by rw [List.length_zipIdx, List.length_map, List.length_range]) fun i h1 h2 => ?_
    rw [List.getElem_zipIdx, List.getElem_map, List.getElem_range]
    rw [List.length_zipIdx] at h1
    unfold wsAt
    rw [List.getElem?_eq_getElem h1]
    simp
  rw [e, List.map_map]
  rfl
def w_f_law_may_1 : DT := wTest (wOp dLe (wOp dIx (wOp dIx (wOp dIx (wVar 0) (wC (.int 3))) (wVar 3)) (wC (.int 2))) (wVar 2))
def w_f_law_may_2 : DS := wIf (wTest (wOp dGt (wCB bLen (wCons (wComp false (iSeq (wVar 1)) (.nm 3) w_f_law_may_1 (wVar 3) [3]) (wNil))) (wCall S_f_law_room (wCons (wVar 0) (wCons (wVar 2) (wNil)))))) (wRet (wC (.bl false))) ((fun D env st => D.nx env st))
def w_f_law_may : DS := wSeq (wFor (iRange1 (wCons (wOp dAdd (wOp dIx (wVar 0) (wC (.int 0))) (wC (.int 1))) (wNil))) (gNm 2) w_f_law_may_2) (wRet (wC (.bl true)))
noncomputable def S_f_law_may : DL.Spec := pureS 2 (fun x : Sy × List Nat => [x.1.d, .lst (x.2.map natE)]) (fun x => S30 x.1 ∧ 0 < x.1.works.length ∧ (∀ k ∈ x.2, k < x.1.wishes.length) ∧ x.2.length ≤ 100000) (fun x => .bl (tr (Feas x.1 x.2)))
theorem vc_f_law_may : ∀ g sto, (S_f_law_may.args g).length = S_f_law_may.n → S_f_law_may.pre g sto → w_f_law_may (bodyEnds (S_f_law_may.post g sto)) (startE ["_law_system", "_law_places", "_law_day", "_law_place"] (S_f_law_may.args g)) sto := by
  rintro ⟨s, G⟩ sto _ ⟨hs, hw, hG, hl⟩
  dsimp only at hs hw hG hl
  have hdd := hs.days
  simp? only [w_f_law_may, S_f_law_may, pureS, wFor]
  refine ⟨by omega, ?_⟩
  refine forL_inv (fun i e st => ∃ x2, e = [some s.d, some (.lst (G.map natE)), x2, none] ∧ (∀ D, 0 ≤ D → D < (i : Int) → ((upTo s G D : Nat) : Int) ≤ roomF s D) ∧ sto = st) ?_ ?_ _ _ ⟨_, rfl, (fun D h0 h1 => by omega), rfl⟩
  · rintro i e st d ⟨x2, rfl, hi, rfl⟩ he R hR
    obtain ⟨hid, rfl⟩ := rangeD_at he
    have hid2 : (i : Int) ≤ s.days := by omega
    refine ⟨trivial, ?_⟩
    simp? only [w_f_law_may_2, wComp, wipeE, Int.zero_add]
    refine ⟨(by (try simp only [List.length_map, List.length_append, List.length_cons, List.length_nil, List.length_zipIdx, List.length_zip, List.length_range, Int.toNat_natCast, rangeD_len]); rw [sizeLine_eq]; omega), ?_⟩
    refine compL_flt natE (fun k => decide (dayK s k ≤ i)) id natE trivial _ (fun k hk R2 hR2 => ?_) ?_
    · simp? only [Tg.dg, w_f_law_may_1, natE, atI_map (ws_at (hG k hk)).1, ws_ix2]
      unfold dayK at hR2
      by_cases h : (wsAt s k).day ≤ i
      · rw [decide_eq_true h, if_pos rfl] at hR2
        rw [if_pos h]
        exact hR2
      · rw [decide_eq_false h, if_neg Bool.false_ne_true] at hR2
        rw [if_neg h]
        exact hR2
    · rw [List.map_id]
      (try simp? only [true_and])
      refine use_pure (s, (i : Int)) rfl rfl ⟨hs, hw, by show (0 : Int) ≤ i; omega, by show (i : Int) ≤ 1000; omega⟩ ?_
      (try simp? only [true_and])
      have e : (G.filter fun k => decide (dayK s k ≤ i)).length = upTo s G i := by unfold upTo; rw [List.countP_eq_length_filter]
      rw [e]
      by_cases h : roomF s i < ((upTo s G i : Nat) : Int)
      · rw [if_pos h]
        (try refine ⟨rfl, ?_⟩)
        rw [tr_false fun hf => by have := hf i (by omega) hid2; omega]
      · rw [if_neg h]
        refine hR _ _ ⟨_, rfl, fun D h0 h1 => ?_, rfl⟩
        by_cases hD : D < (i : Int)
        · exact hi D h0 hD
        · rw [show D = (i : Int) by omega]
          omega
  · rintro e st ⟨x2, rfl, hi, rfl⟩
    refine ⟨trivial, ?_⟩
    rw [rangeD_len] at hi
    (try refine ⟨rfl, ?_⟩)
    rw [tr_true (show Feas s G from fun D h0 h1 => hi D h0 (by omega))]
def keyR (s : Sy) (i j : Nat) : Prop := (wsAt s i).rank < (wsAt s j).rank ∨ ((wsAt s i).rank = (wsAt s j).rank ∧ ((wsAt s j).weight < (wsAt s i).weight ∨ ((wsAt s i).weight = (wsAt s j).weight ∧ i < j)))
theorem keyR_low {s : Sy} {i j : Nat} (h : keyR s i j) : lowF (wsAt s i) (wsAt s j) = true := by
  unfold keyR at h
  unfold lowF
  by_cases h1 : (wsAt s i).rank < (wsAt s j).rank
  · rw [if_pos h1]
  · rw [if_neg h1, if_pos (beq_iff_eq.mpr (by omega)), decide_eq_true_iff]
    omega
theorem ord_of {s : Sy} {os : List Nat} (hp : os.Pairwise (keyR s)) (hm : ∀ k, k ∈ os ↔ k < s.wishes.length) : OrdOk s os := by
  have hn : os.Nodup := hp.imp fun {i j} h e => by
    subst e
    unfold keyR at h
    omega
  refine ⟨(List.perm_ext_iff_of_nodup hn List.nodup_range).mpr fun k => by rw [hm, List.mem_range], hp.imp keyR_low⟩
def atRW (s : Sy) (r w : Int) : List Nat := (List.range s.wishes.length).filter fun k => (wsAt s k).rank == r && (wsAt s k).weight == w
def downI (hi : Int) (n : Nat) : List Int := (List.range n).map fun (i : Nat) => hi - i
def lowO (s : Sy) : List Nat := (rangeI 0 4).flatMap fun r => (downI 100 100).flatMap fun w => atRW s r w
theorem mem_downI {hi x : Int} {n : Nat} : x ∈ downI hi n ↔ hi - n < x ∧ x ≤ hi := by
  unfold downI
  rw [List.mem_map]
  constructor
  · rintro ⟨i, hi, rfl⟩
    rw [List.mem_range] at hi
    omega
  · rintro ⟨h1, h2⟩
    exact ⟨(hi - x).toNat, List.mem_range.mpr (by omega), by omega⟩
theorem mem_at {s : Sy} {r w : Int} {k : Nat} : k ∈ atRW s r w ↔ k < s.wishes.length ∧ (wsAt s k).rank = r ∧ (wsAt s k).weight = w := by
  unfold atRW
  rw [List.mem_filter, List.mem_range, Bool.and_eq_true, beq_iff_eq, beq_iff_eq]
theorem lowO_key {s : Sy} : (lowO s).Pairwise (keyR s) := by
  · unfold lowO
    rw [List.pairwise_flatMap]
    refine ⟨fun r _ => ?_, ?_⟩
    · rw [List.pairwise_flatMap]
      refine ⟨fun w _ => ?_, ?_⟩
      · refine List.Pairwise.imp_of_mem (fun {i j} hi hj h => ?_) (List.pairwise_lt_range.sublist List.filter_sublist)
        have hi := mem_at.mp hi
        have hj := mem_at.mp hj
        unfold keyR
        omega
      · unfold downI
        rw [List.pairwise_map]
        refine List.pairwise_lt_range.imp fun {a b} h x hx y hy => ?_
        have hx := mem_at.mp hx
        have hy := mem_at.mp hy
        unfold keyR
        omega
    · unfold rangeI
      rw [List.pairwise_map]
      refine List.pairwise_lt_range.imp fun {a b} h x hx y hy => ?_
      rw [List.mem_flatMap] at hx hy
      obtain ⟨w1, _, hx⟩ := hx
      obtain ⟨w2, _, hy⟩ := hy
      have hx := mem_at.mp hx
      have hy := mem_at.mp hy
      unfold keyR
      omega
theorem lowO_mem {s : Sy} (hs : S30 s) (k : Nat) : k ∈ lowO s ↔ k < s.wishes.length := by
  · unfold lowO
    rw [List.mem_flatMap]
    constructor
    · rintro ⟨r, _, h⟩
      rw [List.mem_flatMap] at h
      obtain ⟨w, _, h⟩ := h
      exact (mem_at.mp h).1
    · intro hk
      have hu := hs.wish _ (ws_at hk).2
      have g1 := hu.rank
      have g2 := hu.weight
      refine ⟨(wsAt s k).rank, mem_rangeI.mpr (by omega), ?_⟩
      rw [List.mem_flatMap]
      exact ⟨(wsAt s k).weight, mem_downI.mpr (by omega), mem_at.mpr ⟨hk, rfl, rfl⟩⟩
noncomputable def stK (s : Sy) (r w : Int) (acc : List Nat) (k : Nat) : List Nat := if ((wsAt s k).rank == r && (wsAt s k).weight == w) = true then takeS s acc k else acc
noncomputable def stW (s : Sy) (r : Int) (acc : List Nat) (w : Int) : List Nat := (List.range s.wishes.length).foldl (stK s r w) acc
noncomputable def stR (s : Sy) (acc : List Nat) (r : Int) : List Nat := (downI 100 100).foldl (stW s r) acc
theorem lowO_ok {s : Sy} (hs : S30 s) : OrdOk s (lowO s) := ord_of lowO_key (lowO_mem hs)
theorem lowO_fold (s : Sy) : takeF s (lowO s) = (rangeI 0 4).foldl (stR s) [] := by
  unfold takeF lowO
  rw [List.foldl_flatMap]
  congr 1
  funext acc r
  rw [List.foldl_flatMap]
  unfold stR
  congr 1
  funext acc w
  unfold atRW stW stK
  rw [List.foldl_filter]
theorem v_addR2 {n : Nat} {ds : List D} {b : D} {st : Sto} {Q : DK} (h : st[n]? = some (.lst ds)) : dAdd (.ref n) b st Q = dAdd (.lst ds) b st Q := by
  unfold dAdd
  rw [rd_ref' h]
  rfl
theorem blwL_nats (n : Nat) : ∀ ks : List Nat, D.blwL n (ks.map natE) = true
  | [] => rfl
  | k :: r => by rw [List.map_cons, D.blwL, blwL_nats n r]; rfl
theorem blw_nats (n : Nat) (ks : List Nat) : D.blw n (.lst (ks.map natE)) = true := by simp only [D.blw, blwL_nats]
def w_f_law_taken_1 : DS := wIf (wAnd (wTest (wOp dEq (wOp dIx (wVar 5) (wC (.int 4))) (wVar 2))) (wAnd (wTest (wOp dEq (wOp dIx (wVar 5) (wC (.int 3))) (wVar 3))) (wTest (wCall S_f_law_may (wCons (wVar 0) (wCons (wOp dAdd (wVar 1) (wLst false (wCons (wVar 4) (wNil)))) (wNil))))))) (wDrop (wM mAppend (wVar 1) (wCons (wVar 4) (wNil)))) ((fun D env st => D.nx env st))
def w_f_law_taken_2 : DS := wFor (iEnum (wOp dIx (wVar 0) (wC (.int 3)))) (gTp 2 (gCn (gNm 4) (gCn (gNm 5) gNl))) w_f_law_taken_1
def w_f_law_taken_3 : DS := wFor (iRange3 (wCons (wC (.int 100)) (wCons (wC (.int 0)) (wCons (wNeg (wC (.int 1))) (wNil))))) (gNm 3) w_f_law_taken_2
def w_f_law_taken : DS := wSeq (wAsg (wLst true (wNil)) (gNm 1)) (wSeq (wFor (iRange1 (wCons (wC (.int 4)) (wNil))) (gNm 2) w_f_law_taken_3) (wRet (wFrz 1)))
noncomputable def S_f_law_taken : DL.Spec := pureS 1 (fun s : Sy => [s.d]) S30 (fun s => .lst ((takeF s (lowO s)).map natE))
theorem vc_f_law_taken : ∀ g sto, (S_f_law_taken.args g).length = S_f_law_taken.n → S_f_law_taken.pre g sto → w_f_law_taken (bodyEnds (popEnds sto.length sto (S_f_law_taken.post g sto))) (startE ["_law_system", "_law_found", "_law_rank", "_law_weight", "_law_place", "_law_wish"] (S_f_law_taken.args g)) sto := by
  rintro (s : Sy) sto _ (hs : S30 s)
  have hul := hs.wishes
  have z1 : 1 ≤ sizeLine := by decide
  simp? only [w_f_law_taken, S_f_law_taken, pureS, wFor]
  refine ⟨Nat.zero_le _, by decide, ?_⟩
  rw [rangeD_eq, lowO_fold]
  refine forL_fold D.int (stR s) (fun i acc e st => ∃ x2 x3 x4 x5, e = [some s.d, some (.ref sto.length), x2, x3, x4, x5] ∧ st = sto ++ [.lst (acc.map natE)] ∧ (∀ j ∈ acc, j < s.wishes.length) ∧ acc.length ≤ i * 10000) _ [] _ _ ?_ ?_ ⟨_, _, _, _, rfl, rfl, (fun j (h : j ∈ ([] : List Nat)) => nomatch h), Nat.zero_le _⟩
  · rintro i acc r e st hi hr ⟨x2, x3, x4, x5, rfl, rfl, hacc, hal⟩ R hR
    have hi : i < 4 := by rw [rangeI_len] at hi; exact hi
    refine ⟨trivial, ?_⟩
    simp? only [w_f_law_taken_2, w_f_law_taken_3, v_rg3, wFor]
    refine ⟨by decide, ?_⟩
    rw [show downD 100 (Int.toNat (100 - 0)) = (downI 100 100).map D.int from by unfold downD downI; rw [List.map_map]; rfl]
    refine forL_fold D.int (stW s r) (fun j acc2 e st => ∃ x3 x4 x5, e = [some s.d, some (.ref sto.length), some (.int r), x3, x4, x5] ∧ st = sto ++ [.lst (acc2.map natE)] ∧ (∀ j ∈ acc2, j < s.wishes.length) ∧ acc2.length ≤ i * 10000 + j * 100) _ acc _ _ ?_ ?_ ⟨_, _, _, rfl, rfl, hacc, by omega⟩
    · rintro j acc2 w e st hj hw ⟨x3, x4, x5, rfl, rfl, hacc2, hal2⟩ R2 hR2
      have hj : j < 100 := by unfold downI at hj; rw [List.length_map, List.length_range] at hj; exact hj
      refine ⟨trivial, ?_⟩
      simp? only [w_f_law_taken_2, wFor]
      rw [enum_wishes]
      refine forL_fold (fun k => .tup [.int (k : Nat), (wsAt s k).d]) (stK s r w) (fun m acc3 e st => ∃ x4 x5, e = [some s.d, some (.ref sto.length), some (.int r), some (.int w), x4, x5] ∧ st = sto ++ [.lst (acc3.map natE)] ∧ (∀ j ∈ acc3, j < s.wishes.length) ∧ acc3.length ≤ i * 10000 + j * 100 + m) _ acc2 _ _ ?_ ?_ ⟨_, _, rfl, rfl, hacc2, by omega⟩
      · rintro m acc3 k e st hm hk ⟨x4, x5, rfl, rfl, hacc3, hal3⟩ R3 hR3
        have hk := List.mem_range.mp hk
        rw [List.length_range] at hm
        have hw0 : 0 < s.works.length := by have := (hs.wish _ (ws_at hk).2).work; omega
        refine ⟨trivial, ?_⟩
        unfold stK at hR3
        simp? only [w_f_law_taken_1, ws_ix3, ws_ix4]
        have stay : ∀ x4 x5, ((wsAt s k).rank == r && (wsAt s k).weight == w) = false → R3 [some s.d, some (.ref sto.length), some (.int r), some (.int w), x4, x5] (sto ++ [.lst (acc3.map natE)]) := fun x4 x5 h => hR3 _ _ ⟨x4, x5, rfl, by rw [h, if_neg Bool.false_ne_true], by rw [h, if_neg Bool.false_ne_true]; exact hacc3, by rw [h, if_neg Bool.false_ne_true]; omega⟩
        cases h1 : ((wsAt s k).rank == r) with
        | false =>
          rw [if_neg Bool.false_ne_true]
          exact stay _ _ (by rw [h1]; rfl)
        | true =>
          rw [if_pos rfl]
          cases h2 : ((wsAt s k).weight == w) with
          | false =>
            rw [if_neg Bool.false_ne_true]
            exact stay _ _ (by rw [h1, h2]; rfl)
          | true =>
            rw [if_pos rfl, v_addR2 (get_last _ _), v_addL]
            refine ⟨z1, (by (try simp only [List.length_map, List.length_append, List.length_cons, List.length_nil, List.length_zipIdx, List.length_zip, List.length_range, Int.toNat_natCast, rangeD_len]); rw [sizeLine_eq]; omega), ?_⟩
            have eA : acc3.map natE ++ [D.int (k : Nat)] = (acc3 ++ [k]).map natE := by rw [List.map_append]; rfl
            rw [eA]
            have hall : ∀ j ∈ acc3 ++ [k], j < s.wishes.length := fun j hj => by
              rcases List.mem_append.mp hj with h | h
              · exact hacc3 j h
              · rw [List.mem_singleton] at h; omega
            refine use_pure (s, acc3 ++ [k]) rfl rfl ⟨hs, hw0, hall, by rw [List.length_append, List.length_singleton]; omega⟩ ?_
            rw [h1, h2] at hR3
            have eT : (if (true && true) = true then takeS s acc3 k else acc3) = takeS s acc3 k := rfl
            rw [eT] at hR3
            unfold takeS at hR3
            refine ⟨_, rfl, ?_⟩
            cases h3 : tr (Feas s (acc3 ++ [k])) with
            | true =>
              rw [h3, if_pos rfl] at hR3
              rw [if_pos rfl]
              simp? only [v_app (get_last _ _), set_last, rd_ref' (get_last _ _)]
              exact ⟨(by (try simp only [List.length_map, List.length_append, List.length_cons, List.length_nil, List.length_zipIdx, List.length_zip, List.length_range, Int.toNat_natCast, rangeD_len]); rw [sizeLine_eq]; omega), hR3 _ _ ⟨_, _, rfl, by rw [List.map_append]; rfl, hall, by rw [List.length_append, List.length_singleton]; omega⟩⟩
            | false =>
              rw [h3, if_neg Bool.false_ne_true] at hR3
              rw [if_neg Bool.false_ne_true]
              exact hR3 _ _ ⟨_, _, rfl, rfl, hacc3, by omega⟩
      · rintro e st ⟨x4, x5, rfl, rfl, hacc3, hal3⟩
        rw [List.length_range] at hal3
        exact ⟨trivial, hR2 _ _ ⟨_, _, _, rfl, rfl, hacc3, by rw [show stW s r acc2 w = (List.range s.wishes.length).foldl (stK s r w) acc2 from rfl]; omega⟩⟩
    · rintro e st ⟨x3, x4, x5, rfl, rfl, hacc2, hal2⟩
      have : (downI 100 100).length = 100 := by unfold downI; rw [List.length_map, List.length_range]
      rw [this] at hal2
      exact ⟨trivial, hR _ _ ⟨_, _, _, _, rfl, rfl, hacc2, by rw [show stR s acc r = (downI 100 100).foldl (stW s r) acc from rfl]; omega⟩⟩
  · rintro e st ⟨x2, x3, x4, x5, rfl, rfl, hacc, hal⟩
    refine ⟨trivial, ?_⟩
    simp? only [wFrz]
    refine ⟨_, _, rfl, get_last _ _, ?_⟩
    rw [set_last]
    exact ⟨sto, _, rfl, rfl, blw_nats _ _, fun i c h => .inl h, rfl, rfl⟩
theorem any_cast (ks : List Nat) (w : Nat) : (ks.map fun (k : Nat) => (k : Int)).any (· == (w : Int)) = ks.any (· == w) := by
  rw [List.any_map]
  congr 1
  funext k
  show ((k : Int) == (w : Int)) = (k == w)
  rw [Bool.eq_iff_iff, beq_iff_eq, beq_iff_eq]
  omega
theorem nats_ints (ks : List Nat) : ks.map natE = (ks.map fun (k : Nat) => (k : Int)).map .int := by rw [List.map_map]; rfl
theorem v_inNat {w : Nat} {ks : List Nat} {f : Bool → Bool} {st : Sto} {Q : DK} (q : Q (.bl (f (ks.any (· == w)))) st) : dInB f (.int (w : Nat)) (.lst (ks.map natE)) st Q := by
  rw [nats_ints]
  refine dIn_ints ?_
  rw [any_cast]
  exact q
def gvB (s : Sy) (ws : List Nat) (i : Nat) : List (Option P2) := (List.range s.works.length).map fun w => if ws.idxOf w < i then some (slotP s (ws.idxOf w)) else none
theorem gvB_zero (s : Sy) (ws : List Nat) : gvB s ws 0 = List.replicate s.works.length none := by
  unfold gvB
  refine List.ext_getElem (by rw [List.length_map, List.length_range, List.length_replicate]) fun i h1 h2 => ?_
  rw [List.getElem_map, List.getElem_replicate, if_neg (by omega)]
theorem gvB_succ {s : Sy} {ws : List Nat} (hn : ws.Nodup) {i w : Nat} (hi : ws[i]? = some w) : (gvB s ws i).set w (some (slotP s i)) = gvB s ws (i + 1) := by
  have hil := (List.getElem?_eq_some_iff.mp hi).1
  have e : ws.idxOf w = i := by
    rw [← (List.getElem?_eq_some_iff.mp hi).2]
    exact idx_get hn hil
  unfold gvB
  refine List.ext_getElem (by rw [List.length_set, List.length_map, List.length_map]) fun j h1 h2 => ?_
  rw [List.getElem_set, List.getElem_map, List.getElem_map, List.getElem_range]
  by_cases hj : w = j
  · subst hj
    rw [if_pos rfl, e, if_pos (by omega)]
  · rw [if_neg hj]
    have hne : ws.idxOf j ≠ i := fun h => by
      by_cases hm : j ∈ ws
      · have := List.getElem_idxOf (List.idxOf_lt_length_iff.mpr hm)
        simp only [h] at this
        rw [(List.getElem?_eq_some_iff.mp hi).2] at this
        exact hj this
      · have := List.idxOf_eq_length hm
        omega
    by_cases hl : ws.idxOf j < i
    · rw [if_pos hl, if_pos (by omega)]
    · rw [if_neg hl, if_neg (by omega)]
theorem gvB_all {s : Sy} {ws : List Nat} (hp : ws.Perm (List.range s.works.length)) : (gvB s ws s.works.length).map encO = (blockP s ws).map encP := by
  unfold gvB blockP
  rw [List.map_map, List.map_map]
  refine List.map_congr_left fun w hw => ?_
  have : ws.idxOf w < s.works.length := by
    have := List.idxOf_lt_length_iff.mpr (hp.mem_iff.mpr hw)
    rwa [hp.length_eq, List.length_range] at this
  show encO (if ws.idxOf w < s.works.length then some (slotP s (ws.idxOf w)) else none) = _
  rw [if_pos this]
  show encO (some (slotP s (ws.idxOf w))) = encP (slotP s (ws.idxOf w))
  rfl
def w_f_law_blocks_1 : DT := wTest (wOp dNotIn (wVar 5) (wVar 1))
def w_f_law_blocks_2 : DS := wAsg (wTup (wCons (wOp dMul (wOp dFdiv (wVar 4) (wCB bLen (wCons (wOp dIx (wVar 0) (wC (.int 1))) (wNil)))) (wOp dIx (wOp dIx (wOp dIx (wVar 0) (wC (.int 2))) (wC (.int 0))) (wC (.int 0)))) (wCons (wOp dMod (wVar 4) (wCB bLen (wCons (wOp dIx (wVar 0) (wC (.int 1))) (wNil)))) (wNil)))) (gSet (wVar 3) (wVar 5))
def w_f_law_blocks : DS := wSeq (wAsg (wOp dAdd (wVar 1) (wComp false (iRange1 (wCons (wCB bLen (wCons (wOp dIx (wVar 0) (wC (.int 2))) (wNil))) (wNil))) (.nm 5) w_f_law_blocks_1 (wVar 5) [5])) (gNm 2)) (wSeq (wAsg (wOp dMulM (wLst false (wCons (wC .non) (wNil))) (wCB bLen (wCons (wVar 2) (wNil)))) (gNm 3)) (wSeq (wFor (iEnum (wVar 2)) (gTp 2 (gCn (gNm 4) (gCn (gNm 5) gNl))) w_f_law_blocks_2) (wRet (wCB bTuple (wCons (wVar 3) (wNil))))))
def S_f_law_blocks : DL.Spec := pureS 2 (fun x : Sy × List Nat => [x.1.d, .lst (x.2.map natE)]) (fun x => S30 x.1 ∧ x.2.Nodup ∧ ∀ w ∈ x.2, w < x.1.works.length) (fun x => encR (blockP x.1 (ordW x.1 x.2)))
theorem vc_f_law_blocks : ∀ g sto, (S_f_law_blocks.args g).length = S_f_law_blocks.n → S_f_law_blocks.pre g sto → w_f_law_blocks (bodyEnds (popEnds sto.length sto (S_f_law_blocks.post g sto))) (startE ["_law_system", "_law_first", "_law_works", "_law_found", "_law_place", "_law_work"] (S_f_law_blocks.args g)) sto := by
  rintro ⟨s, f⟩ sto _ ⟨hs, hn, hl⟩
  dsimp only at hs hn hl
  have z1 : 1 ≤ sizeLine := by decide
  have z2 : 2 ≤ sizeLine := by decide
  have hwl := hs.works
  have hh := hs.hands
  have hp := ordW_perm hn hl
  have hlen : (ordW s f).length = s.works.length := by rw [hp.length_eq, List.length_range]
  have hfl : f.length ≤ s.works.length := by
    have : (ordW s f).length = f.length + (restW s f).length := List.length_append
    omega
  have hon : (ordW s f).Nodup := hp.nodup_iff.mpr List.nodup_range
  simp?! only [w_f_law_blocks, S_f_law_blocks, pureS, wComp, wipeE, wFor]
  refine seq_cut (fun e st => e = [some s.d, some (.lst (f.map natE)), some (.lst ((ordW s f).map natE)), none, none, none] ∧ sto = st) (fun K hK => ?_) ?_
  · (try simp?! only [true_and])
    rw [range_nat]
    refine ⟨by omega, (by (try simp only [List.length_map, List.length_append, List.length_cons, List.length_nil, List.length_zipIdx, List.length_zip, List.length_range, Int.toNat_natCast, rangeD_len]); rw [sizeLine_eq]; omega), ?_⟩
    refine compL_flt natE (fun w => !f.any (· == w)) id natE trivial _ (fun w hw R hR => ?_) ?_
    · simp? only [Tg.dg, w_f_law_blocks_1, natE]
      refine v_inNat ?_
      cases h : f.any (· == w) with
      | true => rw [h] at hR; exact ⟨_, rfl, hR⟩
      | false => rw [h] at hR; exact ⟨_, rfl, hR⟩
    · rw [List.map_id]
      (try simp? only [true_and])
      have hr : (restW s f).length ≤ s.works.length := by
        have : (ordW s f).length = f.length + (restW s f).length := List.length_append
        omega
      have eR : (List.range s.works.length).filter (fun w => !f.any (· == w)) = restW s f := rfl
      (try rw [v_addL])
      simp only [Int.toNat_natCast, eR]
      refine ⟨(by (try simp only [List.length_map, List.length_append, List.length_cons, List.length_nil, List.length_zipIdx, List.length_zip, List.length_range, Int.toNat_natCast, rangeD_len]); rw [sizeLine_eq]; omega), ?_⟩
      rw [← List.map_append]
      exact hK _ _ ⟨rfl, rfl⟩
  rintro e st ⟨rfl, rfl⟩
  (try simp?! only [true_and])
  simp? only [dMulM]
  rw [nats_ints, ← nats_ints]
  refine ⟨z1, _, _, rfl, rfl, by omega, by omega, by rw [List.length_singleton, Int.toNat_natCast, sizeLine_eq]; omega, ?_⟩
  rw [flat_one, Int.toNat_natCast, hlen, enum_map]
  have hg : ∀ i, (gvB s (ordW s f) i).length = s.works.length := fun i => by unfold gvB; rw [List.length_map, List.length_range]
  refine forL_inv (fun i e st => ∃ x4 x5, e = [some s.d, some (.lst (f.map natE)), some (.lst ((ordW s f).map natE)), some (.ref sto.length), x4, x5] ∧ st = sto ++ [.lst ((gvB s (ordW s f) i).map encO)]) ?_ ?_ _ _ ⟨_, _, rfl, by rw [gvB_zero, List.map_replicate]; rfl⟩
  · rintro i e st d ⟨x4, x5, rfl, rfl⟩ he R hR
    rw [List.getElem?_map] at he
    cases hy : (ordW s f).zipIdx[i]? with
    | none => rw [hy] at he; cases he
    | some y =>
      rw [hy] at he
      cases he
      have hz : (ordW s f)[i]? = some y.1 ∧ y.2 = i := by
        rw [List.getElem?_zipIdx] at hy
        cases h : (ordW s f)[i]? with
        | none => rw [h] at hy; cases hy
        | some w => rw [h] at hy; cases hy; exact ⟨rfl, by simp⟩
      have hw : y.1 < s.works.length := List.mem_range.mp (hp.mem_iff.mp (List.mem_of_getElem? hz.1))
      have hwl0 := (lenA_pos hs (by omega : 0 < s.works.length))
      have hat : atI s.works 0 = some (wkAt s 0) := wk_at (i := 0) (by omega)
      refine ⟨trivial, ?_⟩
      simp? only [w_f_law_blocks_2, natE, atI_map hat]
      have hq : 0 ≤ (y.2 : Int) / (s.hands.length : Int) ∧ (y.2 : Int) / (s.hands.length : Int) ≤ y.2 := ⟨Int.ediv_nonneg (by omega) (by omega), Int.ediv_le_self _ (by omega)⟩
      have hgl := hg i
      have hyi : y.2 < s.works.length := by have := (List.getElem?_eq_some_iff.mp hz.1).1; rw [hlen] at this; rw [hz.2]; exact this
      refine ⟨⟨by omega, by omega⟩, .inl ⟨by unfold lenA at hwl0; omega, by unfold lenA at hwl0; omega⟩, by omega, z2, ?_⟩
      simp? only [gSet]
      refine ⟨sto.length, _, (y.1 : Int), y.1, rfl, rfl, get_last _ _, ?_, ?_⟩
      · unfold ixN
        rw [if_pos (by omega), if_pos (by rw [List.length_map]; omega)]
        (try rw [Int.toNat_natCast])
      · rw [set_last]
        have e3 : ((gvB s (ordW s f) i).map encO).set y.1 (D.tup [.int ((y.2 : Int) / (s.hands.length : Int) * (wkAt s 0).len), .int ((y.2 : Int) % (s.hands.length : Int))]) = (gvB s (ordW s f) (i + 1)).map encO := by
          rw [← gvB_succ hon hz.1, List.map_set, hz.2]
          rfl
        rw [e3]
        exact hR _ _ ⟨_, _, rfl, rfl⟩
  · rintro e st ⟨x4, x5, rfl, rfl⟩
    rw [List.length_map, List.length_zipIdx, hlen]
    refine ⟨trivial, ?_⟩
    simp? only [v_tupL (rd_ref' (get_last _ _))]
    rw [gvB_all hp]
    exact ⟨sto, _, rfl, rfl, blw_encP _ _, fun i c h => .inl h, rfl, rfl⟩
def RoomOk (s : Sy) : Prop := s.works.length = 0 ∨ (s.works.length : Int) ≤ roomF s s.days
theorem no_wish {s : Sy} (hs : S30 s) (h : s.works.length = 0) : s.wishes.length = 0 := by
  cases e : s.wishes with
  | nil => rfl
  | cons u r =>
    have := (hs.wish u (by rw [e]; exact List.mem_cons_self)).work
    omega
theorem feas_none {s : Sy} (hs : S30 s) (h : s.works.length = 0) : Feas s [] := fun D h0 _ => by
  show (0 : Int) ≤ roomF s D
  unfold roomF lenA wkAt
  rw [List.getElem?_eq_none (by omega)]
  simp
theorem taken_law {s : Sy} (hs : S30 s) {os : List Nat} (ho : OrdOk s os) : Taken s (takeF s os) := by
  by_cases hw : s.works.length = 0
  · have hn := no_wish hs hw
    have e : os = [] := by
      have := ho.perm.length_eq
      rw [hn, List.length_range] at this
      exact List.eq_nil_of_length_eq_zero this
    subst e
    exact ⟨List.nodup_nil, (fun k h => nomatch h), feas_none hs hw, fun k hk => by omega⟩
  · exact taken_of hs (by omega) ho
theorem keep_law {s : Sy} (h : EvSy s) (hs : S30 s) (hr : RoomOk s) {G : List Nat} (hT : Taken s G) {dw : List (Int × Int)} (hp : dw.Perm (duesOf s G)) (hso : dw.Pairwise LexLe) : Keep s G (blockP s (ordW s (firstW dw))) := by
  by_cases hw : s.works.length = 0
  · have hn := no_wish hs hw
    refine ⟨hT, ⟨by unfold blockP; rw [List.length_map, List.length_range], fun i p hi => ?_, fun j k q p _ hj => ?_⟩, fun k hk => by omega⟩
    · have := (block_at hi).1
      omega
    · have := (block_at hj).1
      omega
  · rcases hr with hr | hr
    · exact absurd hr hw
    · exact keep_of h hs (by omega) hr hT hp hso
def pairQ (x : Nat × Int) : D := .tup [.int (x.1 : Nat), .int x.2]
def outG (G : List Nat) (n : Nat) : List Nat := (List.range n).filter fun k => !decide (k ∈ G)
def QsOk (s : Sy) (G : List Nat) (qs : List (Nat × Int)) (n : Nat) : Prop := qs.map (·.1) = outG G n ∧ ∀ x ∈ qs, dayK s x.1 ≤ x.2 ∧ x.2 ≤ s.days ∧ dayOkF s (G.map (wsAt s)) x.1 x.2 = true
theorem qs_len {s : Sy} {G : List Nat} {qs : List (Nat × Int)} {n : Nat} (h : QsOk s G qs n) : qs.length ≤ n := by
  have := congrArg List.length h.1
  rw [List.length_map] at this
  unfold outG at this
  have h2 := List.length_filter_le (fun k => !decide (k ∈ G)) (List.range n)
  rw [List.length_range] at h2
  omega
theorem blw_pq (n : Nat) (ps : List P2) (qs : List (Nat × Int)) : D.blw n (.tup [encR ps, .tup (qs.map pairQ)]) = true := by
  have h2 : D.blw n (encR ps) = true := blw_encP n ps
  have h3 : ∀ qs : List (Nat × Int), D.blwL n (qs.map pairQ) = true := fun qs => by
    induction qs with
    | nil => rfl
    | cons x r ih => rw [List.map_cons, D.blwL, ih]; rfl
  show D.blwL n [encR ps, .tup (qs.map pairQ)] = true
  simp only [D.blwL, D.blw, h3, h2, Bool.and_self, Bool.and_true]
theorem out_succ (G : List Nat) (n : Nat) : outG G (n + 1) = outG G n ++ (if n ∈ G then [] else [n]) := by
  unfold outG
  rw [List.range_succ, List.filter_append]
  congr 1
  by_cases h : n ∈ G
  · rw [if_pos h, List.filter_cons, decide_eq_true h]; rfl
  · rw [if_neg h, List.filter_cons, decide_eq_false h]; rfl
theorem Keep.mem_fulls {s : Sy} {G : List Nat} {ps : List P2} (h : Keep s G ps) {k : Nat} {v : Int} (hv : v ∈ fullsF s ps k) : dayK s k ≤ v ∧ v ≤ s.days ∧ dayOkF s (G.map (wsAt s)) k v = true := by
  have := anyI_mem.mpr hv
  rw [fulls_any, Bool.and_eq_true, decide_eq_true_iff, dayOk_perm h.perm] at this
  exact ⟨this.1.1, this.1.2, this.2⟩
def w_f_law_paper_1 : DE := wTup (wCons (wOp dIx (wOp dIx (wOp dIx (wVar 1) (wC (.int 3))) (wVar 6)) (wC (.int 2))) (wCons (wOp dIx (wOp dIx (wOp dIx (wVar 1) (wC (.int 3))) (wVar 6)) (wC (.int 0))) (wNil)))
def w_f_law_paper_2 : DS := wIf (wTest (wOp dNotIn (wVar 6) (wVar 2))) (wSeq (wAsg (wCall S_f_law_next (wCons (wVar 0) (wNil))) (gNm 7)) (wSeq (wAsg (wCall S_f_law_full_days (wCons (wVar 1) (wCons (wVar 4) (wCons (wVar 6) (wNil))))) (gNm 8)) (wDrop (wM mAppend (wVar 5) (wCons (wTup (wCons (wVar 6) (wCons (wOp dIx (wVar 8) (wOp dMod (wVar 7) (wCB bLen (wCons (wVar 8) (wNil))))) (wNil)))) (wNil)))))) ((fun D env st => D.nx env st))
def w_f_law_paper : DS := wSeq (wAsg (wCall S_f_law_taken (wCons (wVar 1) (wNil))) (gNm 2)) (wSeq (wAsg (wCB (bSortK false) (wCons (wComp false (iSeq (wVar 2)) (.nm 6) wYes w_f_law_paper_1 [6]) (wNil))) (gNm 3)) (wSeq (wAsg (wCall S_f_law_blocks (wCons (wVar 1) (wCons (wComp false (iSeq (wVar 3)) (.tp [9, 10]) wYes (wVar 10) [9, 10]) (wNil)))) (gNm 4)) (wSeq (wAsg (wLst true (wNil)) (gNm 5)) (wSeq (wFor (iRange1 (wCons (wCB bLen (wCons (wOp dIx (wVar 1) (wC (.int 3))) (wNil))) (wNil))) (gNm 6) w_f_law_paper_2) (wRet (wTup (wCons (wVar 4) (wCons (wCB bTuple (wCons (wVar 5) (wNil))) (wNil)))))))))
noncomputable def takG (s : Sy) : List Nat := takeF s (lowO s)
noncomputable def S_f_law_paper : DL.Spec := deckS 2 1000 (fun s : Sy => [s.d]) (fun s => EvSy s ∧ S30 s ∧ RoomOk s) fun s d => ∃ (ps : List P2) (qs : List (Nat × Int)), d = .tup [encR ps, .tup (qs.map pairQ)] ∧ Keep s (takG s) ps ∧ QsOk s (takG s) qs s.wishes.length
theorem vc_f_law_paper : ∀ g sto, (S_f_law_paper.args g).length = S_f_law_paper.n → S_f_law_paper.pre g sto → w_f_law_paper (bodyEnds (popEnds sto.length sto (S_f_law_paper.post g sto))) (startE ["_law_deck_here", "_law_system", "_law_taken_here", "_law_due", "_law_plan", "_law_fulls", "_law_place", "_law_number", "_law_days", "_law_day", "_law_work"] (S_f_law_paper.args g)) sto := by
  rintro ⟨rest, B, s⟩ sto _ ⟨hD, hB, hev, hs, hr⟩
  have hD0 := hD
  dsimp only at hD0 hD hB hev hs hr
  have z1 : 1 ≤ sizeLine := by decide
  have z2 : 2 ≤ sizeLine := by decide
  have hul := hs.wishes
  have hT : Taken s (takG s) := taken_law hs (lowO_ok hs)
  have hTl : (takG s).length ≤ s.wishes.length := by
    have := nodup_le hT.nd (ys := List.range s.wishes.length) fun k hk => List.mem_range.mpr (hT.lt k hk)
    rwa [List.length_range] at this
  simp?! only [w_f_law_paper, S_f_law_paper, deckS, wComp, wipeE, wFor]
  refine seq_go ?_
  (try simp?! only [true_and])
  refine use_pure s rfl rfl hs ?_
  show wSeq _ _ _ [some (.ref 2), some s.d, some (.lst ((takG s).map natE)), none, none, none, none, none, none, none, none] _
  refine seq_go ?_
  (try simp?! only [true_and])
  refine ⟨(by (try simp only [List.length_map, List.length_append, List.length_cons, List.length_nil, List.length_zipIdx, List.length_zip, List.length_range, Int.toNat_natCast, rangeD_len]); rw [sizeLine_eq]; omega), ?_⟩
  refine compL_all natE (fun k => (dayK s k, (wsAt s k).work)) dPair trivial _ (fun k hk R hR => ?_) ?_
  · have hat := atI_map (f := Ws.d) (ws_at (hT.lt k hk)).1
    simp? only [Tg.dg, wYes, w_f_law_paper_1, natE, hat, ws_ix2, ws_ix0]
    exact ⟨z2, hR⟩
  (try simp? only [true_and])
  refine Or.inl ⟨_, rfl, Or.inr ⟨duesOf s (takG s), rfl, fun dw hp hso => ?_⟩⟩
  have hk := keep_law hev hs hr hT hp hso
  obtain ⟨fn, fl⟩ := first_nd hev hs hT.nd hT.lt hp
  have hdl : dw.length ≤ s.wishes.length := by rw [hp.length_eq]; unfold duesOf; rw [List.length_map]; exact hTl
  (try simp? only [true_and])
  refine ⟨(by (try simp only [List.length_map, List.length_append, List.length_cons, List.length_nil, List.length_zipIdx, List.length_zip, List.length_range, Int.toNat_natCast, rangeD_len]); rw [sizeLine_eq]; omega), ?_⟩
  refine compL_all dPair (fun p => p.2.toNat) natE trivial _ (fun p hpm R hR => ?_) ?_
  · have hp0 : 0 ≤ p.2 := by
      obtain ⟨k, hkm, rfl⟩ := List.mem_map.mp (hp.mem_iff.mp hpm)
      exact (work_lt hs (hT.lt k hkm)).1
    have e : natE p.2.toNat = .int p.2 := by unfold natE; rw [Int.toNat_of_nonneg hp0]
    rw [e] at hR
    simp? only [Tg.dg, wYes, List.foldr_cons, List.foldr_nil]
    exact hR
  refine use_pure (s, firstW dw) rfl rfl ⟨hs, fn, fl⟩ ?_
  have hlen := hD.len
  rw [range_nat, hlen]
  refine ⟨Nat.zero_le _, by omega, ?_⟩
  generalize hps : blockP s (ordW s (firstW dw)) = ps at hk ⊢
  have hok : EvOk s := ⟨hs, hev.kind⟩
  (try dsimp only)
  (try rw [hps])
  rw [Int.toNat_natCast]
  refine forL_inv (fun i e st => ∃ (qs : List (Nat × Int)) (x6 x7 x8 : Option D), e = [some (.ref 2), some s.d, some (.lst ((takG s).map natE)), some (.lst (dw.map dPair)), some (encR ps), some (.ref (rest.length + 3)), x6, x7, x8, none, none] ∧ QsOk s (takG s) qs i ∧ Dk (B + i) (rest ++ [.lst (qs.map pairQ)]) st) ?_ ?_ _ _ ⟨[], _, _, _, rfl, ⟨rfl, (fun x (h : x ∈ ([] : List (Nat × Int))) => nomatch h)⟩, hD.push.mono (by omega)⟩
  · rintro i e st d ⟨qs, x6, x7, x8, rfl, hq, hD⟩ he R hR
    rw [List.getElem?_map] at he
    cases hi : (List.range s.wishes.length)[i]? with
    | none => rw [hi] at he; cases he
    | some j =>
      rw [hi] at he
      cases he
      obtain ⟨hil, hij⟩ := List.getElem?_eq_some_iff.mp hi
      rw [List.getElem_range] at hij
      subst hij
      rw [List.length_range] at hil
      have hql := qs_len hq
      refine ⟨trivial, ?_⟩
      simp?! only [w_f_law_paper_2, natE]
      refine v_inNat ?_
      refine ⟨_, rfl, ?_⟩
      by_cases hm : i ∈ takG s
      · rw [show (takG s).any (· == i) = true from any_mem_nat.mpr hm, if_neg (by decide)]
        exact hR _ _ ⟨qs, _, _, _, rfl, ⟨by rw [out_succ, if_pos hm, List.append_nil]; exact hq.1, hq.2⟩, hD.mono (by omega)⟩
      · rw [show (takG s).any (· == i) = false from by rw [Bool.eq_false_iff]; exact fun h => hm (any_mem_nat.mp h), if_pos (by decide)]
        refine seq_go ?_
        (try simp?! only [true_and])
        refine next_use hD (by omega) fun y st y0 y1 hD => ?_
        refine seq_go ?_
        (try simp?! only [true_and])
        refine use_pure (s, ps, i) rfl rfl ⟨hok, hil, hk.pl.len⟩ ?_
        have hne := hk.fulls hil hm
        have hpos : 0 < (fullsF s ps i).length := List.length_pos_iff.mpr hne
        have m1 := modb y (show (0 : Int) < ((fullsF s ps i).length : Int) by omega)
        obtain ⟨v, hv, hvm⟩ := pk (enc := D.int) (xs := fullsF s ps i) m1.1 m1.2
        (try simp?! only [true_and])
        simp? only [hv, v_app hD.top]
        refine ⟨⟨_, rd_ref' hD.top⟩, by omega, z2, (by (try simp only [List.length_map, List.length_append, List.length_cons, List.length_nil, List.length_zipIdx, List.length_zip, List.length_range, Int.toNat_natCast, rangeD_len]); rw [sizeLine_eq]; omega), ?_⟩
        refine hR _ _ ⟨qs ++ [(i, v)], _, _, _, rfl, ⟨by rw [List.map_append, hq.1, out_succ, if_neg hm]; rfl, fun x hx => ?_⟩, ?_⟩
        · rcases List.mem_append.mp hx with hx | hx
          · exact hq.2 x hx
          · rw [List.mem_singleton] at hx
            subst hx
            exact hk.mem_fulls hvm
        · rw [List.map_append]
          exact hD.put.mono (by omega)
  · rintro e st ⟨qs, x6, x7, x8, rfl, hq, hD⟩
    rw [List.length_map, List.length_range] at hq hD
    refine ⟨trivial, ?_⟩
    simp? only [v_tupL (rd_ref' hD.top)]
    refine ⟨z2, ?_⟩
    rw [← hlen]
    exact dk_pop hD0 hD (blw_pq _ ps qs) fun st1 h => ⟨⟨ps, qs, rfl, hk, hq⟩, h.mono (by omega)⟩
theorem sorted_ext {α : Type} {lt : α → α → Prop} (asym : ∀ a b, lt a b → lt b a → False) : ∀ {l m : List α}, l.Pairwise lt → m.Pairwise lt → (∀ a, a ∈ l ↔ a ∈ m) → l = m
  | [], [], _, _, _ => rfl
  | [], b :: m, _, _, h => absurd ((h b).mpr List.mem_cons_self) List.not_mem_nil
  | a :: l, [], _, _, h => absurd ((h a).mp List.mem_cons_self) List.not_mem_nil
  | a :: l, b :: m, hl, hm, h => by
    rw [List.pairwise_cons] at hl hm
    have e : a = b := by
      rcases List.mem_cons.mp ((h a).mp List.mem_cons_self) with e | h1
      · exact e
      · rcases List.mem_cons.mp ((h b).mpr List.mem_cons_self) with e | h2
        · exact e.symm
        · exact (asym a b (hl.1 b h2) (hm.1 a h1)).elim
    subst e
    have ih := sorted_ext asym hl.2 hm.2 fun x => by
      have hx := h x
      constructor
      · intro hx1
        rcases List.mem_cons.mp (hx.mp (List.mem_cons_of_mem _ hx1)) with e | h2
        · subst e; exact (asym x x (hl.1 x hx1) (hl.1 x hx1)).elim
        · exact h2
      · intro hx1
        rcases List.mem_cons.mp (hx.mpr (List.mem_cons_of_mem _ hx1)) with e | h2
        · subst e; exact (asym x x (hm.1 x hx1) (hm.1 x hx1)).elim
        · exact h2
    rw [ih]
theorem room_mono {s : Sy} {a b : Int} (hl : 0 < lenA s) (h : a ≤ b) : roomF s a ≤ roomF s b := by
  unfold roomF
  exact Int.mul_le_mul_of_nonneg_left (Int.ediv_le_ediv hl h) (by omega)
theorem fits_iff {s : Sy} (hl : 0 < lenA s) {G : List Nat} (hd : ∀ k ∈ G, 0 ≤ dayK s k ∧ dayK s k ≤ s.days) {ns : List Int} (hp : ns.Perm (G.map (dayK s))) (hs : ns.Pairwise (· ≤ ·)) :
    Feas s G ↔ ∀ (i : Nat) d, ns[i]? = some d → (i : Int) + 1 ≤ roomF s d := by
  have hc : ∀ D, upTo s G D = ns.countP fun d => decide (d ≤ D) := fun D => by
    rw [hp.countP_eq, List.countP_map]
    rfl
  constructor
  · intro hf i d hi
    have hil := (List.getElem?_eq_some_iff.mp hi).1
    have hdm := List.mem_of_getElem? hi
    obtain ⟨k, hk, e⟩ := List.mem_map.mp (hp.mem_iff.mp hdm)
    have hb := hd k hk
    rw [e] at hb
    have h1 := hf d hb.1 hb.2
    rw [hc] at h1
    have h3 : i + 1 ≤ ns.countP fun y => decide (y ≤ d) := by
      rw [(List.take_append_drop (i + 1) ns).symm, List.countP_append]
      have : (ns.take (i + 1)).countP (fun y => decide (y ≤ d)) = (ns.take (i + 1)).length := by
        rw [List.countP_eq_length]
        intro y hy
        obtain ⟨j, hj, e⟩ := List.mem_iff_getElem.mp hy
        rw [List.length_take] at hj
        rw [List.getElem_take] at e
        rw [decide_eq_true_iff]
        have ei := (List.getElem?_eq_some_iff.mp hi).2
        by_cases hji : j = i
        · subst hji; rw [← e, ei]; exact Int.le_refl _
        · have := List.pairwise_iff_getElem.mp hs j i (by omega) hil (by omega)
          rw [e, ei] at this
          exact this
      rw [this, List.length_take]
      omega
    omega
  · intro h D h0 h1
    rw [hc]
    obtain ⟨c, ec⟩ : ∃ c, c = ns.countP fun d => decide (d ≤ D) := ⟨_, rfl⟩
    rw [← ec]
    cases c with
    | zero =>
      have h2 := (div_le h0 hl).1
      unfold roomF
      exact Int.mul_nonneg (by omega) h2
    | succ c =>
      have hlen : c < ns.length := by have := List.countP_le_length (p := fun d => decide (d ≤ D)) (l := ns); omega
      have h2 := h c ns[c] (List.getElem?_eq_getElem hlen)
      have h3 : ns[c] ≤ D := by
        apply Classical.byContradiction
        intro hn
        have e : (ns.drop c).countP (fun d => decide (d ≤ D)) = 0 := by
          rw [List.countP_eq_zero]
          intro y hy
          obtain ⟨j, hj, e⟩ := List.mem_iff_getElem.mp hy
          rw [List.length_drop] at hj
          rw [List.getElem_drop] at e
          rw [decide_eq_true_iff]
          have : ns[c] ≤ y := by
            cases j with
            | zero => rw [← e]; exact Int.le_refl _
            | succ j =>
              have := List.pairwise_iff_getElem.mp hs c (c + (j + 1)) hlen (by omega) (by omega)
              rw [← e]; exact this
          omega
        have e2 : ns.countP (fun d => decide (d ≤ D)) = (ns.take c).countP (fun d => decide (d ≤ D)) + (ns.drop c).countP (fun d => decide (d ≤ D)) := by
          rw [← List.countP_append, List.take_append_drop]
        have e3 := List.countP_le_length (p := fun d => decide (d ≤ D)) (l := ns.take c)
        rw [List.length_take] at e3
        omega
      have := room_mono (s := s) hl h3
      omega
def w_p_do_fit_1 : DS := wIf (wTest (wOp dGt (wOp dAdd (wVar 2) (wC (.int 1))) (wCall S_p_room_up_to (wCons (wVar 0) (wCons (wVar 3) (wNil)))))) (wRet (wC (.bl false))) ((fun D env st => D.nx env st))
def w_p_do_fit : DS := wSeq (wFor (iEnum (wCB (bSortK false) (wCons (wVar 1) (wNil)))) (gTp 2 (gCn (gNm 2) (gCn (gNm 3) gNl))) w_p_do_fit_1) (wRet (wC (.bl true)))
noncomputable def S_p_do_fit : DL.Spec := pureS 2 (fun x : Sy × List Nat => [x.1.d, .lst ((x.2.map (dayK x.1)).map .int)]) (fun x => S30 x.1 ∧ 0 < x.1.works.length ∧ (∀ k ∈ x.2, k < x.1.wishes.length) ∧ x.2.length ≤ 1000) (fun x => .bl (tr (Feas x.1 x.2)))
theorem vc_p_do_fit : ∀ g sto, (S_p_do_fit.args g).length = S_p_do_fit.n → S_p_do_fit.pre g sto → w_p_do_fit (bodyEnds (S_p_do_fit.post g sto)) (startE ["system", "days", "place", "day"] (S_p_do_fit.args g)) sto := by
  rintro ⟨s, G⟩ sto _ ⟨hs, hw, hG, hl⟩
  dsimp only at hs hw hG hl
  have hl0 := (lenA_pos hs hw).1
  have hdd := hs.days
  have hday : ∀ k ∈ G, 0 ≤ dayK s k ∧ dayK s k ≤ s.days := fun k hk => (hs.wish _ (ws_at (hG k hk)).2).day
  simp? only [w_p_do_fit, S_p_do_fit, pureS, wFor]
  refine Or.inl ⟨_, rfl, Or.inl ⟨G.map (dayK s), rfl, fun ns hp hso => ?_⟩⟩
  have hiff := fits_iff hl0 hday hp hso
  have hnl : ns.length ≤ 1000 := by rw [hp.length_eq, List.length_map]; exact hl
  (try simp? only [true_and])
  rw [enum_map]
  refine forL_inv (fun i e st => (∃ x2 x3, e = [some s.d, some (.lst ((G.map (dayK s)).map .int)), x2, x3]) ∧ (∀ (j : Nat) d, j < i → ns[j]? = some d → (j : Int) + 1 ≤ roomF s d) ∧ sto = st) ?_ ?_ _ _ ⟨⟨_, _, rfl⟩, fun j d hj => absurd hj (Nat.not_lt_zero _), rfl⟩
  · rintro i e st d ⟨⟨x2, x3, rfl⟩, hj, rfl⟩ he R hR
    rw [List.getElem?_map] at he
    cases hy : ns.zipIdx[i]? with
    | none => rw [hy] at he; cases he
    | some y =>
      rw [hy] at he
      cases he
      have hz : ns[i]? = some y.1 ∧ y.2 = i := by
        rw [List.getElem?_zipIdx] at hy
        cases h : ns[i]? with
        | none => rw [h] at hy; cases hy
        | some w => rw [h] at hy; cases hy; exact ⟨rfl, by simp⟩
      obtain ⟨k, hk, e⟩ := List.mem_map.mp (hp.mem_iff.mp (List.mem_of_getElem? hz.1))
      have hb := hday k hk
      rw [e] at hb
      refine ⟨trivial, ?_⟩
      simp?! only [w_p_do_fit_1]
      refine use_pure (s, y.1) rfl rfl ⟨hs, hw, hb.1, by show y.1 ≤ 1000; omega⟩ ?_
      (try simp?! only [true_and])
      by_cases h : roomF s y.1 < (y.2 : Int) + 1
      · rw [if_pos h]
        (try refine ⟨rfl, ?_⟩)
        rw [tr_false fun hf => by have := hiff.mp hf i y.1 hz.1; rw [hz.2] at h; omega]
      · rw [if_neg h]
        refine hR _ _ ⟨⟨_, _, rfl⟩, fun j d hji hd => ?_, rfl⟩
        by_cases e1 : j < i
        · exact hj j d e1 hd
        · rw [show j = i by omega, hz.1] at hd
          cases hd
          rw [hz.2] at h
          rw [show j = i by omega]
          omega
  · rintro e st ⟨⟨x2, x3, rfl⟩, hj, rfl⟩
    refine ⟨trivial, ?_⟩
    rw [List.length_map, List.length_zipIdx] at hj
    (try refine ⟨rfl, ?_⟩)
    rw [tr_true (hiff.mpr fun i d hi => hj i d (List.getElem?_eq_some_iff.mp hi).1 hi)]
def tri (s : Sy) (k : Nat) : T3 := ((wsAt s k).rank, 0 - (wsAt s k).weight, (k : Int))
theorem ord_tri {s : Sy} (hs : S30 s) {ps : List T3} (hp : ps.Perm ((List.range s.wishes.length).map (tri s))) (hso : ps.Pairwise fun a b => ¬Lt3 b a) : ps.map (fun p => p.2.2.toNat) = lowO s := by
  have hpo : (ps.map fun p => p.2.2.toNat).Perm (List.range s.wishes.length) := by
    have := hp.map fun p : T3 => p.2.2.toNat
    rw [List.map_map] at this
    have e : (List.range s.wishes.length).map ((fun p : T3 => p.2.2.toNat) ∘ tri s) = List.range s.wishes.length := by
      conv => rhs; rw [← List.map_id (List.range s.wishes.length)]
      exact List.map_congr_left fun k _ => by show ((k : Int)).toNat = k; omega
    rwa [e] at this
  have hn : (ps.map fun p => p.2.2.toNat).Nodup := hpo.nodup_iff.mpr List.nodup_range
  refine sorted_ext (lt := keyR s) (fun a b h1 h2 => by unfold keyR at h1 h2; omega) ?_ lowO_key fun k => ?_
  · rw [List.pairwise_map]
    have hn2 : ps.Pairwise fun a b => a.2.2.toNat ≠ b.2.2.toNat := List.pairwise_map.mp hn
    refine List.Pairwise.imp_of_mem (fun {a b} ha hb h => ?_) (hso.and hn2)
    obtain ⟨i, _, rfl⟩ := List.mem_map.mp (hp.mem_iff.mp ha)
    obtain ⟨j, _, rfl⟩ := List.mem_map.mp (hp.mem_iff.mp hb)
    obtain ⟨h1, h2⟩ := h
    unfold Lt3 tri at h1
    unfold tri at h2 ⊢
    unfold keyR
    dsimp only at h1 h2 ⊢
    rw [Int.toNat_natCast, Int.toNat_natCast] at h2 ⊢
    omega
  · rw [lowO_mem hs, hpo.mem_iff, List.mem_range]
def w_p_taken_wishes_1 : DE := wTup (wCons (wOp dIx (wVar 8) (wC (.int 4))) (wCons (wOp dSub (wC (.int 0)) (wOp dIx (wVar 8) (wC (.int 3)))) (wCons (wVar 6) (wNil))))
def w_p_taken_wishes_2 : DS := wSeq (wAsg (wOp dIx (wOp dIx (wOp dIx (wVar 0) (wC (.int 3))) (wVar 6)) (wC (.int 2))) (gNm 7)) (wIf (wTest (wCall S_p_do_fit (wCons (wVar 0) (wCons (wOp dAdd (wVar 3) (wLst false (wCons (wVar 7) (wNil)))) (wNil))))) (wSeq (wDrop (wM mAppend (wVar 2) (wCons (wVar 6) (wNil)))) (wDrop (wM mAppend (wVar 3) (wCons (wVar 7) (wNil))))) ((fun D env st => D.nx env st)))
def w_p_taken_wishes : DS := wSeq (wAsg (wCB (bSort3 false) (wCons (wComp false (iEnum (wOp dIx (wVar 0) (wC (.int 3)))) (.tp [6, 8]) wYes w_p_taken_wishes_1 [6, 8]) (wNil))) (gNm 1)) (wSeq (wAsg (wLst true (wNil)) (gNm 2)) (wSeq (wAsg (wLst true (wNil)) (gNm 3)) (wSeq (wFor (iSeq (wVar 1)) (gTp 3 (gCn (gNm 4) (gCn (gNm 5) (gCn (gNm 6) gNl)))) w_p_taken_wishes_2) (wRet (wFrz 2)))))
noncomputable def S_p_taken_wishes : DL.Spec := pureS 1 (fun s : Sy => [s.d]) S30 (fun s => .lst ((takG s).map natE))
theorem vc_p_taken_wishes : ∀ g sto, (S_p_taken_wishes.args g).length = S_p_taken_wishes.n → S_p_taken_wishes.pre g sto → w_p_taken_wishes (bodyEnds (popEnds sto.length sto (S_p_taken_wishes.post g sto))) (startE ["system", "turns", "taken", "days", "rank", "below", "place", "day", "wish"] (S_p_taken_wishes.args g)) sto := by
  rintro (s : Sy) sto _ (hs : S30 s)
  have hul := hs.wishes
  have z1 : 1 ≤ sizeLine := by decide
  have z3 : 3 ≤ sizeLine := by decide
  simp?! only [w_p_taken_wishes, S_p_taken_wishes, pureS, wComp, wipeE, wFor]
  refine seq_go ?_
  (try simp?! only [true_and])
  rw [enum_wishes]
  refine ⟨(by (try simp only [List.length_map, List.length_append, List.length_cons, List.length_nil, List.length_zipIdx, List.length_zip, List.length_range, Int.toNat_natCast, rangeD_len]); rw [sizeLine_eq]; omega), ?_⟩
  refine compL_all (fun k => .tup [.int (k : Nat), (wsAt s k).d]) (tri s) dTrip trivial _ (fun k hk R hR => ?_) ?_
  · simp? only [Tg.dg, wYes, w_p_taken_wishes_1, List.foldr_cons, List.foldr_nil, ws_ix3, ws_ix4]
    exact ⟨z3, hR⟩
  (try simp?! only [true_and])
  refine ⟨_, rfl, (List.range s.wishes.length).map (tri s), rfl, fun ps hp hso => ?_⟩
  have hos := ord_tri hs hp hso
  have hpl : ps.length = s.wishes.length := by rw [hp.length_eq, List.length_map, List.length_range]
  rw [v_newF]
  refine seq_go ?_
  (try simp?! only [true_and])
  refine ⟨Nat.zero_le _, ?_⟩
  refine seq_go ?_
  (try simp?! only [true_and])
  refine ⟨Nat.zero_le _, ?_⟩
  have el : (sto ++ [Cel.lst []]).length = sto.length + 1 := by rw [List.length_append]; rfl
  have ea : sto ++ [Cel.lst []] ++ [Cel.lst []] = sto ++ [.lst [], .lst []] := by rw [List.append_assoc]; rfl
  have g1 : ∀ (a b : Cel), (sto ++ [a, b])[sto.length]? = some a := fun a b => by simp
  have g2 : ∀ (a b : Cel), (sto ++ [a, b])[sto.length + 1]? = some b := fun a b => by simp
  have s1 : ∀ (a b c : Cel), (sto ++ [a, b]).set sto.length c = sto ++ [c, b] := fun a b c => by simp
  have s2 : ∀ (a b c : Cel), (sto ++ [a, b]).set (sto.length + 1) c = sto ++ [a, c] := fun a b c => by simp
  rw [el, ea]
  have hfold : takG s = ps.foldl (fun acc p => takeS s acc p.2.2.toNat) [] := by
    unfold takG takeF
    rw [← hos, List.foldl_map]
  rw [hfold]
  refine seq_cut (fun e st => ∃ x4 x5 x6 x7 x8, e = [some s.d, some (.lst (ps.map dTrip)), some (.ref sto.length), some (.ref (sto.length + 1)), x4, x5, x6, x7, x8] ∧ st = sto ++ [.lst ((ps.foldl (fun acc p => takeS s acc p.2.2.toNat) []).map natE), .lst (((ps.foldl (fun acc p => takeS s acc p.2.2.toNat) []).map (dayK s)).map .int)]) (fun K hK => ?_) ?_
  · (try simp?! only [true_and])
    refine forL_fold dTrip (fun acc p => takeS s acc p.2.2.toNat) (fun i acc e st => ∃ x4 x5 x6 x7 x8, e = [some s.d, some (.lst (ps.map dTrip)), some (.ref sto.length), some (.ref (sto.length + 1)), x4, x5, x6, x7, x8] ∧ st = sto ++ [.lst (acc.map natE), .lst ((acc.map (dayK s)).map .int)] ∧ (∀ j ∈ acc, j < s.wishes.length) ∧ acc.length ≤ i) ps [] _ _ ?_ ?_ ⟨_, _, _, _, _, rfl, rfl, (fun j (h : j ∈ ([] : List Nat)) => nomatch h), Nat.zero_le _⟩
    · rintro i acc p e st hi hpm ⟨x4, x5, x6, x7, x8, rfl, rfl, hacc, hal⟩ R hR
      obtain ⟨k, hk, rfl⟩ := List.mem_map.mp (hp.mem_iff.mp hpm)
      have hk := List.mem_range.mp hk
      have hw0 : 0 < s.works.length := by have := (hs.wish _ (ws_at hk).2).work; omega
      have hat := atI_map (f := Ws.d) (ws_at hk).1
      have ek : (tri s k).2.2.toNat = k := Int.toNat_natCast k
      rw [ek] at hR
      refine ⟨trivial, ?_⟩
      simp?! only [w_p_taken_wishes_2, tri]
      refine seq_go ?_
      simp?! only [hat, ws_ix2]
      rw [v_addR2 (g2 _ _), v_addL]
      refine ⟨z1, (by (try simp only [List.length_map, List.length_append, List.length_cons, List.length_nil, List.length_zipIdx, List.length_zip, List.length_range, Int.toNat_natCast, rangeD_len]); rw [sizeLine_eq]; omega), ?_⟩
      have eA : (acc.map (dayK s)).map D.int ++ [.int (wsAt s k).day] = ((acc ++ [k]).map (dayK s)).map .int := by rw [List.map_append, List.map_append]; rfl
      rw [eA]
      have hall : ∀ j ∈ acc ++ [k], j < s.wishes.length := fun j hj => by
        rcases List.mem_append.mp hj with h | h
        · exact hacc j h
        · rw [List.mem_singleton] at h; omega
      refine use_pure (s, acc ++ [k]) rfl rfl ⟨hs, hw0, hall, by rw [List.length_append, List.length_singleton]; omega⟩ ?_
      refine ⟨_, rfl, ?_⟩
      dsimp only
      unfold takeS at hR
      cases h3 : tr (Feas s (acc ++ [k])) with
      | true =>
        rw [h3, if_pos rfl] at hR
        rw [if_pos rfl]
        refine seq_go ?_
        simp?! only [rd_ref' (g1 _ _), v_app (g1 _ _), s1]
        refine ⟨(by (try simp only [List.length_map, List.length_append, List.length_cons, List.length_nil, List.length_zipIdx, List.length_zip, List.length_range, Int.toNat_natCast, rangeD_len]); rw [sizeLine_eq]; omega), ⟨_, rd_ref' (g2 _ _)⟩, ?_⟩
        rw [v_app (g2 _ _), s2]
        refine ⟨(by (try simp only [List.length_map, List.length_append, List.length_cons, List.length_nil, List.length_zipIdx, List.length_zip, List.length_range, Int.toNat_natCast, rangeD_len]); rw [sizeLine_eq]; omega), hR _ _ ⟨_, _, _, _, _, rfl, ?_, hall, by rw [List.length_append, List.length_singleton]; omega⟩⟩
        rw [← eA, List.map_append]
        rfl
      | false =>
        rw [h3, if_neg Bool.false_ne_true] at hR
        rw [if_neg Bool.false_ne_true]
        exact hR _ _ ⟨_, _, _, _, _, rfl, rfl, hacc, by omega⟩
    · rintro e st ⟨x4, x5, x6, x7, x8, rfl, rfl, hacc, hal⟩
      exact ⟨trivial, hK _ _ ⟨_, _, _, _, _, rfl, rfl⟩⟩
  rintro e st ⟨x4, x5, x6, x7, x8, rfl, rfl⟩
  simp? only [wFrz]
  refine ⟨_, _, rfl, g1 _ _, ?_⟩
  rw [s1]
  exact ⟨sto, _, rfl, rfl, blw_nats _ _, fun i c h => .inl h, rfl, rfl⟩
def w_p_in_blocks_1 : DS := wAsg (wTup (wCons (wOp dMul (wOp dFdiv (wVar 3) (wCB bLen (wCons (wOp dIx (wVar 0) (wC (.int 1))) (wNil)))) (wOp dIx (wOp dIx (wOp dIx (wVar 0) (wC (.int 2))) (wC (.int 0))) (wC (.int 0)))) (wCons (wOp dMod (wVar 3) (wCB bLen (wCons (wOp dIx (wVar 0) (wC (.int 1))) (wNil)))) (wNil)))) (gSet (wVar 2) (wVar 4))
def w_p_in_blocks : DS := wSeq (wAsg (wOp dMulM (wLst false (wCons (wC .non) (wNil))) (wCB bLen (wCons (wVar 1) (wNil)))) (gNm 2)) (wSeq (wFor (iEnum (wVar 1)) (gTp 2 (gCn (gNm 3) (gCn (gNm 4) gNl))) w_p_in_blocks_1) (wRet (wCB bTuple (wCons (wVar 2) (wNil)))))
def S_p_in_blocks : DL.Spec := pureS 2 (fun x : Sy × List Nat => [x.1.d, .lst (x.2.map natE)]) (fun x => S30 x.1 ∧ x.2.Perm (List.range x.1.works.length)) (fun x => encR (blockP x.1 x.2))
theorem vc_p_in_blocks : ∀ g sto, (S_p_in_blocks.args g).length = S_p_in_blocks.n → S_p_in_blocks.pre g sto → w_p_in_blocks (bodyEnds (popEnds sto.length sto (S_p_in_blocks.post g sto))) (startE ["system", "works", "plan", "place", "work"] (S_p_in_blocks.args g)) sto := by
  rintro ⟨s, ws⟩ sto _ ⟨hs, hp⟩
  dsimp only at hs hp
  have z1 : 1 ≤ sizeLine := by decide
  have z2 : 2 ≤ sizeLine := by decide
  have hwl := hs.works
  have hh := hs.hands
  have hlen : ws.length = s.works.length := by rw [hp.length_eq, List.length_range]
  have hon : ws.Nodup := hp.nodup_iff.mpr List.nodup_range
  simp? only [w_p_in_blocks, S_p_in_blocks, pureS, dMulM, wFor]
  refine ⟨z1, _, _, rfl, rfl, by omega, by omega, by rw [List.length_singleton, Int.toNat_natCast, sizeLine_eq]; omega, ?_⟩
  rw [flat_one, Int.toNat_natCast, hlen, enum_map]
  have hg : ∀ i, (gvB s ws i).length = s.works.length := fun i => by unfold gvB; rw [List.length_map, List.length_range]
  refine forL_inv (fun i e st => ∃ x4 x5, e = [some s.d, some (.lst (ws.map natE)), some (.ref sto.length), x4, x5] ∧ st = sto ++ [.lst ((gvB s ws i).map encO)]) ?_ ?_ _ _ ⟨_, _, rfl, by rw [gvB_zero, List.map_replicate]; rfl⟩
  · rintro i e st d ⟨x4, x5, rfl, rfl⟩ he R hR
    rw [List.getElem?_map] at he
    cases hy : ws.zipIdx[i]? with
    | none => rw [hy] at he; cases he
    | some y =>
      rw [hy] at he
      cases he
      have hz : ws[i]? = some y.1 ∧ y.2 = i := by
        rw [List.getElem?_zipIdx] at hy
        cases h : ws[i]? with
        | none => rw [h] at hy; cases hy
        | some w => rw [h] at hy; cases hy; exact ⟨rfl, by simp⟩
      have hw : y.1 < s.works.length := List.mem_range.mp (hp.mem_iff.mp (List.mem_of_getElem? hz.1))
      have hwl0 := (lenA_pos hs (by omega : 0 < s.works.length))
      have hat : atI s.works 0 = some (wkAt s 0) := wk_at (i := 0) (by omega)
      refine ⟨trivial, ?_⟩
      simp? only [w_p_in_blocks_1, natE, atI_map hat]
      have hq : 0 ≤ (y.2 : Int) / (s.hands.length : Int) ∧ (y.2 : Int) / (s.hands.length : Int) ≤ y.2 := ⟨Int.ediv_nonneg (by omega) (by omega), Int.ediv_le_self _ (by omega)⟩
      have hgl := hg i
      have hyi : y.2 < s.works.length := by have := (List.getElem?_eq_some_iff.mp hz.1).1; rw [hlen] at this; rw [hz.2]; exact this
      refine ⟨⟨by omega, by omega⟩, .inl ⟨by unfold lenA at hwl0; omega, by unfold lenA at hwl0; omega⟩, by omega, z2, ?_⟩
      simp? only [gSet]
      refine ⟨sto.length, _, (y.1 : Int), y.1, rfl, rfl, get_last _ _, ?_, ?_⟩
      · unfold ixN
        rw [if_pos (by omega), if_pos (by rw [List.length_map]; omega)]
        (try rw [Int.toNat_natCast])
      · rw [set_last]
        have e3 : ((gvB s ws i).map encO).set y.1 (D.tup [.int ((y.2 : Int) / (s.hands.length : Int) * (wkAt s 0).len), .int ((y.2 : Int) % (s.hands.length : Int))]) = (gvB s ws (i + 1)).map encO := by
          rw [← gvB_succ hon hz.1, List.map_set, hz.2]
          rfl
        rw [e3]
        exact hR _ _ ⟨_, _, rfl, rfl⟩
  · rintro e st ⟨x4, x5, rfl, rfl⟩
    rw [List.length_map, List.length_zipIdx, hlen]
    refine ⟨trivial, ?_⟩
    simp? only [v_tupL (rd_ref' (get_last _ _))]
    rw [gvB_all hp]
    exact ⟨sto, _, rfl, rfl, blw_encP _ _, fun i c h => .inl h, rfl, rfl⟩
def w_p_full_day_1 : DT := wAnd (wTest (wOp dLt (wVar 3) (wOp dIx (wVar 0) (wC (.int 0))))) (wNot (wTest (wCall S_p_holds_full (wCons (wVar 0) (wCons (wVar 1) (wCons (wVar 2) (wCons (wTup (wCons (wVar 2) (wCons (wVar 3) (wNil)))) (wNil))))))))
def w_p_full_day_2 : DS := wAsg (wOp dAdd (wVar 3) (wC (.int 1))) (gNm 3)
def w_p_full_day : DS := wSeq (wAsg (wOp dIx (wOp dIx (wOp dIx (wVar 0) (wC (.int 3))) (wVar 2)) (wC (.int 2))) (gNm 3)) (wSeq (wWhile w_p_full_day_1 w_p_full_day_2) (wRet (wVar 3)))
def S_p_full_day : DL.Spec := ⟨3, Sy × List Ws × Nat, fun x => [x.1.d, .lst (x.2.1.map Ws.d), .int (x.2.2 : Nat)],
  fun x _ => (S30 x.1 ∧ x.2.1.length ≤ 1000 ∧ x.2.2 < x.1.wishes.length) ∧ ∃ D, dayK x.1 x.2.2 ≤ D ∧ D ≤ x.1.days ∧ dayOkF x.1 x.2.1 x.2.2 D = true,
  fun x st d st' => st' = st ∧ ∃ v, d = .int v ∧ dayK x.1 x.2.2 ≤ v ∧ v ≤ x.1.days ∧ dayOkF x.1 x.2.1 x.2.2 v = true⟩
theorem pair_day {s : Sy} {ks : List Ws} {k : Nat} {v : Int} (h1 : dayK s k ≤ v) (h2 : v ≤ s.days) : pairD s ks k (.tup [.int (k : Nat), .int v]) = dayOkF s ks k v := by
  have c1 : fromF (.int (k : Nat)) (k : Nat) (k : Nat) = true := fromF_iff.mpr ⟨_, rfl, Int.le_refl _, Int.le_refl _⟩
  have c2 : fromF (.int v) (wsAt s k).day s.days = true := fromF_iff.mpr ⟨_, rfl, h1, h2⟩
  show (if fromF (.int (k : Nat)) (k : Nat) (k : Nat) = true then (if fromF (.int v) (wsAt s k).day s.days = true then dayOkF s ks k v else false) else false) = _
  rw [c1, c2, if_pos rfl, if_pos rfl]
theorem vc_p_full_day : ∀ g sto, (S_p_full_day.args g).length = S_p_full_day.n → S_p_full_day.pre g sto → w_p_full_day (bodyEnds (S_p_full_day.post g sto)) (startE ["system", "kept", "place", "day"] (S_p_full_day.args g)) sto := by
  rintro ⟨s, ks, k⟩ sto _ ⟨⟨hs, hkl, hk⟩, D, h1, h2, h3⟩
  dsimp only at hs hkl hk h1 h2 h3
  have z2 : 2 ≤ sizeLine := by decide
  have hat := atI_map (f := Ws.d) (ws_at hk).1
  simp?! only [w_p_full_day, S_p_full_day]
  refine seq_go ?_
  simp?! only [hat, ws_ix2]
  refine seq_cut (fun e st => (∃ v, e = [some s.d, some (.lst (ks.map Ws.d)), some (.int (k : Nat)), some (.int v)] ∧ dayK s k ≤ v ∧ v ≤ s.days ∧ dayOkF s ks k v = true) ∧ sto = st) (fun K hK => ?_) ?_
  · refine ⟨fun m e st => (∃ v, e = [some s.d, some (.lst (ks.map Ws.d)), some (.int (k : Nat)), some (.int v)] ∧ dayK s k ≤ v ∧ v + m = D) ∧ sto = st, ⟨(D - dayK s k).toNat, ⟨_, rfl, Int.le_refl _, by unfold dayK at h1 ⊢; omega⟩, rfl⟩, ?_⟩
    rintro m e st ⟨⟨v, rfl, hv, hm⟩, rfl⟩
    simp?! only [w_p_full_day_1]
    by_cases hlt : v < s.days
    · rw [if_pos hlt]
      refine ⟨z2, ?_⟩
      refine use_pure (s, ks, k, .tup [.int (k : Nat), .int v]) rfl rfl ⟨hs, hkl, hk, rfl⟩ ?_
      refine ⟨_, rfl, ?_⟩
      dsimp only
      rw [pair_day hv (by omega)]
      cases hd : dayOkF s ks k v with
      | true =>
        (try simp?! only [true_and])
        exact hK _ _ ⟨⟨v, rfl, hv, by omega, hd⟩, rfl⟩
      | false =>
        have hne : v ≠ D := fun e => by rw [e, h3] at hd; cases hd
        simp?! only [w_p_full_day_2]
        exact ⟨m - 1, by omega, v + 1, rfl, by omega, by omega⟩
    · rw [if_neg hlt]
      have : v = D := by omega
      subst this
      exact hK _ _ ⟨⟨v, rfl, hv, h2, h3⟩, rfl⟩
  rintro e st ⟨⟨v, rfl, hv⟩, rfl⟩
  (try simp?! only [true_and])
  first | exact hv | exact ⟨rfl, v, rfl, hv⟩
structure EvP (s : Sy) : Prop where
  hands : ∀ r ∈ s.hands, r = []
  works : ∀ w ∈ s.works, w.len = (wkAt s 0).len ∧ w.ahead = [] ∧ w.able.length = s.hands.length
  kind : ∀ u ∈ s.wishes, u.kind = 1
  nd : (s.wishes.map (·.work)).Nodup
noncomputable def evD (s : Sy) : Bool := tr (EvP s)
def Ok38 (s : Sy) : Prop := s.Ok 30 5 12 10 30
def w_p_is_even_1 : DS := wIf (wTest (wOp dNe (wVar 5) (wTup (wNil)))) (wRet (wC (.bl false))) ((fun D env st => D.nx env st))
def w_p_is_even_2 : DS := wIf (wOr (wTest (wOp dNe (wVar 6) (wOp dIx (wOp dIx (wVar 3) (wC (.int 0))) (wC (.int 0))))) (wOr (wTest (wOp dNe (wVar 7) (wTup (wNil)))) (wTest (wOp dNe (wCB bLen (wCons (wVar 8) (wNil))) (wCB bLen (wCons (wVar 2) (wNil))))))) (wRet (wC (.bl false))) ((fun D env st => D.nx env st))
def w_p_is_even_3 : DS := wIf (wTest (wOp dNe (wVar 10) (wC (.int 1)))) (wRet (wC (.bl false))) ((fun D env st => D.nx env st))
def w_p_is_even_4 : DE := wOp dIx (wVar 14) (wC (.int 0))
def w_p_is_even : DS := wSeq (wAsg (wVar 0) (gTp 4 (gCn (gNm 1) (gCn (gNm 2) (gCn (gNm 3) (gCn (gNm 4) gNl)))))) (wSeq (wFor (iSeq (wVar 2)) (gNm 5) w_p_is_even_1) (wSeq (wFor (iSeq (wVar 3)) (gTp 3 (gCn (gNm 6) (gCn (gNm 7) (gCn (gNm 8) gNl)))) w_p_is_even_2) (wSeq (wFor (iSeq (wVar 4)) (gTp 5 (gCn (gNm 9) (gCn (gNm 10) (gCn (gNm 11) (gCn (gNm 12) (gCn (gNm 13) gNl)))))) w_p_is_even_3) (wRet (wOp dEq (wLenSet (wComp false (iSeq (wVar 4)) (.nm 14) wYes w_p_is_even_4 [14])) (wCB bLen (wCons (wVar 4) (wNil))))))))
noncomputable def S_p_is_even : DL.Spec := pureS 1 (fun s : Sy => [s.d]) Ok38 (fun s => .bl (evD s))
theorem vc_p_is_even : ∀ g sto, (S_p_is_even.args g).length = S_p_is_even.n → S_p_is_even.pre g sto → w_p_is_even (bodyEnds (S_p_is_even.post g sto)) (startE ["system", "days", "hands", "works", "wishes", "away", "length", "ahead", "able", "work", "sort", "day", "weight", "rank", "wish"] (S_p_is_even.args g)) sto := by
  rintro (s : Sy) sto _ (hs : Ok38 s)
  have hw := hs.works
  have hu := hs.wishes
  simp? only [w_p_is_even, S_p_is_even, pureS, wFor, wComp, wipeE]
  have at_take : ∀ {α : Type} {xs : List α} {k : Nat} {x : α} {P : α → Prop}, xs[k]? = some x → (∀ y ∈ xs.take k, P y) → P x → ∀ y ∈ xs.take (k + 1), P y := fun {α xs k x P} hx h1 h2 y hy => by
    rw [take_snoc hx] at hy
    rcases List.mem_append.mp hy with hy | hy
    · exact h1 y hy
    · rw [List.mem_singleton] at hy; subst hy; exact h2
  refine forL_inv (fun i e st => ∃ x5, e = [some s.d, some (.int s.days), some (.tup (s.hands.map dInts)), some (.tup (s.works.map Wk.d)), some (.tup (s.wishes.map Ws.d)), x5, none, none, none, none, none, none, none, none, none] ∧ st = sto ∧ ∀ r ∈ s.hands.take i, r = []) ?_ ?_ _ _ ⟨_, rfl, rfl, fun r hr => by rw [List.take_zero] at hr; cases hr⟩
  · rintro i e st d ⟨x5, rfl, rfl, hp⟩ he R hR
    rw [List.getElem?_map] at he
    cases hr : s.hands[i]? with
    | none => rw [hr] at he; cases he
    | some r =>
      rw [hr] at he
      cases he
      refine ⟨trivial, ?_⟩
      simp? only [w_p_is_even_1, dInts]
      refine ⟨Nat.zero_le _, okL_ints _, ?_⟩
      cases r with
      | nil =>
        rw [if_neg (by decide)]
        exact hR _ _ ⟨_, rfl, rfl, at_take hr hp rfl⟩
      | cons a r =>
        rw [if_pos (by rfl)]
        exact congrArg D.bl (tr_false fun h => by have := h.hands _ (List.mem_of_getElem? hr); cases this).symm
  · rintro e st ⟨x5, rfl, hst, hp⟩
    rw [List.length_map, List.take_length] at hp
    refine ⟨trivial, ?_⟩
    rw [hst]
    (try simp? only [true_and])
    refine forL_inv (fun i e st => ∃ x6 x7 x8, e = [some s.d, some (.int s.days), some (.tup (s.hands.map dInts)), some (.tup (s.works.map Wk.d)), some (.tup (s.wishes.map Ws.d)), x5, x6, x7, x8, none, none, none, none, none, none] ∧ st = sto ∧ ∀ w ∈ s.works.take i, w.len = (wkAt s 0).len ∧ w.ahead = [] ∧ w.able.length = s.hands.length) ?_ ?_ _ _ ⟨_, _, _, rfl, rfl, fun r hr => by rw [List.take_zero] at hr; cases hr⟩
    · rintro i e st d ⟨x6, x7, x8, rfl, rfl, hq⟩ he R hR
      rw [List.getElem?_map] at he
      cases hr : s.works[i]? with
      | none => rw [hr] at he; cases he
      | some w =>
        rw [hr] at he
        cases he
        have hpos := (List.getElem?_eq_some_iff.mp hr).1
        have hat0 : atI (s.works.map Wk.d) 0 = some (wkAt s 0).d := atI_map (wk_at (i := 0) (by omega))
        refine ⟨trivial, ?_⟩
        simp? only [w_p_is_even_2, hat0, ns_len, dInts]
        by_cases h1 : w.len = (wkAt s 0).len
        · have e1 : (!(w.len == (wkAt s 0).len)) = false := by rw [h1]; simp
          simp? only [e1]
          refine ⟨Nat.zero_le _, okL_ints _, ?_⟩
          cases ha : w.ahead with
          | nil =>
            simp? only [List.map_nil, List.isEmpty_nil]
            by_cases h2 : w.able.length = s.hands.length
            · have e2 : (!((w.able.length : Int) == (s.hands.length : Int))) = false := by rw [h2]; simp
              simp? only [e2]
              exact hR _ _ ⟨_, _, _, rfl, rfl, at_take hr hq ⟨h1, ha, h2⟩⟩
            · have e2 : (!((w.able.length : Int) == (s.hands.length : Int))) = true := by rw [Bool.not_eq_true', beq_eq_false_iff_ne]; omega
              simp? only [e2]
              exact congrArg D.bl (tr_false fun h => h2 (h.works w (List.mem_of_getElem? hr)).2.2).symm
          | cons a r =>
            simp? only [List.map_cons, List.isEmpty_cons]
            exact congrArg D.bl (tr_false fun h => by have := (h.works w (List.mem_of_getElem? hr)).2.1; rw [ha] at this; cases this).symm
        · have e1 : (!(w.len == (wkAt s 0).len)) = true := by rw [Bool.not_eq_true', beq_eq_false_iff_ne]; exact h1
          simp? only [e1]
          exact congrArg D.bl (tr_false fun h => h1 (h.works w (List.mem_of_getElem? hr)).1).symm
    · rintro e st ⟨x6, x7, x8, rfl, hst, hq⟩
      rw [List.length_map, List.take_length] at hq
      refine ⟨trivial, ?_⟩
      rw [hst]
      (try simp? only [true_and])
      refine forL_inv (fun i e st => ∃ x9 x10 x11 x12 x13, e = [some s.d, some (.int s.days), some (.tup (s.hands.map dInts)), some (.tup (s.works.map Wk.d)), some (.tup (s.wishes.map Ws.d)), x5, x6, x7, x8, x9, x10, x11, x12, x13, none] ∧ st = sto ∧ ∀ u ∈ s.wishes.take i, u.kind = 1) ?_ ?_ _ _ ⟨_, _, _, _, _, rfl, rfl, fun r hr => by rw [List.take_zero] at hr; cases hr⟩
      · rintro i e st d ⟨x9, x10, x11, x12, x13, rfl, rfl, hk⟩ he R hR
        rw [List.getElem?_map] at he
        cases hr : s.wishes[i]? with
        | none => rw [hr] at he; cases he
        | some u =>
          rw [hr] at he
          cases he
          refine ⟨trivial, ?_⟩
          simp? only [w_p_is_even_3]
          by_cases h1 : u.kind = 1
          · have e1 : (!(u.kind == 1)) = false := by rw [h1]; rfl
            simp? only [e1]
            exact hR _ _ ⟨_, _, _, _, _, rfl, rfl, at_take hr hk h1⟩
          · have e1 : (!(u.kind == 1)) = true := by rw [Bool.not_eq_true', beq_eq_false_iff_ne]; exact h1
            simp? only [e1]
            exact congrArg D.bl (tr_false fun h => h1 (h.kind u (List.mem_of_getElem? hr))).symm
      · rintro e st ⟨x9, x10, x11, x12, x13, rfl, rfl, hk⟩
        rw [List.length_map, List.take_length] at hk
        refine ⟨trivial, ?_⟩
        simp? only [wLenSet, wComp, wipeE, List.length_map]
        refine ⟨by rw [sizeLine_eq]; omega, ?_⟩
        refine compL_all Ws.d (fun u => u.work) D.int trivial _ (fun u hu R hR => ?_) ?_
        · simp? only [Tg.dg, wYes, w_p_is_even_4, ws_ix0]
          exact hR
        · refine ⟨s.wishes.map (·.work), rfl, by rw [List.length_map]; omega, ?_⟩
          (try simp? only [true_and])
          refine congrArg D.bl (tr_eq ?_)
          have hf := fmet_iff (ns := s.wishes.map (·.work))
          rw [List.length_map] at hf
          rw [beq_iff_eq]
          constructor
          · exact fun h => ⟨hp, hq, hk, hf.mp (by omega)⟩
          · exact fun h => by have := hf.mpr h.nd; omega
theorem inc_all : ∀ (l : List Int) (a : Int), l.Pairwise (· < ·) → (∀ x ∈ l, a ≤ x ∧ x < a + l.length) → l = rangeI a l.length
  | [], _, _, _ => rfl
  | y :: t, a, hp, hx => by
    obtain ⟨p1, p2⟩ := List.pairwise_cons.mp hp
    have hy := hx y (List.mem_cons_self ..)
    have ht : t = rangeI (a + 1) t.length := inc_all t (a + 1) p2 fun x m => by
      have h1 := p1 x m
      have h2 := hx x (List.mem_cons_of_mem _ m)
      simp only [List.length_cons] at h2
      omega
    have ey : y = a := by
      rcases Nat.eq_zero_or_pos t.length with z | z
      · simp only [List.length_cons, z] at hy
        omega
      · have m : a + 1 ∈ t := by
          rw [ht]
          exact List.mem_map.mpr ⟨0, List.mem_range.mpr z, by omega⟩
        have := p1 _ m
        omega
    subst ey
    show y :: t = (List.range (t.length + 1)).map _
    rw [List.range_succ_eq_map, List.map_cons, List.map_map]
    refine congr (congrArg List.cons (by omega)) ?_
    rw [ht, rangeI, List.length_map, List.length_range]
    exact List.map_congr_left fun i _ => by
      show y + 1 + (i : Int) = y + ((i + 1 : Nat) : Int)
      omega
theorem evP_sy {s : Sy} (hs : S30 s) (h : EvP s) : EvSy s := by
  refine ⟨h.hands, ⟨(wkAt s 0).len, fun w hw => ?_⟩, h.kind, h.nd⟩
  obtain ⟨h1, h2, h3⟩ := h.works w hw
  obtain ⟨i, hi, rfl⟩ := List.getElem_of_mem hw
  have ow := hs.work i _ (List.getElem?_eq_getElem hi)
  have ea := inc_all _ 0 ow.able.1 fun x m => by
    have := ow.able.2 x m
    omega
  rw [h3] at ea
  generalize s.works[i] = w at *
  obtain ⟨a, b, c⟩ := w
  simp only at h1 h2 ea
  subst h1 h2 ea
  rfl
def wx_p_even_1 : DE := wTup (wCons (wOp dIx (wOp dIx (wOp dIx (wVar 0) (wC (.int 3))) (wVar 7)) (wC (.int 2))) (wCons (wOp dIx (wOp dIx (wOp dIx (wVar 0) (wC (.int 3))) (wVar 7)) (wC (.int 0))) (wNil)))
def wx_p_even_2 : DT := wTest (wOp dNotIn (wVar 9) (wVar 3))
def wx_p_even_3 : DE := wOp dIx (wOp dIx (wVar 0) (wC (.int 3))) (wVar 7)
def wx_p_even_4 : DT := wTest (wOp dNotIn (wVar 7) (wVar 2))
def wx_p_even_5 : DE := wTup (wCons (wVar 7) (wCons (wCall S_p_full_day (wCons (wVar 0) (wCons (wVar 5) (wCons (wVar 7) (wNil))))) (wNil)))
def wx_p_even (R : DX) : DS := wSeq (wIf (wNot (wTest (wCall S_p_is_even (wCons (wVar 0) (wNil))))) (wRaiseA "NotEven" (wCons (wC (.str "a system that is not even")) (wNil)) R) ((fun D env st => D.nx env st))) (wSeq (wIf (wTest (wOp dEq (wCB bLen (wCons (wOp dIx (wVar 0) (wC (.int 2))) (wNil))) (wC (.int 0)))) (wRet (wTup (wCons (wTup (wNil)) (wCons (wTup (wNil)) (wNil))))) ((fun D env st => D.nx env st))) (wSeq (wAsg (wCall S_p_room_up_to (wCons (wVar 0) (wCons (wOp dIx (wVar 0) (wC (.int 0))) (wNil)))) (gNm 1)) (wSeq (wIf (wTest (wOp dGt (wCB bLen (wCons (wOp dIx (wVar 0) (wC (.int 2))) (wNil))) (wVar 1))) (wRaiseF "NoRoom" "work" (wCons (wVar 1) (wNil)) R) ((fun D env st => D.nx env st))) (wSeq (wAsg (wCall S_p_taken_wishes (wCons (wVar 0) (wNil))) (gNm 2)) (wSeq (wAsg (wComp false (iSeq (wCB (bSortK false) (wCons (wComp false (iSeq (wVar 2)) (.nm 7) wYes wx_p_even_1 [7]) (wNil)))) (.tp [8, 9]) wYes (wVar 9) [8, 9]) (gNm 3)) (wSeq (wAsg (wCall S_p_in_blocks (wCons (wVar 0) (wCons (wOp dAdd (wVar 3) (wComp false (iRange1 (wCons (wCB bLen (wCons (wOp dIx (wVar 0) (wC (.int 2))) (wNil))) (wNil))) (.nm 9) wx_p_even_2 (wVar 9) [9])) (wNil)))) (gNm 4)) (wSeq (wAsg (wComp false (iSeq (wVar 2)) (.nm 7) wYes wx_p_even_3 [7]) (gNm 5)) (wSeq (wAsg (wComp false (iRange1 (wCons (wCB bLen (wCons (wOp dIx (wVar 0) (wC (.int 3))) (wNil))) (wNil))) (.nm 7) wx_p_even_4 (wVar 7) [7]) (gNm 6)) (wRet (wTup (wCons (wVar 4) (wCons (wCB bTuple (wCons (wComp false (iSeq (wVar 6)) (.nm 7) wYes wx_p_even_5 [7]) (wNil))) (wNil)))))))))))))
def X_p_even : SpecX := { n := 1, G := Sy, args := fun s => [s.d], pre := fun s _ => Ok38 s, post := fun s st d st' => st' = st ∧ EvP s ∧ RoomOk s ∧ ∃ (ps : List P2) (qs : List (Nat × Int)), d = .tup [encR ps, .tup (qs.map pairQ)] ∧ Keep s (takG s) ps ∧ QsOk s (takG s) qs s.wishes.length, rz := fun s st e st' => st' = st ∧ ((¬EvP s ∧ e = ⟨"NotEven", []⟩) ∨ (EvP s ∧ ¬RoomOk s ∧ e = ⟨"NoRoom", [("work", .int (roomF s s.days))]⟩)) }
theorem vcx_p_even : ∀ g sto, (X_p_even.args g).length = X_p_even.n → X_p_even.pre g sto → wx_p_even (fun e _ s => X_p_even.rz g sto e s) (bodyEnds (X_p_even.post g sto)) (startE ["system", "most", "taken", "wished", "plan", "kept", "left", "place", "day", "work"] (X_p_even.args g)) sto := by
  rintro (s : Sy) sto _ (hs : Ok38 s)
  have h30 : S30 s := s30_of hs (by omega) (by omega) (by omega) (by omega) (by omega)
  have z2 : 2 ≤ sizeLine := by decide
  simp?! only [wx_p_even, X_p_even, wComp, wipeE, wRaiseA, wRaiseF]
  refine seq_go ?_
  (try simp?! only [true_and])
  refine use_pure s rfl rfl hs ?_
  refine ⟨_, rfl, ?_⟩
  by_cases hev : EvP s
  case neg =>
    rw [show evD s = false from tr_false hev, if_pos (by decide)]
    (try simp? only [true_and])
    exact ⟨by decide, rfl, Or.inl ⟨hev, rfl⟩⟩
  rw [show evD s = true from tr_true hev, if_neg (by decide)]
  have hsy := evP_sy h30 hev
  refine seq_go ?_
  (try simp?! only [true_and])
  have hT : Taken s (takG s) := taken_law h30 (lowO_ok h30)
  have hTl : (takG s).length ≤ s.wishes.length := by
    have := nodup_le hT.nd (ys := List.range s.wishes.length) fun k hk => List.mem_range.mpr (hT.lt k hk)
    rwa [List.length_range] at this
  have hwl := h30.wishes
  by_cases hw0 : s.works.length = 0
  case pos =>
    rw [if_pos (by rw [hw0]; decide)]
    have hn := no_wish h30 hw0
    have eT : takG s = [] := List.length_eq_zero_iff.mp (by omega)
    have hk := keep_law hsy h30 (Or.inl hw0) hT (dw := []) (by rw [eT]; exact .nil) .nil
    have e0 : blockP s (ordW s (firstW [])) = [] := by unfold blockP; rw [hw0]; rfl
    rw [e0] at hk
    refine ⟨Nat.zero_le _, Nat.zero_le _, z2, hev, Or.inl hw0, [], [], rfl, hk, ?_⟩
    rw [hn]
    exact ⟨rfl, fun x hx => by cases hx⟩
  rw [if_neg (by rw [beq_iff_eq]; omega)]
  refine seq_go ?_
  (try simp?! only [true_and])
  have hdy := h30.days
  refine use_pure (s, s.days) rfl rfl ⟨h30, Nat.pos_of_ne_zero hw0, by show 0 ≤ s.days; omega, by show s.days ≤ 1000; omega⟩ ?_
  refine seq_go ?_
  (try simp?! only [true_and])
  by_cases hr : (s.works.length : Int) ≤ roomF s s.days
  case neg =>
    rw [if_pos (by omega)]
    simp? only [wRaiseF]
    refine ⟨_, rfl, ?_⟩
    exact Or.inr ⟨hev, fun h => h.elim hw0 hr, rfl⟩
  rw [if_neg (by omega)]
  have hroom : RoomOk s := Or.inr hr
  refine seq_go ?_
  (try simp?! only [true_and])
  refine use_pure s rfl rfl h30 ?_
  refine seq_go ?_
  (try simp?! only [true_and])
  refine ⟨(by (try simp only [List.length_map, List.length_append, List.length_cons, List.length_nil, List.length_zipIdx, List.length_zip, List.length_range, Int.toNat_natCast, rangeD_len]); rw [sizeLine_eq]; omega), ?_⟩
  refine compL_all natE (fun k => (dayK s k, (wsAt s k).work)) dPair trivial _ (fun k hk R hR => ?_) ?_
  · have hat := atI_map (f := Ws.d) (ws_at (hT.lt k hk)).1
    simp? only [Tg.dg, wYes, wx_p_even_1, natE, hat, ws_ix2, ws_ix0]
    exact ⟨z2, hR⟩
  (try simp? only [true_and])
  refine Or.inl ⟨_, rfl, Or.inr ⟨duesOf s (takG s), rfl, fun dw hp hso => ?_⟩⟩
  have hk := keep_law hsy h30 hroom hT hp hso
  obtain ⟨fn, fl⟩ := first_nd hsy h30 hT.nd hT.lt hp
  have hdl : dw.length ≤ s.wishes.length := by rw [hp.length_eq]; unfold duesOf; rw [List.length_map]; exact hTl
  (try simp? only [true_and])
  refine ⟨(by (try simp only [List.length_map, List.length_append, List.length_cons, List.length_nil, List.length_zipIdx, List.length_zip, List.length_range, Int.toNat_natCast, rangeD_len]); rw [sizeLine_eq]; omega), ?_⟩
  refine compL_all dPair (fun p => p.2.toNat) natE trivial _ (fun p hpm R hR => ?_) ?_
  · have hp0 : 0 ≤ p.2 := by
      obtain ⟨k, hkm, rfl⟩ := List.mem_map.mp (hp.mem_iff.mp hpm)
      exact (work_lt h30 (hT.lt k hkm)).1
    have e : natE p.2.toNat = .int p.2 := by unfold natE; rw [Int.toNat_of_nonneg hp0]
    rw [e] at hR
    simp? only [Tg.dg, wYes, List.foldr_cons, List.foldr_nil]
    exact hR
  rw [show dw.map (fun p => p.2.toNat) = firstW dw from rfl]
  have hWl := h30.works
  have hfl : (firstW dw).length = dw.length := List.length_map ..
  have hrl : (restW s (firstW dw)).length ≤ s.works.length := by
    have := List.length_filter_le (fun w => !(firstW dw).any (· == w)) (List.range s.works.length)
    rwa [List.length_range] at this
  rw [Int.toNat_natCast, range_nat]
  refine ⟨by omega, (by (try simp only [List.length_map, List.length_append, List.length_cons, List.length_nil, List.length_zipIdx, List.length_zip, List.length_range, Int.toNat_natCast, rangeD_len]); rw [sizeLine_eq]; omega), ?_⟩
  refine compL_flt natE (fun w => !(firstW dw).any (· == w)) (fun w => w) natE trivial _ (fun w hw R hR => ?_) ?_
  · simp?! only [Tg.dg, wx_p_even_2, natE]
    refine v_inNat ?_
    refine ⟨_, rfl, ?_⟩
    exact hR
  rw [List.map_id']
  have eo : (firstW dw).map natE ++ (restW s (firstW dw)).map natE = (ordW s (firstW dw)).map natE := (List.map_append ..).symm
  refine ⟨?_, ?_⟩
  · show _ + ((restW s (firstW dw)).map natE).length ≤ _
    rw [List.length_map, List.length_map]
    have : 1000 ≤ sizeLine := by decide
    omega
  show ∃ g, [s.d, D.lst ((firstW dw).map natE ++ (restW s (firstW dw)).map natE)] = _ ∧ _
  rw [eo]
  refine use_pure (s, ordW s (firstW dw)) rfl rfl ⟨h30, ordW_perm fn fl⟩ ?_
  refine ⟨(by (try simp only [List.length_map, List.length_append, List.length_cons, List.length_nil, List.length_zipIdx, List.length_zip, List.length_range, Int.toNat_natCast, rangeD_len]); rw [sizeLine_eq]; omega), ?_⟩
  refine compL_all natE (fun k => wsAt s k) Ws.d trivial _ (fun k hk R hR => ?_) ?_
  · have hat := atI_map (f := Ws.d) (ws_at (hT.lt k hk)).1
    simp? only [Tg.dg, wYes, wx_p_even_3, natE, hat]
    exact hR
  rw [Int.toNat_natCast, range_nat]
  refine ⟨by omega, (by (try simp only [List.length_map, List.length_append, List.length_cons, List.length_nil, List.length_zipIdx, List.length_zip, List.length_range, Int.toNat_natCast, rangeD_len]); rw [sizeLine_eq]; omega), ?_⟩
  refine compL_flt natE (fun k => !(takG s).any (· == k)) (fun k => k) natE trivial _ (fun k hk R hR => ?_) ?_
  · simp?! only [Tg.dg, wx_p_even_4, natE]
    refine v_inNat ?_
    refine ⟨_, rfl, ?_⟩
    exact hR
  rw [List.map_id']
  have eO : ((List.range s.wishes.length).filter fun k => !(takG s).any (· == k)) = outG (takG s) s.wishes.length := by
    unfold outG
    refine List.filter_congr fun k _ => ?_
    rw [show (takG s).any (· == k) = decide (k ∈ takG s) from by rw [Bool.eq_iff_iff, any_mem_nat, decide_eq_true_iff]]
  rw [eO]
  have hOl : (outG (takG s) s.wishes.length).length ≤ s.wishes.length := by
    have := List.length_filter_le (fun k => !decide (k ∈ takG s)) (List.range s.wishes.length)
    rwa [List.length_range] at this
  refine ⟨by rw [List.length_map]; have : 1000 ≤ sizeLine := (by decide); omega, ?_⟩
  refine compL_inv (fun i st acc => st = sto ∧ ∃ qs : List (Nat × Int), acc = qs.map pairQ ∧ qs.map (·.1) = (outG (takG s) s.wishes.length).take i ∧ ∀ x ∈ qs, dayK s x.1 ≤ x.2 ∧ x.2 ≤ s.days ∧ dayOkF s ((takG s).map (wsAt s)) x.1 x.2 = true) ?_ ?_ _ _ ⟨rfl, [], rfl, by rw [List.take_zero]; rfl, fun x hx => by cases hx⟩
  · rintro i st acc d ⟨rfl, qs, rfl, hq1, hq2⟩ he R hR
    rw [List.getElem?_map] at he
    cases hi : (outG (takG s) s.wishes.length)[i]? with
    | none => rw [hi] at he; cases he
    | some k =>
      rw [hi] at he
      cases he
      have hm := List.mem_filter.mp (List.mem_of_getElem? hi)
      have hkl := List.mem_range.mp hm.1
      have hkn : k ∉ takG s := fun h => by
        have := hm.2
        rw [decide_eq_true h] at this
        cases this
      refine ⟨trivial, ?_⟩
      simp?! only [Tg.dg, wYes, wx_p_even_5]
      refine ⟨(s, (takG s).map (wsAt s), k), rfl, rfl, ⟨⟨h30, by rw [List.length_map]; omega, hkl⟩, hk.day hkl hkn⟩, ?_⟩
      rintro _ _ ⟨rfl, v, rfl, v1, v2, v3⟩
      refine ⟨z2, ?_⟩
      refine hR _ _ ⟨rfl, qs ++ [(k, v)], by rw [List.map_append]; rfl, ?_, fun x hx => ?_⟩
      · rw [List.map_append, hq1, List.take_add_one, hi]
        rfl
      · rcases List.mem_append.mp hx with hx | hx
        · exact hq2 x hx
        · rw [List.mem_singleton] at hx
          subst hx
          exact ⟨v1, v2, v3⟩
  · rintro st acc ⟨rfl, qs, rfl, hq1, hq2⟩
    rw [List.length_map, List.take_length] at hq1
    exact ⟨trivial, z2, rfl, hev, hroom, _, qs, rfl, hk, hq1, hq2⟩
def S_p_even : DL.Spec := ⟨1, Sy, fun s => [s.d], fun s _ => Ok38 s ∧ EvP s ∧ RoomOk s, fun s st d st' => st' = st ∧ ∃ (ps : List P2) (qs : List (Nat × Int)), d = .tup [encR ps, .tup (qs.map pairQ)] ∧ Keep s (takG s) ps ∧ QsOk s (takG s) qs s.wishes.length⟩
theorem calm_p_even : ∀ g st, (S_p_even.args g).length = S_p_even.n → S_p_even.pre g st → ∃ g', S_p_even.args g = X_p_even.args g' ∧ (X_p_even.args g').length = X_p_even.n ∧ X_p_even.pre g' st ∧ (∀ d st', X_p_even.post g' st d st' → S_p_even.post g st d st') ∧ ∀ e st', ¬X_p_even.rz g' st e st' := by
  rintro g st _ ⟨h1, h2, h3⟩
  refine ⟨g, rfl, rfl, h1, fun d st' ⟨e, _, _, h⟩ => ⟨e, h⟩, fun e st' ⟨_, h⟩ => ?_⟩
  rcases h with ⟨h, _⟩ | ⟨_, h, _⟩
  · exact h h2
  · exact h h3
theorem sy_evP {s : Sy} (h : EvSy s) : EvP s := by
  refine ⟨h.hands, fun w hw => ?_, h.kind, h.nd⟩
  obtain ⟨l, hl⟩ := h.works
  have hp : 0 < s.works.length := List.length_pos_iff.mpr fun e => by rw [e] at hw; cases hw
  have h0 : wkAt s 0 = ⟨l, [], rangeI 0 s.hands.length⟩ := hl _ (List.mem_of_getElem? (wk_get hp))
  rw [h0, hl w hw]
  refine ⟨rfl, rfl, ?_⟩
  show (rangeI 0 s.hands.length).length = _
  unfold rangeI
  rw [List.length_map, List.length_range]
inductive AllLe : List Int → List Int → Prop
  | nil : AllLe [] []
  | cons {x y : Int} {xs ys : List Int} : x ≤ y → AllLe xs ys → AllLe (x :: xs) (y :: ys)
theorem AllLe.refl : ∀ xs : List Int, AllLe xs xs
  | [] => .nil
  | x :: r => .cons (Int.le_refl x) (AllLe.refl r)
theorem AllLe.append : ∀ {a b c d : List Int}, AllLe a b → AllLe c d → AllLe (a ++ c) (b ++ d)
  | _, _, _, _, .nil, h => h
  | _, _, _, _, .cons h t, h2 => .cons h (t.append h2)
def sumR (us : List Ws) (r : Int) : Int := ((us.filter fun u => u.rank == r).map (·.weight)).sum
theorem sumR_cons (u : Ws) (us : List Ws) (r : Int) : sumR (u :: us) r = (if u.rank == r then u.weight else 0) + sumR us r := by
  unfold sumR
  rw [List.filter_cons]
  split <;> simp_all
theorem wfold (k : Ws → Bool) : ∀ (us : List Ws) (a b c d : Int), (∀ u ∈ us, 0 ≤ u.rank ∧ u.rank ≤ 3) → us.foldl (fun f u => if k u = true then addW f u.rank.toNat u.weight else f) [a, b, c, d] = [a + sumR (us.filter k) 0, b + sumR (us.filter k) 1, c + sumR (us.filter k) 2, d + sumR (us.filter k) 3]
  | [], a, b, c, d, _ => by simp [sumR]
  | u :: us, a, b, c, d, h => by
    have hu := h u List.mem_cons_self
    have ht := fun v hv => h v (List.mem_cons_of_mem _ hv)
    rw [List.foldl_cons, List.filter_cons]
    cases k u with
    | false => exact wfold k us a b c d ht
    | true =>
      simp only [if_true, sumR_cons]
      have : u.rank = 0 ∨ u.rank = 1 ∨ u.rank = 2 ∨ u.rank = 3 := by omega
      rcases this with e | e | e | e <;> rw [e]
      · show List.foldl _ [a + u.weight, b, c, d] us = _
        rw [wfold k us _ _ _ _ ht]
        simp [Int.add_assoc]
      · show List.foldl _ [a, b + u.weight, c, d] us = _
        rw [wfold k us _ _ _ _ ht]
        simp [Int.add_assoc]
      · show List.foldl _ [a, b, c + u.weight, d] us = _
        rw [wfold k us _ _ _ _ ht]
        simp [Int.add_assoc]
      · show List.foldl _ [a, b, c, d + u.weight] us = _
        rw [wfold k us _ _ _ _ ht]
        simp [Int.add_assoc]
theorem sum_perm {a b : List Int} (h : a.Perm b) : a.sum = b.sum := by
  induction h with
  | nil => rfl
  | cons x _ ih => rw [List.sum_cons, List.sum_cons, ih]
  | swap x y l => simp only [List.sum_cons]; omega
  | trans _ _ h1 h2 => exact h1.trans h2
theorem sumR_perm {a b : List Ws} (h : a.Perm b) (r : Int) : sumR a r = sumR b r := sum_perm ((h.filter _).map _)
def sums (us : List Ws) : List Int := [sumR us 0, sumR us 1, sumR us 2, sumR us 3]
def weighP (s : Sy) (ps : List P2) : List Int := weightsF (fun u => keptF s u (wayOf ps u)) s.wishes
theorem weigh_kp {s : Sy} (hs : S30 s) (ps : List P2) : weighP s ps = sums (kpL s ps) := by
  have e := wfold (fun u => keptF s u (wayOf ps u)) s.wishes 0 0 0 0 fun u hu => (hs.wish u hu).rank
  have ek : s.wishes.filter (fun u => keptF s u (wayOf ps u)) = kpL s ps := rfl
  unfold weighP weightsF sums
  rw [e, ek]
  simp only [Int.zero_add]
theorem sums_perm {a b : List Ws} (h : a.Perm b) : sums a = sums b := by
  unfold sums
  rw [sumR_perm h, sumR_perm h, sumR_perm h, sumR_perm h]
/-- what shows that no plan keeps more -/
structure Show (s : Sy) (K : List Nat) : Prop where
  nd : K.Nodup
  lt : ∀ k ∈ K, k < s.wishes.length
  out : ∀ k, k < s.wishes.length → k ∉ K → ∃ D, dayK s k ≤ D ∧ 0 ≤ D ∧ D ≤ s.days ∧ roomF s D ≤ ((nbTo s K k D : Nat) : Int)
theorem Taken.sho {s : Sy} {G : List Nat} (h : Taken s G) : Show s G :=
  ⟨h.nd, h.lt, fun k hk hg => by
    obtain ⟨D, h1, h2, h3, h4⟩ := h.out k hk hg
    exact ⟨D, h1, h2, h3, by omega⟩⟩
def upB (r w : Int) (u : Ws) : Bool := decide (u.rank < r) || (u.rank == r && decide (w ≤ u.weight))
theorem up_low {r w : Int} {a b : Ws} (h : lowF a b = true) (hb : upB r w b = true) : upB r w a = true := by
  unfold lowF at h
  unfold upB at hb ⊢
  simp only [Bool.or_eq_true, Bool.and_eq_true, decide_eq_true_iff, beq_iff_eq] at hb ⊢
  by_cases h1 : a.rank < b.rank
  · omega
  · rw [if_neg h1] at h
    by_cases h2 : a.rank = b.rank
    · rw [if_pos (beq_iff_eq.mpr h2), decide_eq_true_iff] at h
      omega
    · rw [if_neg (by rw [beq_iff_eq]; exact h2)] at h
      cases h
def inU (s : Sy) (F : List Nat) (r w : Int) : Nat := F.countP fun k => upB r w (wsAt s k)
theorem cnt_split {α : Type} (p q : α → Bool) : ∀ l : List α, l.countP p = l.countP (fun x => p x && q x) + l.countP (fun x => p x && !q x)
  | [] => rfl
  | x :: l => by
    simp only [List.countP_cons, cnt_split p q l]
    cases p x <;> cases q x <;> simp <;> omega
theorem cnt_sub {s : Sy} {F K : List Nat} {p : Nat → Bool} (hn : F.Nodup) (h : ∀ k ∈ F, p k = true → k ∈ K) : F.countP p ≤ K.countP p := by
  rw [List.countP_eq_length_filter, List.countP_eq_length_filter]
  refine nodup_le (hn.sublist List.filter_sublist) fun k hk => ?_
  have := List.mem_filter.mp hk
  exact List.mem_filter.mpr ⟨h k this.1 this.2, this.2⟩
theorem max_ex {P : Int → Prop} {m : Int} (hb : ∀ D, P D → D ≤ m) : ∀ (n : Nat) (D : Int), P D → (m - D).toNat ≤ n → ∃ D, P D ∧ ∀ D', P D' → D' ≤ D
  | 0, D, hD, h => ⟨D, hD, fun D' h' => by have := hb D' h'; omega⟩
  | n + 1, D, hD, h => by
    by_cases hx : ∃ D', P D' ∧ D < D'
    · obtain ⟨D', h1, h2⟩ := hx
      have := hb D' h1
      exact max_ex hb n D' h1 (by omega)
    · refine ⟨D, hD, fun D' h' => ?_⟩
      apply Classical.byContradiction
      intro hc
      exact hx ⟨D', h', by omega⟩
theorem up_few {s : Sy} {K F : List Nat} (hK : Show s K) (hn : F.Nodup) (hl : ∀ k ∈ F, k < s.wishes.length) (hF : Feas s F) (r w : Int) : inU s F r w ≤ inU s K r w := by
  by_cases hx : ∃ k, k < s.wishes.length ∧ k ∉ K ∧ upB r w (wsAt s k) = true
  case neg =>
    refine cnt_sub (s := s) hn fun k hk hp => ?_
    apply Classical.byContradiction
    intro hc
    exact hx ⟨k, hl k hk, hc, hp⟩
  let P : Int → Prop := fun D => ∃ k, k < s.wishes.length ∧ k ∉ K ∧ upB r w (wsAt s k) = true ∧ dayK s k ≤ D ∧ 0 ≤ D ∧ D ≤ s.days ∧ roomF s D ≤ ((nbTo s K k D : Nat) : Int)
  have hP : ∃ D, P D := by
    obtain ⟨k, h1, h2, h3⟩ := hx
    obtain ⟨D, h4⟩ := hK.out k h1 h2
    exact ⟨D, k, h1, h2, h3, h4⟩
  obtain ⟨D0, hD0⟩ := hP
  obtain ⟨D, ⟨k, h1, h2, h3, h4, h5, h6, h7⟩, hm⟩ := max_ex (P := P) (m := s.days) (fun D h => by obtain ⟨_, _, _, _, _, _, h, _⟩ := h; exact h) _ D0 hD0 (Nat.le_refl _)
  unfold inU
  rw [cnt_split _ (fun k => decide (dayK s k ≤ D)) F, cnt_split _ (fun k => decide (dayK s k ≤ D)) K]
  refine Nat.add_le_add ?_ ?_
  · have a1 : F.countP (fun x => upB r w (wsAt s x) && decide (dayK s x ≤ D)) ≤ upTo s F D := List.countP_mono_left fun x _ h => by
      rw [Bool.and_eq_true] at h
      exact h.2
    have a2 := hF D h5 h6
    have a3 : nbTo s K k D ≤ K.countP (fun x => upB r w (wsAt s x) && decide (dayK s x ≤ D)) := List.countP_mono_left fun x _ h => by
      rw [Bool.and_eq_true] at h ⊢
      exact ⟨up_low h.1 h3, h.2⟩
    omega
  · refine cnt_sub (s := s) hn fun j hj hp => ?_
    rw [Bool.and_eq_true, Bool.not_eq_true', decide_eq_false_iff_not] at hp
    apply Classical.byContradiction
    intro hc
    obtain ⟨D', h'⟩ := hK.out j (hl j hj) hc
    have := hm D' ⟨j, hl j hj, hc, hp.1, h'⟩
    exact hp.2 (by have := h'.1; omega)
def accF (f : Nat → Nat) : Nat → Nat
  | 0 => 0
  | n + 1 => accF f n + f (n + 1)
theorem acc_le {f g : Nat → Nat} (h : ∀ i, 1 ≤ i → f i ≤ g i) : ∀ n, accF f n ≤ accF g n
  | 0 => Nat.le_refl _
  | n + 1 => Nat.add_le_add (acc_le h n) (h _ (by omega))
theorem acc_one {f g : Nat → Nat} (h : ∀ i, 1 ≤ i → f i ≤ g i) : ∀ n, accF f (n + 1) + g 1 ≤ accF g (n + 1) + f 1
  | 0 => by
    show 0 + f 1 + g 1 ≤ 0 + g 1 + f 1
    omega
  | n + 1 => by
    have h1 := acc_one h n
    have h2 := h (n + 1 + 1) (by omega)
    show accF f (n + 1) + f (n + 1 + 1) + g 1 ≤ accF g (n + 1) + g (n + 1 + 1) + f 1
    omega
theorem acc_add (f g : Nat → Nat) : ∀ n, accF (fun i => f i + g i) n = accF f n + accF g n
  | 0 => rfl
  | n + 1 => by
    show accF _ n + _ = (accF f n + _) + (accF g n + _)
    rw [acc_add f g n]
    dsimp only
    omega
theorem acc_ind (b : Bool) (w : Int) : ∀ n : Nat, 0 ≤ w → w ≤ 100 → ((accF (fun i => if (b && decide ((i : Int) ≤ w)) = true then 1 else 0) n : Nat) : Int) = if b = true then min (n : Int) w else 0
  | 0, h0, _ => by
    show ((0 : Nat) : Int) = _
    split <;> omega
  | n + 1, h0, h1 => by
    have ih := acc_ind b w n h0 h1
    show ((accF _ n + _ : Nat) : Int) = _
    rw [Int.natCast_add, ih]
    cases b with
    | false => simp
    | true =>
      simp only [Bool.true_and, decide_eq_true_iff, if_true]
      by_cases h : (((n + 1 : Nat)) : Int) ≤ w
      · rw [if_pos h]; omega
      · rw [if_neg h]; omega
def nR (us : List Ws) (r : Int) (i : Nat) : Nat := us.countP fun u => u.rank == r && decide ((i : Int) ≤ u.weight)
theorem sumR_acc (r : Int) : ∀ us : List Ws, (∀ u ∈ us, 1 ≤ u.weight ∧ u.weight ≤ 100) → sumR us r = ((accF (nR us r) 100 : Nat) : Int)
  | [], _ => by
    have e : ∀ n, accF (nR [] r) n = 0 := fun n => by
      induction n with
      | zero => rfl
      | succ n ih =>
        show accF (nR [] r) n + 0 = 0
        rw [ih]
    rw [e]
    rfl
  | u :: us, h => by
    have hu := h u List.mem_cons_self
    have e : nR (u :: us) r = fun i => nR us r i + (if (u.rank == r && decide ((i : Int) ≤ u.weight)) = true then 1 else 0) := by
      funext i
      unfold nR
      rw [List.countP_cons]
    rw [sumR_cons, sumR_acc r us (fun v hv => h v (List.mem_cons_of_mem _ hv)), e, acc_add, Int.natCast_add, acc_ind _ _ _ (by omega) (by omega)]
    have : min ((100 : Nat) : Int) u.weight = u.weight := by omega
    rw [this]
    omega
def below (us : List Ws) (r : Int) : Nat := us.countP fun u => decide (u.rank < r)
theorem upU (us : List Ws) (r : Int) (i : Nat) : (us.countP fun u => upB r i u) = below us r + nR us r i := by
  unfold below nR
  induction us with
  | nil => rfl
  | cons u us ih =>
    simp only [List.countP_cons, ih]
    unfold upB
    by_cases h1 : u.rank < r
    · have : (u.rank == r) = false := by rw [Bool.eq_false_iff]; intro e; rw [beq_iff_eq] at e; omega
      simp [h1, this]
      omega
    · simp [h1]
      omega
theorem below_next {us : List Ws} (h : ∀ u ∈ us, 1 ≤ u.weight ∧ u.weight ≤ 100) (r : Int) : below us (r + 1) = below us r + nR us r 1 := by
  rw [← upU]
  refine List.countP_congr fun u hu => ?_
  have := h u hu
  unfold upB
  simp only [Bool.or_eq_true, Bool.and_eq_true, decide_eq_true_iff, beq_iff_eq]
  omega
theorem one_rank {us vs : List Ws} (hu : ∀ u ∈ us, 1 ≤ u.weight ∧ u.weight ≤ 100) (hv : ∀ u ∈ vs, 1 ≤ u.weight ∧ u.weight ≤ 100) (r : Int) (hb : below us r = below vs r) (h : ∀ i : Nat, (us.countP fun u => upB r i u) ≤ (vs.countP fun u => upB r i u)) : sumR us r ≤ sumR vs r ∧ (sumR us r = sumR vs r → below us (r + 1) = below vs (r + 1)) := by
  have hn : ∀ i, 1 ≤ i → nR us r i ≤ nR vs r i := fun i _ => by
    have := h i
    rw [upU, upU] at this
    omega
  rw [sumR_acc r us hu, sumR_acc r vs hv]
  have h1 := acc_le hn 100
  have h2 := acc_one hn 99
  refine ⟨by omega, fun e => ?_⟩
  rw [below_next hu, below_next hv]
  have := hn 1 (by omega)
  have h2 : accF (nR us r) 100 + nR vs r 1 ≤ accF (nR vs r) 100 + nR us r 1 := h2
  omega
theorem lex_sums {us vs : List Ws} (hu : ∀ u ∈ us, (1 ≤ u.weight ∧ u.weight ≤ 100) ∧ 0 ≤ u.rank) (hv : ∀ u ∈ vs, (1 ≤ u.weight ∧ u.weight ≤ 100) ∧ 0 ≤ u.rank) (h : ∀ (r : Int) (i : Nat), (us.countP fun u => upB r i u) ≤ (vs.countP fun u => upB r i u)) : HT.lexLt (sums vs) (sums us) = false := by
  have z : ∀ xs : List Ws, (∀ u ∈ xs, (1 ≤ u.weight ∧ u.weight ≤ 100) ∧ 0 ≤ u.rank) → below xs 0 = 0 := fun xs hx => by
    unfold below
    rw [List.countP_eq_zero]
    intro u hm
    have := (hx u hm).2
    rw [decide_eq_true_iff]
    omega
  have b0 : below us 0 = below vs 0 := by rw [z us hu, z vs hv]
  have s := fun r hb => one_rank (us := us) (vs := vs) (fun u m => (hu u m).1) (fun u m => (hv u m).1) r hb (h r)
  unfold sums
  obtain ⟨l0, n0⟩ := s 0 b0
  rw [HT.lexLt_cons]
  by_cases e0 : sumR vs 0 = sumR us 0
  case neg => rw [if_neg e0]; rw [decide_eq_false_iff_not]; omega
  rw [if_pos e0, HT.lexLt_cons]
  obtain ⟨l1, n1⟩ := s 1 (n0 e0.symm)
  by_cases e1 : sumR vs 1 = sumR us 1
  case neg => rw [if_neg e1]; rw [decide_eq_false_iff_not]; omega
  rw [if_pos e1, HT.lexLt_cons]
  obtain ⟨l2, n2⟩ := s 2 (n1 e1.symm)
  by_cases e2 : sumR vs 2 = sumR us 2
  case neg => rw [if_neg e2]; rw [decide_eq_false_iff_not]; omega
  rw [if_pos e2, HT.lexLt_cons]
  obtain ⟨l3, n3⟩ := s 3 (n2 e2.symm)
  by_cases e3 : sumR vs 3 = sumR us 3
  case neg => rw [if_neg e3]; rw [decide_eq_false_iff_not]; omega
  rw [if_pos e3]
  rfl
/-- the places of the wishes that a plan keeps -/
def keptK (s : Sy) (ps : List P2) : List Nat := (List.range s.wishes.length).filter fun k => kpF s ps (wsAt s k)
theorem keptK_nd (s : Sy) (ps : List P2) : (keptK s ps).Nodup := List.nodup_range.sublist List.filter_sublist
theorem keptK_lt {s : Sy} {ps : List P2} {k : Nat} (h : k ∈ keptK s ps) : k < s.wishes.length := List.mem_range.mp (List.mem_filter.mp h).1
theorem keptK_perm (s : Sy) (ps : List P2) : (kpL s ps).Perm ((keptK s ps).map (wsAt s)) := kp_perm (keptK_nd s ps) (fun k hk => keptK_lt hk) fun k hk => by
  unfold keptK
  rw [Bool.eq_iff_iff, decide_eq_true_iff, List.mem_filter, List.mem_range]
  exact ⟨fun h => ⟨hk, h⟩, fun h => h.2⟩
theorem plan_feas {s : Sy} (h : EvSy s) (hs : S30 s) (hw : 0 < s.works.length) {ps : List P2} (hp : IsPlan s ps) : Feas s (keptK s ps) := fun D h0 h1 => by
  have := kept_few h hs hp (F := (keptK s ps).filter fun k => decide (dayK s k ≤ D)) ((keptK_nd s ps).sublist List.filter_sublist) (fun k hk => keptK_lt (List.mem_filter.mp hk).1) (fun k hk => (List.mem_filter.mp (List.mem_filter.mp hk).1).2) h0 (fun k hk => by have := (List.mem_filter.mp hk).2; rwa [decide_eq_true_iff] at this) hw
  rw [← List.countP_eq_length_filter] at this
  exact this
theorem show_best {s : Sy} (h : EvSy s) (hs : S30 s) (hw : 0 < s.works.length) {K : List Nat} (hK : Show s K) {qs : List P2} (hq : IsPlan s qs) : HT.lexLt (sums (K.map (wsAt s))) (weighP s qs) = false := by
  rw [weigh_kp hs, sums_perm (keptK_perm s qs)]
  have ok : ∀ L : List Nat, (∀ k ∈ L, k < s.wishes.length) → ∀ u ∈ L.map (wsAt s), (1 ≤ u.weight ∧ u.weight ≤ 100) ∧ 0 ≤ u.rank := fun L hL u hu => by
    obtain ⟨k, hk, rfl⟩ := List.mem_map.mp hu
    have := hs.wish _ (ws_at (hL k hk)).2
    exact ⟨this.weight, this.rank.1⟩
  refine lex_sums (ok _ fun k hk => keptK_lt hk) (ok _ hK.lt) fun r i => ?_
  have := up_few hK (keptK_nd s qs) (fun k hk => keptK_lt hk) (plan_feas h hs hw hq) r i
  unfold inU at this
  rw [List.countP_map, List.countP_map]
  exact this
def w_f_law_weights_1 : DS := wSeq (wAsg (wOp dMul (wOp dIx (wVar 3) (wC (.int 3))) (wCB bInt (wCons (wCall S_f_law_kept (wCons (wVar 0) (wCons (wVar 3) (wCons (wOp dIx (wVar 1) (wOp dIx (wVar 3) (wC (.int 0)))) (wNil))))) (wNil)))) (gNm 4)) (wAsg (wOp dAdd (wOp dIx (wVar 2) (wOp dIx (wVar 3) (wC (.int 4)))) (wVar 4)) (gSet (wVar 2) (wOp dIx (wVar 3) (wC (.int 4)))))
def w_f_law_weights : DS := wSeq (wAsg (wLst true (wCons (wC (.int 0)) (wCons (wC (.int 0)) (wCons (wC (.int 0)) (wCons (wC (.int 0)) (wNil)))))) (gNm 2)) (wSeq (wFor (iSeq (wOp dIx (wVar 0) (wC (.int 3)))) (gNm 3) w_f_law_weights_1) (wRet (wCB bTuple (wCons (wVar 2) (wNil)))))
def S_f_law_weights : DL.Spec := pureS 2 (fun x : Sy × List P2 => [x.1.d, encR x.2]) (fun x => (∀ u ∈ x.1.wishes, u.Ok x.1.works.length x.1.days) ∧ x.2.length = x.1.works.length) (fun x => dInts (weightsF (fun u => keptF x.1 u (wayOf x.2 u)) x.1.wishes))
theorem vc_f_law_weights : ∀ g sto, (S_f_law_weights.args g).length = S_f_law_weights.n → S_f_law_weights.pre g sto → w_f_law_weights (bodyEnds (popEnds sto.length sto (S_f_law_weights.post g sto))) (startE ["_law_system", "_law_plan", "_law_found", "_law_wish_here", "_law_more"] (S_f_law_weights.args g)) sto := by
  rintro ⟨s, ps⟩ sto _ ⟨hu, hl⟩
  dsimp only at hu hl
  simp? only [w_f_law_weights, S_f_law_weights, pureS, wFor, encR]
  refine ⟨by decide, ?_⟩
  refine forL_fold Ws.d (fun f u => if keptF s u (wayOf ps u) = true then addW f u.rank.toNat u.weight else f) (fun _ f e st => ∃ x y, e = [some s.d, some (.tup (ps.map encP)), some (.ref sto.length), x, y] ∧ st = sto ++ [.lst (f.map .int)] ∧ f.length = 4) s.wishes [0, 0, 0, 0] _ _ ?_ ?_ ⟨_, _, rfl, rfl, rfl⟩
  · rintro i f u e st hi hm ⟨x, y, rfl, rfl, hf⟩ R hR
    refine ⟨trivial, ?_⟩
    simp? only [w_f_law_weights_1, ws_ix0, ws_ix3, way_ix (hu u hm) hl]
    refine use_pure (s, u, wayOf ps u) rfl rfl (hu u hm) ?_
    obtain ⟨a1, a2⟩ := rank_ix hf (hu u hm).rank
    simp? only [ws_ix4, v_ixR (rd_ref' (get_last _ _)), a1, gSet]
    refine ⟨by have := (hu u hm).weight; unfold CMul; split <;> omega, ?_⟩
    refine ⟨_, _, _, _, rfl, rfl, get_last _ _, a2, ?_⟩
    rw [set_last]
    refine hR _ _ ⟨_, _, rfl, ?_, ?_⟩
    · cases keptF s u (wayOf ps u) with
      | true => simp [addW, List.map_set]
      | false =>
        rw [if_neg (by decide)]
        have := addW_zero f u.rank.toNat
        unfold addW at this
        conv => rhs; rw [← this]
        simp [List.map_set]
    · split
      · rw [addW_len]; exact hf
      · exact hf
  · rintro e st ⟨x, y, rfl, rfl, hf⟩
    refine ⟨trivial, ?_⟩
    simp? only [v_tupL (rd_ref' (get_last _ _))]
    exact ⟨sto, _, rfl, rfl, by simp only [D.blw]; exact blwL_ints _ _, fun i c h => .inl h, rfl, rfl⟩
def w_p_is_kept_evenpaper : DS := wRet (wOp dLe (wOp dAdd (wOp dIx (wOp dIx (wVar 1) (wOp dIx (wVar 2) (wC (.int 0)))) (wC (.int 0))) (wOp dIx (wOp dIx (wOp dIx (wVar 0) (wC (.int 2))) (wOp dIx (wVar 2) (wC (.int 0)))) (wC (.int 0)))) (wOp dIx (wVar 2) (wC (.int 2))))
def S_p_is_kept_evenpaper : DL.Spec := pureS 3 (fun x : Sy × List P2 × Ws => [x.1.d, encR x.2.1, x.2.2.d]) (fun x => x.2.2.Ok x.1.works.length x.1.days ∧ x.2.2.kind = 1 ∧ x.2.1.length = x.1.works.length) (fun x => .bl (kpF x.1 x.2.1 x.2.2))
theorem vc_p_is_kept_evenpaper : ∀ g sto, (S_p_is_kept_evenpaper.args g).length = S_p_is_kept_evenpaper.n → S_p_is_kept_evenpaper.pre g sto → w_p_is_kept_evenpaper (bodyEnds (S_p_is_kept_evenpaper.post g sto)) (startE ["system", "plan", "wish"] (S_p_is_kept_evenpaper.args g)) sto := by
  rintro ⟨s, ps, u⟩ sto _ ⟨hu, hk, hl⟩
  dsimp only at hu hk hl
  have e : kpF s ps u = decide ((wayOf ps u).1 + (wkAt s u.work.toNat).len ≤ u.day) := by unfold kpF keptF; rw [hk]; rfl
  simp? only [w_p_is_kept_evenpaper, S_p_is_kept_evenpaper, pureS, ws_ix0, ws_ix2, encR, way_ix hu hl, p_ix0, atI_map (wk_of hu), e]
def w_p_even_holds_1 : DT := wTest (wCall S_p_is_kept_evenpaper (wCons (wVar 0) (wCons (wVar 2) (wCons (wVar 8) (wNil)))))
def w_p_even_holds_2 : DT := wNot (wTest (wCall S_p_is_kept_evenpaper (wCons (wVar 0) (wCons (wVar 2) (wCons (wVar 8) (wNil))))))
def w_p_even_holds_3 : DS := wIf (wNot (wTest (wCall S_p_holds_full (wCons (wVar 0) (wCons (wVar 4) (wCons (wVar 6) (wCons (wVar 7) (wNil)))))))) (wRet (wC (.bl false))) ((fun D env st => D.nx env st))
def w_p_even_holds : DS := wSeq (wIf (wOr (wNot (wTest (wIsi "tuple" (wVar 1)))) (wOr (wTest (wOp dNe (wCB bLen (wCons (wVar 1) (wNil))) (wC (.int 2)))) (wNot (wTest (wCall S_p_is_plan (wCons (wVar 0) (wCons (wOp dIx (wVar 1) (wC (.int 0))) (wNil)))))))) (wRet (wC (.bl false))) ((fun D env st => D.nx env st))) (wSeq (wAsg (wVar 1) (gTp 2 (gCn (gNm 2) (gCn (gNm 3) gNl)))) (wSeq (wAsg (wComp false (iSeq (wOp dIx (wVar 0) (wC (.int 3)))) (.nm 8) w_p_even_holds_1 (wVar 8) [8]) (gNm 4)) (wSeq (wAsg (wComp false (iEnum (wOp dIx (wVar 0) (wC (.int 3)))) (.tp [6, 8]) w_p_even_holds_2 (wVar 6) [6, 8]) (gNm 5)) (wSeq (wIf (wOr (wNot (wTest (wIsi "tuple" (wVar 3)))) (wTest (wOp dNe (wCB bLen (wCons (wVar 3) (wNil))) (wCB bLen (wCons (wVar 5) (wNil)))))) (wRet (wC (.bl false))) ((fun D env st => D.nx env st))) (wSeq (wFor (iZip (wVar 5) (wVar 3)) (gTp 2 (gCn (gNm 6) (gCn (gNm 7) gNl))) w_p_even_holds_3) (wRet (wC (.bl true))))))))
noncomputable def S_p_even_holds : DL.Spec := pureS 2 (fun x : Sy × D => [x.1.d, x.2]) (fun x => EvOk x.1 ∧ x.2.blw 0 = true) (fun x => .bl (paperD x.1 x.2))
theorem vc_p_even_holds : ∀ g sto, (S_p_even_holds.args g).length = S_p_even_holds.n → S_p_even_holds.pre g sto → w_p_even_holds (bodyEnds (S_p_even_holds.post g sto)) (startE ["system", "thing", "plan", "fulls", "kept", "left", "place", "pair", "wish"] (S_p_even_holds.args g)) sto := by
  rintro ⟨s, d⟩ sto _ ⟨hs, hd⟩
  dsimp only at hs hd
  have h30 := hs.s30
  have hwl := h30.works
  have hul := h30.wishes
  simp?! only [w_p_even_holds, S_p_even_holds, pureS, wComp, wipeE, wFor]
  refine seq_cut (fun e st => ∃ ps b, d = .tup [encR ps, b] ∧ IsPlan s ps ∧ e = [some s.d, some (.tup [encR ps, b]), none, none, none, none, none, none, none] ∧ sto = st) (fun K hK => ?_) ?_
  · (try simp?! only [true_and])
    refine ⟨noRef_of hd, ?_⟩
    rcases isa_tup (d := d) with ⟨ds, rfl⟩ | ⟨h1, h2⟩
    · simp? only [isa_tupT]
      by_cases hl : ds.length = 2
      · obtain ⟨a, b, rfl⟩ : ∃ a b, ds = [a, b] := by
          match ds, hl with
          | [a, b], _ => exact ⟨a, b, rfl⟩
        (try simp? only [true_and])
        rw [if_neg (by simp)]
        refine use_pure (s, a) rfl rfl ⟨by show s.works.length ≤ 1000; omega, fun r hr => by have := (h30.rows r hr).len; have := h30.days; omega, blw_items hd a (by simp)⟩ ?_
        dsimp only
        cases hp : planD s a with
        | false =>
          (try simp? only [true_and])
          (try refine ⟨rfl, ?_⟩)
          congr 1
          refine (tr_false ?_).symm
          rintro ⟨ps, fs, e, h⟩
          simp only [D.tup.injEq, List.cons.injEq, and_true] at e
          rw [e.1, planD_enc, tr_true h.1] at hp
          cases hp
        | true =>
          obtain ⟨ps, rfl, hps⟩ := tr_iff.mp hp
          (try simp? only [true_and])
          exact hK _ _ ⟨ps, b, rfl, hps, rfl, rfl⟩
      · rw [if_pos (by simp; omega)]
        (try refine ⟨rfl, ?_⟩)
        congr 1
        refine (tr_false ?_).symm
        rintro ⟨ps, fs, e, h⟩
        simp only [D.tup.injEq] at e
        rw [e] at hl
        exact hl rfl
    · simp? only [h1]
      (try refine ⟨rfl, ?_⟩)
      congr 1
      refine (tr_false ?_).symm
      rintro ⟨ps, fs, e, h⟩
      exact h2 _ e
  rintro e st ⟨ps, b, rfl, hps, rfl, rfl⟩
  have hbb := blw_items hd b (by simp)
  refine seq_go ?_
  (try simp?! only [true_and])
  refine seq_go ?_
  (try simp?! only [true_and])
  refine ⟨by (try rw [List.length_map]); rw [sizeLine_eq]; omega, ?_⟩
  refine compL_flt Ws.d (kpF s ps) id Ws.d trivial _ (fun x hx R hR => ?_) ?_
  · simp? only [Tg.dg, w_p_even_holds_1]
    refine use_pure (s, ps, x) rfl rfl ⟨h30.wish _ hx, hs.one _ hx, hps.len⟩ ?_
    dsimp only
    cases h : kpF s ps x with
    | true => rw [h] at hR; first | exact ⟨_, rfl, hR⟩ | exact hR
    | false => rw [h] at hR; first | exact ⟨_, rfl, hR⟩ | exact hR
  rw [List.map_id]
  refine seq_go ?_
  (try simp?! only [true_and])
  rw [enum_map]
  refine ⟨by (try rw [List.length_map]); (try rw [List.length_zipIdx]); rw [sizeLine_eq]; omega, ?_⟩
  refine compL_flt (fun x : Ws × Nat => .tup [.int (x.2 : Nat), x.1.d]) (fun x => !kpF s ps x.1) (·.2) natE trivial _ (fun x hx R hR => ?_) ?_
  · simp? only [Tg.dg, List.foldr_cons, List.foldr_nil, w_p_even_holds_2]
    have hm := (zx_mem hx).1
    refine use_pure (s, ps, x.1) rfl rfl ⟨h30.wish _ hm, hs.one _ hm, hps.len⟩ ?_
    dsimp only
    cases h : kpF s ps x.1 with
    | true => rw [h] at hR; first | exact ⟨_, rfl, hR⟩ | exact hR
    | false => rw [h] at hR; first | exact ⟨_, rfl, hR⟩ | exact hR
  have eL : ((s.wishes.zipIdx.filter fun x => !kpF s ps x.1).map (·.2)) = leftL s ps := rfl
  have eK : s.wishes.filter (kpF s ps) = kpL s ps := rfl
  rw [eL, eK]
  refine seq_cut (fun e st => ∃ fs, b = .tup fs ∧ fs.length = (leftL s ps).length ∧ e = [some s.d, some (.tup [encR ps, .tup fs]), some (encR ps), some (.tup fs), some (.lst ((kpL s ps).map Ws.d)), some (.lst ((leftL s ps).map natE)), none, none, none] ∧ sto = st) (fun K hK => ?_) ?_
  · (try simp?! only [true_and])
    refine ⟨noRef_of hbb, ?_⟩
    rcases isa_tup (d := b) with ⟨fs, rfl⟩ | ⟨h1, h2⟩
    · simp? only [isa_tupT]
      by_cases hl : fs.length = (leftL s ps).length
      · rw [if_neg (by simp; omega)]
        exact hK _ _ ⟨fs, rfl, hl, rfl, rfl⟩
      · rw [if_pos (by simp; omega)]
        (try refine ⟨rfl, ?_⟩)
        rw [paper_enc, tr_false fun h => hl h.2.1]
    · simp? only [h1]
      (try refine ⟨rfl, ?_⟩)
      congr 1
      refine (tr_false ?_).symm
      rintro ⟨ps, fs, e, h⟩
      simp only [D.tup.injEq, List.cons.injEq, and_true] at e
      exact h2 _ e.2
  rintro e st ⟨fs, rfl, hfl, rfl, rfl⟩
  refine seq_cut (fun e st => (∀ x ∈ (leftL s ps).zip fs, pairD s (kpL s ps) x.1 x.2 = true) ∧ sto = st) (fun K hK => ?_) ?_
  · (try simp?! only [true_and])
    rw [zip_map2]
    refine forL_inv (fun i e st => ∃ x6 x7, e = [some s.d, some (.tup [encR ps, .tup fs]), some (encR ps), some (.tup fs), some (.lst ((kpL s ps).map Ws.d)), some (.lst ((leftL s ps).map natE)), x6, x7, none] ∧ (∀ (j : Nat) x, j < i → ((leftL s ps).zip fs)[j]? = some x → pairD s (kpL s ps) x.1 x.2 = true) ∧ sto = st) ?_ ?_ _ _ ⟨_, _, rfl, fun j x hj => absurd hj (Nat.not_lt_zero _), rfl⟩
    · rintro i e st d ⟨x6, x7, rfl, hj, rfl⟩ he R hR
      rw [List.getElem?_map] at he
      cases hy : ((leftL s ps).zip fs)[i]? with
      | none => rw [hy] at he; cases he
      | some y =>
        rw [hy] at he
        cases he
        have hym := List.mem_of_getElem? hy
        have hk := left_lt (List.of_mem_zip hym).1
        have hf : y.2.blw 0 = true := blw_items hbb y.2 (List.of_mem_zip hym).2
        refine ⟨trivial, ?_⟩
        simp?! only [w_p_even_holds_3, natE]
        refine use_pure (s, kpL s ps, y.1, y.2) rfl rfl ⟨h30, Nat.le_trans (List.length_filter_le _ _) (by omega), hk, hf⟩ ?_
        dsimp only
        cases h : pairD s (kpL s ps) y.1 y.2 with
        | true =>
          (try simp?! only [true_and])
          refine hR _ _ ⟨_, _, rfl, fun j x hji hx => ?_, rfl⟩
          by_cases e1 : j < i
          · exact hj j x e1 hx
          · rw [show j = i by omega, hy] at hx
            cases hx
            exact h
        | false =>
          (try simp?! only [true_and])
          (try refine ⟨rfl, ?_⟩)
          rw [paper_enc, tr_false fun h2 => by rw [h2.2.2 y hym] at h; cases h]
    · rintro e st ⟨x6, x7, rfl, hj, rfl⟩
      refine ⟨trivial, hK _ _ ⟨fun x hx => ?_, rfl⟩⟩
      obtain ⟨j, hj2, e⟩ := List.mem_iff_getElem.mp hx
      exact hj j x (by rw [List.length_map]; exact hj2) (by rw [List.getElem?_eq_getElem hj2, e])
  rintro e st ⟨hall, rfl⟩
  (try simp?! only [true_and])
  (try refine ⟨rfl, ?_⟩)
  rw [paper_enc, tr_true ⟨hps, hfl, hall⟩]
mutual
def _root_.DL.D.smx : D → Bool
  | .non => true
  | .bl _ => true
  | .int i => decide (i.natAbs < 10 ^ 64)
  | .str s => PyData.leavesShort 66 (.str s)
  | .tup ds => D.smxL ds
  | .lst ds => D.smxL ds
  | .scr ds => D.smxL ds
  | .dct kvs => (PyData.dict (kvs.map fun p => (kPy p.1, kPy p.2))).leavesShort 66 && (PyData.dict (kvs.map fun p => (kPy p.1, kPy p.2))).showable
  | .ref _ => false
  | .fn _ _ _ => false
  | .exc _ _ _ => false
def _root_.DL.D.smxL : List D → Bool
  | [] => true
  | d :: r => d.smx && D.smxL r
end
/-- m: lists are within at most; not m: dicts at most -/
structure FX (m : Bool) (k n : Nat) (d : D) : Prop where
  ok : (if m = true then d.ok else d.okd) = true
  smx : d.smx = true
  blk : d.blk ≤ n
  dep : d.dep ≤ k
  blw : d.blw 0 = true
structure FXL (m : Bool) (k n : Nat) (ds : List D) : Prop where
  ok : (if m = true then D.okL ds else D.okdL ds) = true
  smx : D.smxL ds = true
  blk : D.blkL ds ≤ n
  dep : D.depL ds ≤ k
  blw : D.blwL 0 ds = true
section
variable {m : Bool} {k n k' n' : Nat} {d : D} {ds es : List D}
theorem FX.mono (h : FX m k n d) (hk : k ≤ k') (hn : n ≤ n') : FX m k' n' d := ⟨h.ok, h.smx, Nat.le_trans h.blk hn, Nat.le_trans h.dep hk, h.blw⟩
theorem FXL.mono (h : FXL m k n ds) (hk : k ≤ k') (hn : n ≤ n') : FXL m k' n' ds := ⟨h.ok, h.smx, Nat.le_trans h.blk hn, Nat.le_trans h.dep hk, h.blw⟩
theorem FX.any (h : FX m k n d) (hn : n ≤ 1000000) : Any d := ⟨h.blw, Nat.le_trans h.blk hn⟩
end
theorem v_listT {m : Bool} {ds : List D} {st : Sto} {Q : DK} : bList m [.tup ds] st Q = newL m ds st Q :=
  propext ⟨fun ⟨_, _, e, h, q⟩ => by cases e; rcases h with h | h | h <;> cases h; exact q, fun q => ⟨_, _, rfl, .inr (.inl rfl), q⟩⟩
theorem st1 : PyData.canLay0 (.str "") = true ∧ PyData.leavesShort 66 (.str "") = true ∧ ("" : Str).cps.size = 0 := by decide +kernel
/-- what may stand anywhere -/
def Odd (d : D) : Prop := ∃ m, FX m 20 100000 d
def Tiny (d : D) : Prop := ∃ m, FX m 15 5000 d
theorem Odd.any {d : D} (h : Odd d) : Any d := let ⟨_, h⟩ := h; h.any (by decide)
/-- seen at once -/
theorem odd_by {d : D} (h : ((d.ok || d.okd) && d.smx && decide (d.blk ≤ 5000) && decide (d.dep ≤ 15) && d.blw 0) = true) : Tiny d := by
  simp only [Bool.and_eq_true, Bool.or_eq_true, decide_eq_true_eq] at h
  obtain ⟨⟨⟨⟨h1, h2⟩, h3⟩, h4⟩, h5⟩ := h
  rcases h1 with h1 | h1
  · exact ⟨true, h1, h2, h3, h4, h5⟩
  · exact ⟨false, h1, h2, h3, h4, h5⟩
theorem repS_list (x : Str) (n : Int) : (repS x n).cps.toList = (List.replicate n.toNat x.cps.toList).flatten := by
  have h : ∀ (k : Nat) (acc : Array Nat), ((List.replicate k x.cps).foldl (· ++ ·) acc).toList = acc.toList ++ (List.replicate k x.cps.toList).flatten := fun k => by
    induction k with
    | zero => intro acc; simp
    | succ k ih => intro acc; rw [List.replicate_succ, List.foldl_cons, ih, Array.toList_append, List.replicate_succ, List.flatten_cons, List.append_assoc]
  have := h n.toNat #[]
  rw [List.nil_append] at this
  exact this
theorem odd_x : Tiny (.str (repS "x" 3999)) := by
  have hl : ∀ c ∈ (repS "x" 3999).cps.toList, c = 120 := fun c hc => by
    rw [repS_list] at hc
    obtain ⟨l, hl, hc⟩ := List.mem_flatten.mp hc
    rw [List.mem_replicate] at hl
    rw [hl.2] at hc
    have e : ("x" : Str).cps.toList = [120] := by decide +kernel
    rw [e] at hc
    simpa using hc
  refine ⟨true, ?_, ?_, ?_, Nat.zero_le _, rfl⟩
  · simp only [if_true, D.ok, PyData.canLay0]
    show (repS "x" 3999).cps.all (· < 0x110000) = true
    rw [← Array.all_toList, List.all_eq_true]
    intro c hc
    rw [hl c hc]
    decide
  · simp only [D.smx, PyData.leavesShort, List.all_eq_true]
    intro c hc
    rw [hl c hc]
    decide
  · show (repS "x" 3999).length ≤ 5000
    rw [repS_len]
    decide +kernel
def w_f_law_odd : DS := wSeq (wAsg (wLst false (wCons (wC .non) (wCons (wC (.bl true)) (wCons (wC (.bl false)) (wCons (wC (.int 0)) (wCons (wC (.int 1)) (wCons (wNeg (wC (.int 1))) (wCons (wC (.int 5)) (wCons (wC (.str "")) (wCons (wC (.str "a")) (wCons (wC (.str "0")) (wCons (wTup (wNil)) (wCons (wTup (wCons (wC (.int 0)) (wNil))) (wCons (wTup (wCons (wC (.int 0)) (wCons (wC (.int 1)) (wNil)))) (wCons (wTup (wCons (wTup (wNil)) (wCons (wTup (wNil)) (wNil)))) (wCons (wLst false (wNil)) (wCons (wLst false (wCons (wC (.int 0)) (wNil))) (wCons (wC (.dct [])) (wCons (wC (.dct [(.inl 0, .inl 1)])) (wNil)))))))))))))))))))) (gNm 1)) (wSeq (wAsg (wOp dAdd (wVar 1) (wLst false (wCons (wTup (wCons (wC .non) (wNil))) (wCons (wTup (wCons (wTup (wNil)) (wNil))) (wCons (wLst false (wCons (wTup (wNil)) (wNil))) (wCons (wTup (wCons (wC (.bl true)) (wCons (wC (.bl false)) (wNil)))) (wCons (wTup (wCons (wTup (wCons (wC (.int 0)) (wCons (wC (.int 0)) (wNil)))) (wCons (wTup (wCons (wC (.int 1)) (wCons (wC (.int 0)) (wNil)))) (wNil)))) (wCons (wTup (wCons (wTup (wCons (wTup (wNil)) (wCons (wTup (wNil)) (wNil)))) (wNil))) (wCons (wTup (wCons (wC (.str "day")) (wCons (wC (.int 1)) (wNil)))) (wCons (wTup (wCons (wTup (wCons (wC (.int 0)) (wCons (wC (.int 1)) (wNil)))) (wNil))) (wCons (wOp dPow (wC (.int 10)) (wC (.int 30))) (wNil)))))))))))) (gNm 1)) (wSeq (wAsg (wOp dAdd (wVar 1) (wLst false (wCons (wTup (wCons (wTup (wCons (wC (.int 0)) (wCons (wC (.int 0)) (wNil)))) (wCons (wC .non) (wNil)))) (wCons (wTup (wCons (wC (.int 3)) (wCons (wTup (wNil)) (wCons (wTup (wNil)) (wCons (wTup (wNil)) (wNil)))))) (wCons (wTup (wCons (wTup (wCons (wC (.int 3)) (wNil))) (wNil))) (wCons (wTup (wCons (wTup (wCons (wC (.int 0)) (wCons (wC (.int 0)) (wCons (wTup (wNil)) (wNil))))) (wNil))) (wCons (wC (.str "day")) (wCons (wTup (wCons (wC (.str "")) (wCons (wC (.bl false)) (wNil)))) (wCons (wTup (wCons (wTup (wCons (wC (.int 1)) (wCons (wC (.int 0)) (wCons (wC (.int 1)) (wNil))))) (wNil))) (wNil)))))))))) (gNm 1)) (wSeq (wAsg (wOp dAdd (wVar 1) (wLst false (wCons (wTup (wCons (wTup (wCons (wC (.int 0)) (wCons (wLst false (wCons (wC (.int 0)) (wNil))) (wNil)))) (wNil))) (wCons (wTup (wCons (wTup (wCons (wTup (wCons (wTup (wCons (wTup (wCons (wTup (wCons (wTup (wCons (wTup (wCons (wTup (wCons (wC (.int 0)) (wNil))) (wNil))) (wNil))) (wNil))) (wNil))) (wNil))) (wNil))) (wNil))) (wNil))) (wCons (wOp dMulS (wC (.str "x")) (wC (.int 3999))) (wCons (wTup (wCons (wC (.int 0)) (wCons (wTup (wCons (wC (.int 0)) (wCons (wC (.dct [])) (wNil)))) (wNil)))) (wCons (wTup (wCons (wTup (wCons (wC (.int 0)) (wCons (wC (.int 0)) (wNil)))) (wCons (wTup (wCons (wC (.int 0)) (wCons (wC (.int 1)) (wNil)))) (wCons (wLst false (wCons (wC (.int 1)) (wCons (wC (.int 0)) (wNil)))) (wNil))))) (wNil)))))))) (gNm 1)) (wRet (wOp dIx (wVar 1) (wOp dMod (wVar 0) (wCB bLen (wCons (wVar 1) (wNil)))))))))
theorem pick_of {xs : List D} {i : Int} {P R : D → Prop} (h0 : 0 ≤ i) (h1 : i < xs.length) (hP : ∀ x ∈ xs, P x) (hR : ∀ x, P x → R x) : ∃ d, atI xs i = some d ∧ R d := by
  obtain ⟨d, h2, h3⟩ := pick (xs := xs) h0 h1
  exact ⟨d, h2, hR d (hP d h3)⟩
def fewB : D → Bool
  | .tup ds => decide (ds.length ≤ 100)
  | _ => true
def S_f_law_odd : DL.Spec := ⟨1, Int, fun n => [.int n], fun _ _ => True, fun _ st d st' => st' = st ∧ Tiny d ∧ fewB d = true⟩
theorem odd_use {n : Int} {st : Sto} {Q : DK} (q : ∀ d, Tiny d → Q d st) :
    ∃ g, [D.int n] = S_f_law_odd.args g ∧ (S_f_law_odd.args g).length = S_f_law_odd.n ∧ S_f_law_odd.pre g st ∧ ∀ d s2, S_f_law_odd.post g st d s2 → Q d s2 :=
  ⟨n, rfl, rfl, trivial, fun d s2 ⟨e, h, _⟩ => by subst e; exact q d h⟩
theorem vc_f_law_odd : ∀ g sto, (S_f_law_odd.args g).length = S_f_law_odd.n → S_f_law_odd.pre g sto → w_f_law_odd (bodyEnds (S_f_law_odd.post g sto)) (startE ["_law_number", "_law_odd_here"] (S_f_law_odd.args g)) sto := by
  rintro (n : Int) sto _ _
  simp? only [w_f_law_odd, S_f_law_odd]
  repeat refine ⟨by decide, ?_⟩
  refine pick_of (P := fun d => Tiny d ∧ fewB d = true) (modb n (by decide)).1 (modb n (by decide)).2 ?_ fun x h => h
  repeat refine List.forall_mem_cons.mpr ⟨⟨by first | with_reducible exact odd_x | exact odd_by (by decide +kernel), rfl⟩, ?_⟩
  exact fun _ h => (nomatch h)
def B0 (ds : List D) : Prop := ∀ d ∈ ds, d.blw 0 = true
theorem b0_l : ∀ {ds : List D}, B0 ds → D.blwL 0 ds = true
  | [], _ => rfl
  | d :: r, h => by rw [D.blwL, h d List.mem_cons_self, b0_l fun x hx => h x (List.mem_cons_of_mem _ hx)]; rfl
theorem b0_t {ds : List D} (h : B0 ds) : D.blw 0 (.tup ds) = true := by simp only [D.blw, b0_l h]
theorem b0_s {ds : List D} (h : B0 ds) : D.blw 0 (.lst ds) = true := by simp only [D.blw, b0_l h]
theorem b0_a {a b : List D} (h : B0 a) (g : B0 b) : B0 (a ++ b) := fun d hd => (List.mem_append.mp hd).elim (h d) (g d)
theorem b0_c {a : List D} (h : B0 a) (x y : Option Int) : B0 (cutL a x y) := fun d hd => h d ((cut_sub a x y).subset hd)
theorem b0_1 {d : D} (h : d.blw 0 = true) : B0 [d] := fun x hx => by rw [List.mem_singleton] at hx; rw [hx]; exact h
theorem b0_p (qs : List P2) : B0 (qs.map encP) := fun d hd => by
  obtain ⟨p, _, rfl⟩ := List.mem_map.mp hd
  rfl
theorem cut_le {a : List D} (x y : Option Int) : (cutL a x y).length ≤ a.length := (cut_sub a x y).length_le
def w_f_law_bent_row : DS := wSeq (wAsg (wOp dMod (wCall S_f_law_next (wCons (wVar 0) (wNil))) (wC (.int 7))) (gNm 2)) (wSeq (wAsg (wCall S_f_law_next (wCons (wVar 0) (wNil))) (gNm 3)) (wSeq (wAsg (wCall S_f_law_next (wCons (wVar 0) (wNil))) (gNm 4)) (wSeq (wAsg (wOp dMod (wVar 3) (wCB bMax2 (wCons (wC (.int 1)) (wCons (wCB bLen (wCons (wVar 1) (wNil))) (wNil))))) (gNm 5)) (wSeq (wIf (wTest (wOp dEq (wVar 2) (wC (.int 0)))) (wRet (wOp dAdd (wSl false (wVar 1) oNo (oPart (wVar 5))) (wSl false (wVar 1) (oPart (wOp dAdd (wVar 5) (wC (.int 1)))) oNo))) ((fun D env st => D.nx env st))) (wSeq (wIf (wTest (wOp dEq (wVar 2) (wC (.int 1)))) (wRet (wOp dAdd (wOp dAdd (wSl false (wVar 1) oNo (oPart (wVar 5))) (wSl false (wVar 1) (oPart (wVar 5)) (oPart (wOp dAdd (wVar 5) (wC (.int 1)))))) (wSl false (wVar 1) (oPart (wVar 5)) oNo))) ((fun D env st => D.nx env st))) (wSeq (wIf (wTest (wOp dEq (wVar 2) (wC (.int 2)))) (wRet (wCB (bList false) (wCons (wVar 1) (wNil)))) ((fun D env st => D.nx env st))) (wSeq (wIf (wTest (wOp dEq (wVar 2) (wC (.int 3)))) (wRet (wOp dAdd (wOp dAdd (wSl false (wVar 1) oNo (oPart (wVar 5))) (wTup (wCons (wCall S_f_law_odd (wCons (wVar 4) (wNil))) (wNil)))) (wSl false (wVar 1) (oPart (wOp dAdd (wVar 5) (wC (.int 1)))) oNo))) ((fun D env st => D.nx env st))) (wSeq (wIf (wTest (wOp dEq (wVar 2) (wC (.int 4)))) (wRet (wOp dAdd (wSl false (wVar 1) (oPart (wVar 5)) oNo) (wSl false (wVar 1) oNo (oPart (wVar 5))))) ((fun D env st => D.nx env st))) (wSeq (wIf (wOr (wTest (wOp dEq (wVar 2) (wC (.int 5)))) (wTest (wOp dEq (wCB bLen (wCons (wVar 1) (wNil))) (wC (.int 0))))) (wRet (wOp dAdd (wVar 1) (wTup (wCons (wCall S_f_law_odd (wCons (wVar 4) (wNil))) (wNil))))) ((fun D env st => D.nx env st))) (wSeq (wAsg (wOp dIx (wVar 1) (wVar 5)) (gNm 6)) (wSeq (wIf (wOr (wNot (wTest (wIsi "tuple" (wVar 6)))) (wTest (wOp dNe (wCB bLen (wCons (wVar 6) (wNil))) (wC (.int 2))))) (wRet (wRevA false (wVar 1))) ((fun D env st => D.nx env st))) (wSeq (wAsg (wOp dIx (wLst false (wCons (wNeg (wC (.int 1))) (wCons (wC (.int 1)) (wCons (wC (.int 2)) (wCons (wNeg (wC (.int 2))) (wCons (wC (.int 5)) (wNil))))))) (wOp dMod (wVar 4) (wC (.int 5)))) (gNm 7)) (wSeq (wAsg (wLst false (wCons (wTup (wCons (wOp dAdd (wOp dIx (wVar 6) (wC (.int 0))) (wVar 7)) (wCons (wOp dIx (wVar 6) (wC (.int 1))) (wNil)))) (wCons (wTup (wCons (wOp dIx (wVar 6) (wC (.int 0))) (wCons (wOp dAdd (wOp dIx (wVar 6) (wC (.int 1))) (wVar 7)) (wNil)))) (wCons (wCB (bList false) (wCons (wVar 6) (wNil))) (wCons (wSl false (wVar 6) oNo (oPart (wC (.int 1)))) (wCons (wOp dAdd (wVar 6) (wTup (wCons (wC (.int 0)) (wNil)))) (wCons (wTup (wCons (wOp dIx (wVar 6) (wC (.int 1))) (wCons (wOp dIx (wVar 6) (wC (.int 0))) (wNil)))) (wNil)))))))) (gNm 8)) (wSeq (wAsg (wOp dAdd (wVar 8) (wLst false (wCons (wTup (wCons (wOp dIx (wVar 6) (wC (.int 0))) (wCons (wC (.bl true)) (wNil)))) (wCons (wTup (wCons (wC (.bl false)) (wCons (wOp dIx (wVar 6) (wC (.int 1))) (wNil)))) (wCons (wTup (wCons (wOp dIx (wVar 6) (wC (.int 0))) (wCons (wC .non) (wNil)))) (wCons (wTup (wCons (wOp dIx (wVar 6) (wC (.int 0))) (wCons (wTup (wCons (wOp dIx (wVar 6) (wC (.int 1))) (wNil))) (wNil)))) (wNil))))))) (gNm 8)) (wRet (wOp dAdd (wOp dAdd (wSl false (wVar 1) oNo (oPart (wVar 5))) (wTup (wCons (wOp dIx (wVar 8) (wOp dMod (wOp dFdiv (wVar 4) (wC (.int 5))) (wCB bLen (wCons (wVar 8) (wNil))))) (wNil)))) (wSl false (wVar 1) (oPart (wOp dAdd (wVar 5) (wC (.int 1)))) oNo)))))))))))))))))
def S_f_law_bent_row : DL.Spec := deckS 2 10 (fun qs : List P2 => [encR qs]) (fun qs => qs.length ≤ 100) fun _ d => d.blw 0 = true
theorem vc_f_law_bent_row : ∀ g sto, (S_f_law_bent_row.args g).length = S_f_law_bent_row.n → S_f_law_bent_row.pre g sto → w_f_law_bent_row (bodyEnds (S_f_law_bent_row.post g sto)) (startE ["_law_deck_here", "_law_row", "_law_way", "_law_spot", "_law_number", "_law_at", "_law_one", "_law_step", "_law_odd_here"] (S_f_law_bent_row.args g)) sto := by
  rintro ⟨rest, B, qs⟩ sto _ ⟨hD, hB, hl⟩
  dsimp only at hD hB hl
  have z1 : 1 ≤ sizeLine := by decide
  have z5 : 5 ≤ sizeLine := by decide
  have z2 : 2 ≤ sizeLine := by decide
  have hb := b0_p qs
  have L : (qs.map encP).length ≤ 100 := by rw [List.length_map]; exact hl
  have c1 : ∀ (x y : Option Int), (cutL (qs.map encP) x y).length ≤ 100 := fun x y => Nat.le_trans (cut_le x y) L
  have zl : sizeLine = 16777216 := sizeLine_eq
  simp?! only [w_f_law_bent_row, S_f_law_bent_row, deckS, encR]
  refine seq_go ?_
  (try simp?! only [true_and])
  refine next_use hD (by omega) fun y1 st y10 y11 hD => ?_
  (try simp?! only [true_and])
  refine ⟨by decide, ?_⟩
  generalize y1 % 7 = way
  refine seq_go ?_
  (try simp?! only [true_and])
  refine next_use hD (by omega) fun y2 st y20 y21 hD => ?_
  refine seq_go ?_
  (try simp?! only [true_and])
  refine next_use hD (by omega) fun y3 st y30 y31 hD => ?_
  refine seq_go ?_
  (try simp?! only [true_and])
  have hD9 : Dk (B + 10) rest st := hD.mono (by omega)
  refine ⟨by split <;> omega, ?_⟩
  have mA := modb y2 (show (0 : Int) < (if (qs.length : Int) > 1 then (qs.length : Int) else 1) by split <;> omega)
  have eA : (if (qs.length : Int) > 1 then (qs.length : Int) else 1) = (if 1 < qs.length then (qs.length : Int) else 1) := by
    by_cases h : 1 < qs.length
    · rw [if_pos h, if_pos (by omega)]
    · rw [if_neg h, if_neg (by omega)]
  generalize y2 % (if (qs.length : Int) > 1 then (qs.length : Int) else 1) = a at mA ⊢
  have s2 : ∀ x y x' y' : Option Int, (cutL (qs.map encP) x y).length + (cutL (qs.map encP) x' y').length ≤ sizeLine := fun _ _ _ _ => Nat.le_trans (Nat.add_le_add (c1 _ _) (c1 _ _)) (by rw [zl]; decide)
  refine seq_go ?_
  (try simp?! only [true_and])
  by_cases h0 : way = 0
  · rw [if_pos (beq_iff_eq.mpr h0)]
    simp? only [v_slT, v_addT]
    exact ⟨s2 _ _ _ _, b0_t (b0_a (b0_c hb _ _) (b0_c hb _ _)), hD9⟩
  rw [if_neg (by rw [beq_iff_eq]; exact h0)]
  refine seq_go ?_
  (try simp?! only [true_and])
  by_cases h1 : way = 1
  · rw [if_pos (beq_iff_eq.mpr h1)]
    simp? only [v_slT, v_addT]
    have q1 := c1 none (some a)
    have q2 := c1 (some a) (some (a + 1))
    have q3 := c1 (some a) none
    exact ⟨by omega, by rw [List.length_append]; omega, b0_t (b0_a (b0_a (b0_c hb _ _) (b0_c hb _ _)) (b0_c hb _ _)), hD9⟩
  rw [if_neg (by rw [beq_iff_eq]; exact h1)]
  refine seq_go ?_
  (try simp?! only [true_and])
  by_cases h2 : way = 2
  · rw [if_pos (beq_iff_eq.mpr h2)]
    simp? only [v_listT]
    exact ⟨b0_s hb, hD9⟩
  rw [if_neg (by rw [beq_iff_eq]; exact h2)]
  refine seq_go ?_
  (try simp?! only [true_and])
  by_cases h3 : way = 3
  · rw [if_pos (beq_iff_eq.mpr h3)]
    simp? only [v_slT]
    refine odd_use fun d ⟨_, hd⟩ => ?_
    (try simp? only [v_addT])
    have q1 := c1 none (some a)
    have q3 := c1 (some (a + 1)) none
    exact ⟨z1, (by (try simp only [List.length_map, List.length_append, List.length_cons, List.length_nil, List.length_zipIdx, List.length_zip, List.length_range, Int.toNat_natCast, rangeD_len]); rw [sizeLine_eq]; omega), (by (try simp only [List.length_map, List.length_append, List.length_cons, List.length_nil, List.length_zipIdx, List.length_zip, List.length_range, Int.toNat_natCast, rangeD_len]); rw [sizeLine_eq]; omega), b0_t (b0_a (b0_a (b0_c hb _ _) (b0_1 hd.blw)) (b0_c hb _ _)), hD9⟩
  rw [if_neg (by rw [beq_iff_eq]; exact h3)]
  refine seq_go ?_
  (try simp?! only [true_and])
  by_cases h4 : way = 4
  · rw [if_pos (beq_iff_eq.mpr h4)]
    simp? only [v_slT, v_addT]
    exact ⟨s2 _ _ _ _, b0_t (b0_a (b0_c hb _ _) (b0_c hb _ _)), hD9⟩
  rw [if_neg (by rw [beq_iff_eq]; exact h4)]
  refine seq_go ?_
  (try simp?! only [true_and])
  by_cases h5 : way = 5 ∨ qs.length = 0
  · have : (way == 5) = true ∨ ((qs.length : Int) == 0) = true := h5.elim (fun h => .inl (beq_iff_eq.mpr h)) (fun h => .inr (beq_iff_eq.mpr (by omega)))
    have go : ∃ g, [D.int y3] = S_f_law_odd.args g ∧ (S_f_law_odd.args g).length = S_f_law_odd.n ∧ S_f_law_odd.pre g st ∧ ∀ d s2, S_f_law_odd.post g st d s2 → (1 ≤ sizeLine ∧ qs.length + 1 ≤ sizeLine ∧ D.blw 0 (.tup (qs.map encP ++ [d])) = true ∧ Dk (B + 10) rest s2) := by
      refine odd_use fun d ⟨_, hd⟩ => ?_
      exact ⟨z1, by omega, b0_t (b0_a hb (b0_1 hd.blw)), hD9⟩
    by_cases hw : way = 5
    · rw [if_pos (beq_iff_eq.mpr hw)]
      exact go
    · rw [if_neg (by rw [beq_iff_eq]; exact hw), if_pos (beq_iff_eq.mpr (by rcases h5 with h | h; exact absurd h hw; omega))]
      exact go
  have hw5 : way ≠ 5 := fun h => h5 (.inl h)
  have hql : qs.length ≠ 0 := fun h => h5 (.inr h)
  rw [if_neg (by rw [beq_iff_eq]; exact hw5), if_neg (by rw [beq_iff_eq]; omega)]
  have hal : 0 ≤ a ∧ a < qs.length := by
    refine ⟨mA.1, ?_⟩
    have := mA.2
    split at this <;> omega
  obtain ⟨p, hp, _⟩ := pk (enc := encP) hal.1 hal.2
  refine seq_go ?_
  simp?! only [hp]
  refine seq_go ?_
  simp?! only [encP, isa_tupT]
  refine ⟨noRef_of (show D.blw 0 (.tup [.int p.1, .int p.2]) = true from rfl), ?_⟩
  rw [if_neg (by decide)]
  have m5 := modb y3 (show (0 : Int) < 5 by decide)
  obtain ⟨v, hv, _⟩ := pickI (ns := [-1, 1, 2, -2, 5]) (i := y3 % 5) m5.1 (by show y3 % 5 < 5; exact m5.2)
  simp only [List.map_cons, List.map_nil] at hv
  refine seq_go ?_
  simp?! only [hv]
  refine ⟨z5, by decide, ?_⟩
  refine seq_go ?_
  simp?! only [v_listT, v_slT]
  refine ⟨z2, z2, z1, (by decide : 3 ≤ sizeLine), z2, (by decide : 6 ≤ sizeLine), ?_⟩
  have i2 : ∀ x y : D, x.blw 0 = true → y.blw 0 = true → B0 [x, y] := fun x y hx hy => b0_a (b0_1 hx) (b0_1 hy)
  have ii : ∀ i : Int, D.blw 0 (.int i) = true := fun _ => rfl
  have hos : B0 ([D.tup [.int (p.1 + v), .int p.2], .tup [.int p.1, .int (p.2 + v)], .lst [.int p.1, .int p.2], .tup (cutL [.int p.1, .int p.2] none (some 1)), .tup [.int p.1, .int p.2, .int 0], .tup [.int p.2, .int p.1]]) :=
    b0_a (b0_1 (b0_t (i2 _ _ rfl rfl))) (b0_a (b0_1 (b0_t (i2 _ _ rfl rfl))) (b0_a (b0_1 (b0_s (i2 _ _ rfl rfl))) (b0_a (b0_1 (b0_t (b0_c (i2 _ _ rfl rfl) _ _))) (b0_a (b0_1 (b0_t (b0_a (i2 _ _ rfl rfl) (b0_1 rfl)))) (b0_1 (b0_t (i2 _ _ rfl rfl)))))))
  have hos2 : B0 [D.tup [.int p.1, .bl true], .tup [.bl false, .int p.2], .tup [.int p.1, .non], .tup [.int p.1, .tup [.int p.2]]] :=
    b0_a (b0_1 (b0_t (i2 _ _ rfl rfl))) (b0_a (b0_1 (b0_t (i2 _ _ rfl rfl))) (b0_a (b0_1 (b0_t (i2 _ _ rfl rfl))) (b0_1 (b0_t (i2 _ _ rfl (b0_t (b0_1 rfl)))))))
  refine seq_cut (fun e st2 => ∃ os, B0 os ∧ os.length = 10 ∧ e = [some (.ref 2), some (.tup (qs.map encP)), some (.int way), some (.int y2), some (.int y3), some (.int a), some (.tup [.int p.1, .int p.2]), some (.int v), some (.lst os)] ∧ st2 = st) (fun K hK => ?_) ?_
  · generalize hosE : [D.tup [.int (p.1 + v), .int p.2], .tup [.int p.1, .int (p.2 + v)], .lst [.int p.1, .int p.2], .tup (cutL [.int p.1, .int p.2] none (some 1)), .tup [.int p.1, .int p.2, .int 0], .tup [.int p.2, .int p.1]] = os at hos ⊢
    have hol : os.length = 6 := by rw [← hosE]; rfl
    (try simp?! only [true_and])
    refine ⟨z2, z2, z2, z1, z2, (by decide : 4 ≤ sizeLine), (by (try simp only [List.length_map, List.length_append, List.length_cons, List.length_nil, List.length_zipIdx, List.length_zip, List.length_range, Int.toNat_natCast, rangeD_len]); rw [sizeLine_eq]; omega), ?_⟩
    exact hK _ _ ⟨_, b0_a hos hos2, by rw [List.length_append, hol]; rfl, rfl, rfl⟩
  rintro e st2 ⟨os, hob, hol, rfl, rfl⟩
  (try simp?! only [true_and])
  simp? only [v_slT]
  have m6 := modb (y3 / 5) (show (0 : Int) < (os.length : Int) by omega)
  obtain ⟨d, h2, h3⟩ := pick_of (xs := os) (i := y3 / 5 % (os.length : Int)) (P := fun d => d.blw 0 = true) (R := fun d => d.blw 0 = true) m6.1 m6.2 hob fun _ h => h
  have q1 := c1 none (some a)
  have q3 := c1 (some (a + 1)) none
  exact ⟨by decide, by omega, d, h2, z1, (by (try simp only [List.length_map, List.length_append, List.length_cons, List.length_nil, List.length_zipIdx, List.length_zip, List.length_range, Int.toNat_natCast, rangeD_len]); rw [sizeLine_eq]; omega), (by (try simp only [List.length_map, List.length_append, List.length_cons, List.length_nil, List.length_zipIdx, List.length_zip, List.length_range, Int.toNat_natCast, rangeD_len]); rw [sizeLine_eq]; omega), b0_t (b0_a (b0_a (b0_c hb _ _) (b0_1 h3)) (b0_c hb _ _)), hD9⟩
def w_f_law_bent_paper : DS := wSeq (wAsg (wOp dMod (wCall S_f_law_next (wCons (wVar 0) (wNil))) (wC (.int 12))) (gNm 2)) (wSeq (wIf (wTest (wOp dLt (wVar 2) (wC (.int 5)))) (wRet (wTup (wCons (wCall S_f_law_bent_row (wCons (wVar 0) (wCons (wOp dIx (wVar 1) (wC (.int 0))) (wNil)))) (wCons (wOp dIx (wVar 1) (wC (.int 1))) (wNil))))) ((fun D env st => D.nx env st))) (wSeq (wIf (wTest (wOp dLt (wVar 2) (wC (.int 10)))) (wRet (wTup (wCons (wOp dIx (wVar 1) (wC (.int 0))) (wCons (wCall S_f_law_bent_row (wCons (wVar 0) (wCons (wOp dIx (wVar 1) (wC (.int 1))) (wNil)))) (wNil))))) ((fun D env st => D.nx env st))) (wRet (wOp dIx (wLst false (wCons (wCB (bList false) (wCons (wVar 1) (wNil))) (wCons (wSl false (wVar 1) oNo (oPart (wC (.int 1)))) (wCons (wOp dAdd (wVar 1) (wTup (wCons (wTup (wNil)) (wNil)))) (wCons (wTup (wCons (wOp dIx (wVar 1) (wC (.int 1))) (wCons (wOp dIx (wVar 1) (wC (.int 0))) (wNil)))) (wNil)))))) (wOp dMod (wCall S_f_law_next (wCons (wVar 0) (wNil))) (wC (.int 4)))))))
def S_f_law_bent_paper : DL.Spec := deckS 2 20 (fun x : List P2 × List P2 => [.tup [encR x.1, encR x.2]]) (fun x => x.1.length ≤ 100 ∧ x.2.length ≤ 100) fun _ d => d.blw 0 = true
theorem vc_f_law_bent_paper : ∀ g sto, (S_f_law_bent_paper.args g).length = S_f_law_bent_paper.n → S_f_law_bent_paper.pre g sto → w_f_law_bent_paper (bodyEnds (S_f_law_bent_paper.post g sto)) (startE ["_law_deck_here", "_law_paper_here", "_law_way"] (S_f_law_bent_paper.args g)) sto := by
  rintro ⟨rest, B, ps, qs⟩ sto _ ⟨hD, hB, hp, hq⟩
  dsimp only at hD hB hp hq
  have z1 : 1 ≤ sizeLine := by decide
  have z2 : 2 ≤ sizeLine := by decide
  have z4 : 4 ≤ sizeLine := by decide
  have bp : (encR ps).blw 0 = true := b0_t (b0_p ps)
  have bq : (encR qs).blw 0 = true := b0_t (b0_p qs)
  simp?! only [w_f_law_bent_paper, S_f_law_bent_paper, deckS]
  refine seq_go ?_
  (try simp?! only [true_and])
  refine next_use hD (by omega) fun y1 st y10 y11 hD => ?_
  (try simp?! only [true_and])
  refine ⟨by decide, ?_⟩
  generalize y1 % 12 = way
  refine seq_go ?_
  (try simp?! only [true_and])
  by_cases h0 : way < 5
  · rw [if_pos h0]
    (try simp?! only [true_and])
    refine use_deck ps rfl rfl hD (by omega) hp fun d st hd hD => ?_
    (try simp?! only [true_and])
    exact ⟨z2, b0_t (b0_a (b0_1 hd) (b0_1 bq)), hD.mono (by omega)⟩
  rw [if_neg h0]
  refine seq_go ?_
  (try simp?! only [true_and])
  by_cases h1 : way < 10
  · rw [if_pos h1]
    (try simp?! only [true_and])
    refine use_deck qs rfl rfl hD (by omega) hq fun d st hd hD => ?_
    (try simp?! only [true_and])
    exact ⟨z2, b0_t (b0_a (b0_1 bp) (b0_1 hd)), hD.mono (by omega)⟩
  rw [if_neg h1]
  (try simp?! only [true_and])
  simp? only [v_listT, v_slT]
  refine ⟨Nat.zero_le _, z1, (by decide : 3 ≤ sizeLine), z2, z4, ?_⟩
  refine next_use hD (by omega) fun y st y0 y1 hD => ?_
  have m4 := modb y (show (0 : Int) < 4 by decide)
  (try simp?! only [true_and])
  refine ⟨by decide, ?_⟩
  have hall : B0 [.lst [encR ps, encR qs], .tup (cutL [encR ps, encR qs] none (some 1)), .tup [encR ps, encR qs, .tup []], .tup [encR qs, encR ps]] := by
    have h2 : B0 [encR ps, encR qs] := b0_a (b0_1 bp) (b0_1 bq)
    exact b0_a (b0_1 (b0_s h2)) (b0_a (b0_1 (b0_t (b0_c h2 _ _))) (b0_a (b0_1 (b0_t (b0_a h2 (b0_1 rfl)))) (b0_1 (b0_t (b0_a (b0_1 bq) (b0_1 bp))))))
  obtain ⟨d, h2, h3⟩ := pick_of (xs := [.lst [encR ps, encR qs], .tup (cutL [encR ps, encR qs] none (some 1)), .tup [encR ps, encR qs, .tup []], .tup [encR qs, encR ps]]) (i := y % 4) (P := fun d => d.blw 0 = true) (R := fun d => d.blw 0 = true) m4.1 (by show y % 4 < 4; exact m4.2) hall fun _ h => h
  exact ⟨d, h2, h3, hD.mono (by omega)⟩
theorem qs_enc (qs : List (Nat × Int)) : D.tup (qs.map pairQ) = encR (qs.map fun x => ((x.1 : Int), x.2)) := by
  unfold encR
  rw [List.map_map]
  rfl
/-- all begun ways are ways -/
theorem pl_plan {s : Sy} (hs : S30 s) {f : List (List P2)} (hf : FieldOf s f) {ps : List P2} (hp : IsPl s f f.length ps) : IsPlan s ps := by
  have hwl : f.length = s.works.length := by rw [hf.len]; unfold wholeF; rw [List.length_map]
  refine ⟨by rw [hp.len, hwl], fun i p h => ?_, hp.ok⟩
  have hi : i < f.length := by rw [← hp.len]; exact (List.getElem?_eq_some_iff.mp h).1
  have hm := hp.mem i _ p (List.getElem?_eq_getElem hi) h
  obtain ⟨w, hw, hsub⟩ := mem_field (s := s) hf (List.getElem?_eq_getElem hi)
  have ew : w = wkAt s i := by have := wk_get (s := s) (i := i) (by omega); rw [hw] at this; exact Option.some.inj this
  rw [← ew, ← ways_okP hs hw, List.any_eq_true]
  exact ⟨p, hsub.subset hm, beq_self_eq_true _⟩
theorem PapIs.sho {s : Sy} {ps : List P2} {fs : List D} (hs : S30 s) (h : PapIs s ps fs) : Show s (keptK s ps) := by
  refine ⟨keptK_nd s ps, fun k hk => keptK_lt hk, fun k hk hn => ?_⟩
  have hkp : kpF s ps (wsAt s k) = false := by
    rw [Bool.eq_false_iff]
    intro e
    exact hn (List.mem_filter.mpr ⟨List.mem_range.mpr hk, e⟩)
  have hm : k ∈ leftL s ps := by
    rw [left_eq, List.mem_filter, List.mem_range]
    exact ⟨hk, by rw [hkp]; rfl⟩
  obtain ⟨i, hi⟩ := List.mem_iff_getElem?.mp hm
  obtain ⟨hpl, hl, hz⟩ := h
  have hil := (List.getElem?_eq_some_iff.mp hi).1
  have hz := hz (k, fs[i]'(by omega)) (List.mem_of_getElem? (List.getElem?_zip_eq_some.mpr ⟨hi, List.getElem?_eq_getElem (by omega)⟩))
  generalize fs[i]'(by omega) = d at hz
  dsimp only at hz
  unfold pairD at hz
  split at hz
  case h_2 => cases hz
  rename_i a b
  split at hz
  case isFalse => cases hz
  split at hz
  case isFalse => cases hz
  rename_i h2
  obtain ⟨D, rfl, h3, h4⟩ := fromF_iff.mp h2
  have hz : dayOkF s (kpL s ps) k D = true := hz
  rw [dayOk_perm (keptK_perm s ps)] at hz
  unfold dayOkF at hz
  rw [cnt_nb, beq_iff_eq] at hz
  have := (hs.wish _ (ws_at hk).2).day
  exact ⟨D, h3, by omega, h4, by omega⟩
theorem paper_best {s : Sy} (h : EvSy s) (hs : S30 s) (hw : 0 < s.works.length) {ps qs : List P2} {fs : List D} (hp : PapIs s ps fs) (hq : IsPlan s qs) : HT.lexLt (weighP s ps) (weighP s qs) = false := by
  rw [weigh_kp hs ps, sums_perm (keptK_perm s ps)]
  exact show_best h hs hw (hp.sho hs) hq
def w_f_law_any_paper_1 : DS := wSeq (wAsg (wCall S_f_law_next (wCons (wVar 0) (wNil))) (gNm 7)) (wIf (wNot (wTest (wCall S_f_law_kept (wCons (wVar 1) (wCons (wVar 6) (wCons (wOp dIx (wVar 3) (wOp dIx (wVar 6) (wC (.int 0)))) (wNil))))))) (wSeq (wAsg (wOp dAdd (wCall S_f_law_full_days (wCons (wVar 1) (wCons (wVar 3) (wCons (wVar 5) (wNil))))) (wLst false (wCons (wOp dMod (wVar 7) (wOp dAdd (wOp dIx (wVar 1) (wC (.int 0))) (wC (.int 1)))) (wNil)))) (gNm 8)) (wDrop (wM mAppend (wVar 4) (wCons (wTup (wCons (wVar 5) (wCons (wOp dIx (wVar 8) (wC (.int 0))) (wNil)))) (wNil))))) ((fun D env st => D.nx env st)))
def w_f_law_any_paper : DS := wSeq (wAsg (wOp dIx (wVar 2) (wOp dMod (wCall S_f_law_next (wCons (wVar 0) (wNil))) (wCB bLen (wCons (wVar 2) (wNil))))) (gNm 3)) (wSeq (wAsg (wLst true (wNil)) (gNm 4)) (wSeq (wFor (iEnum (wOp dIx (wVar 1) (wC (.int 3)))) (gTp 2 (gCn (gNm 5) (gCn (gNm 6) gNl))) w_f_law_any_paper_1) (wRet (wTup (wCons (wVar 3) (wCons (wCB bTuple (wCons (wVar 4) (wNil))) (wNil)))))))
def S_f_law_any_paper : DL.Spec := deckS 3 200 (fun x : Sy × List (List P2) => [x.1.d, .lst (x.2.map encR)]) (fun x => EvOk x.1 ∧ x.1.wishes.length ≤ 100 ∧ 0 < x.2.length ∧ x.2.length ≤ 1000000 ∧ ∀ ps ∈ x.2, ps.length = x.1.works.length) fun _ d => d.blw 0 = true
theorem vc_f_law_any_paper : ∀ g sto, (S_f_law_any_paper.args g).length = S_f_law_any_paper.n → S_f_law_any_paper.pre g sto → w_f_law_any_paper (bodyEnds (popEnds sto.length sto (S_f_law_any_paper.post g sto))) (startE ["_law_deck_here", "_law_system", "_law_plans_here", "_law_plan", "_law_fulls", "_law_place", "_law_wish", "_law_number", "_law_days"] (S_f_law_any_paper.args g)) sto := by
  rintro ⟨rest, B, s, L⟩ sto _ ⟨hD, hB, hok, hu, hL, hL2, hpl⟩
  have hD0 := hD
  dsimp only at hD hB hok hu hL hL2 hpl hD0
  have hsl := hD.len
  simp?! only [w_f_law_any_paper, S_f_law_any_paper, deckS, wFor]
  refine seq_go ?_
  (try simp?! only [true_and])
  refine next_use hD (by omega) fun y st y0 y1 hD => ?_
  have hm := modb y (show (0 : Int) < L.length by omega)
  obtain ⟨ps, hps, hpm⟩ := pk (enc := encR) hm.1 hm.2
  have hpn := hpl ps hpm
  simp?! only [hps]
  refine ⟨by omega, ?_⟩
  refine seq_go ?_
  (try simp?! only [true_and])
  have hsl2 := hD.len
  have hD := hD.push (c := .lst [])
  rw [hsl2]
  refine ⟨Nat.zero_le _, ?_⟩
  refine seq_cut (fun e st => ∃ fs x5 x6 x7 x8, e = [some (.ref 2), some s.d, some (.lst (L.map encR)), some (encR ps), some (.ref (rest.length + 3)), x5, x6, x7, x8] ∧ Dk (B + 200) (rest ++ [.lst fs]) st ∧ (∀ d ∈ fs, d.blw 0 = true)) (fun K hK => ?_) ?_
  · (try simp?! only [true_and])
    rw [enum_wishes]
    refine forL_inv (fun i e st => ∃ fs x5 x6 x7 x8, e = [some (.ref 2), some s.d, some (.lst (L.map encR)), some (encR ps), some (.ref (rest.length + 3)), x5, x6, x7, x8] ∧ Dk (B + 1 + i) (rest ++ [.lst fs]) st ∧ (∀ d ∈ fs, d.blw 0 = true) ∧ fs.length ≤ i) ?_ ?_ _ _ ⟨[], none, none, none, none, rfl, hD.mono (by omega), (fun d h => nomatch h), Nat.le_refl _⟩
    · rintro i e st d ⟨fs, x5, x6, x7, x8, rfl, hD, hfs, hfl⟩ he R hR
      have hil := (List.getElem?_eq_some_iff.mp he).1
      rw [List.length_map, List.length_range] at hil
      rw [List.getElem?_map, List.getElem?_range hil] at he
      cases he
      have hat := ws_at hil
      have huk := hok.s30.wish _ hat.2
      refine ⟨trivial, ?_⟩
      simp?! only [w_f_law_any_paper_1]
      refine seq_go ?_
      (try simp?! only [true_and])
      refine next_use hD (by omega) fun z st z0 z1 hD => ?_
      simp? only [ws_ix0, encR, way_ix huk hpn]
      refine use_pure (s, wsAt s i, wayOf ps (wsAt s i)) rfl rfl huk ?_
      refine ⟨_, rfl, ?_⟩
      dsimp only
      cases keptF s (wsAt s i) (wayOf ps (wsAt s i)) with
      | true => exact hR _ _ ⟨fs, _, _, _, _, rfl, hD.mono (by omega), hfs, by omega⟩
      | false =>
        rw [if_pos (by decide)]
        refine use_pure (s, ps, i) rfl rfl ⟨hok, hil, hpn⟩ ?_
        refine ⟨by have := hok.s30.days; omega, by decide, ?_⟩
        have hfl2 : (fullsF s ps i).length ≤ 1000 := by
          have h1 := List.length_filter_le (fun d => dayOkF s (kpL s ps) i d) (rangeI (wsAt s i).day (s.days + 1 - (wsAt s i).day).toNat)
          rw [rangeI_len] at h1
          have h2 := hok.s30.days
          have h3 := huk.day
          unfold fullsF
          omega
        have ea : (fullsF s ps i).map D.int ++ [D.int (z % (s.days + 1))] = (fullsF s ps i ++ [z % (s.days + 1)]).map D.int := by rw [List.map_append]; rfl
        obtain ⟨v, hv, _⟩ := pickI (ns := fullsF s ps i ++ [z % (s.days + 1)]) (i := 0) (Int.le_refl _) (by rw [List.length_append, List.length_singleton]; omega)
        have h2 : 2 ≤ sizeLine := by decide
        dsimp only
        simp? only [ea, hv, v_app hD.top]
        refine ⟨(by (try simp only [List.length_map, List.length_append, List.length_cons, List.length_nil, List.length_zipIdx, List.length_zip, List.length_range, Int.toNat_natCast, rangeD_len]); rw [sizeLine_eq]; omega), ⟨_, rd_ref' hD.top⟩, h2, (by (try simp only [List.length_map, List.length_append, List.length_cons, List.length_nil, List.length_zipIdx, List.length_zip, List.length_range, Int.toNat_natCast, rangeD_len]); rw [sizeLine_eq]; omega), ?_⟩
        have hD := hD.put (c' := .lst (fs ++ [.tup [.int (i : Nat), .int v]]))
        refine hR _ _ ⟨fs ++ [.tup [.int (i : Nat), .int v]], _, _, _, _, rfl, hD.mono (by omega), fun d hd => ?_, by rw [List.length_append, List.length_singleton]; omega⟩
        rcases List.mem_append.mp hd with h | h
        · exact hfs d h
        · rw [List.mem_singleton] at h; rw [h]; rfl
    · rintro e st ⟨fs, x5, x6, x7, x8, rfl, hD, hfs, _⟩
      rw [List.length_map, List.length_range] at hD
      exact ⟨trivial, hK _ _ ⟨fs, _, _, _, _, rfl, hD.mono (by omega), hfs⟩⟩
  rintro e st ⟨fs, x5, x6, x7, x8, rfl, hD, hfs⟩
  simp? only [v_tupL (rd_ref' hD.top)]
  refine ⟨by decide, ?_⟩
  have hb : ∀ n, (D.tup [encR ps, .tup fs]).blw n = true := fun n => by
    have : D.blwL 0 fs = true := b0_l hfs
    have h0 : (D.tup [encR ps, .tup fs]).blw 0 = true := by simp only [D.blw, D.blwL, encR, blw_encP, this, Bool.and_self]
    exact blw_up _ _ h0
  exact dk_pop hD0 hD (hb _) fun st1 h1 => ⟨hb 0, h1⟩
theorem lex_trans45 : ∀ {a b c : List Int}, HT.lexLt a b = false → HT.lexLt b c = false → a.length = b.length → b.length = c.length → HT.lexLt a c = false
  | [], [], [], _, _, _, _ => rfl
  | x :: a, y :: b, z :: c, h1, h2, l1, l2 => by
    rw [HT.lexLt_cons] at h1 h2 ⊢
    by_cases e1 : x = y
    · subst e1
      by_cases e2 : x = z
      · subst e2
        rw [if_pos rfl] at h1 h2 ⊢
        exact lex_trans45 h1 h2 (by simpa using l1) (by simpa using l2)
      · rw [if_neg e2] at h2 ⊢
        exact h2
    · rw [if_neg e1, decide_eq_false_iff_not] at h1
      by_cases e2 : y = z
      · subst e2
        rw [if_neg e1, decide_eq_false_iff_not]
        exact h1
      · rw [if_neg e2, decide_eq_false_iff_not] at h2
        rw [if_neg (by omega), decide_eq_false_iff_not]
        omega
theorem lex_anti45 : ∀ {a b : List Int}, HT.lexLt a b = false → HT.lexLt b a = false → a.length = b.length → a = b
  | [], [], _, _, _ => rfl
  | x :: a, y :: b, h1, h2, l => by
    rw [HT.lexLt_cons] at h1 h2
    by_cases e : x = y
    · subst e
      rw [if_pos rfl] at h1 h2
      rw [lex_anti45 h1 h2 (by simpa using l)]
    · rw [if_neg e, decide_eq_false_iff_not] at h1
      rw [if_neg (fun z => e z.symm), decide_eq_false_iff_not] at h2
      omega
theorem lex_asym45 : ∀ {a b : List Int}, HT.lexLt a b = true → HT.lexLt b a = false
  | [], [], h => by cases h
  | [], _ :: _, _ => rfl
  | _ :: _, [], h => by cases h
  | x :: a, y :: b, h => by
    rw [HT.lexLt_cons] at h ⊢
    by_cases e : x = y
    · subst e
      rw [if_pos rfl] at h ⊢
      exact lex_asym45 h
    · rw [if_neg e, decide_eq_true_iff] at h
      rw [if_neg (fun z => e z.symm), decide_eq_false_iff_not]
      omega
theorem lex_refl45 : ∀ a : List Int, HT.lexLt a a = false
  | [] => rfl
  | x :: a => by rw [HT.lexLt_cons, if_pos rfl, lex_refl45 a]
theorem maxR_is {n : Nat} : ∀ (L : List (List Int)) (w : List Int), w.length = n → (∀ y ∈ L, y.length = n) → maxR w L ∈ w :: L ∧ ∀ y ∈ w :: L, HT.lexLt (maxR w L) y = false
  | [], w, _, _ => ⟨List.mem_cons_self, fun y hy => by
    rw [List.mem_singleton] at hy
    rw [hy]
    exact lex_refl45 w⟩
  | z :: L, w, hw, hL => by
    have hz := hL z List.mem_cons_self
    have hL2 : ∀ y ∈ L, y.length = n := fun y hy => hL y (List.mem_cons_of_mem _ hy)
    show maxR (if HT.lexLt w z = true then z else w) L ∈ _ ∧ ∀ y ∈ _, HT.lexLt (maxR (if HT.lexLt w z = true then z else w) L) y = false
    have key : ∀ v, v.length = n → v ∈ w :: z :: L → HT.lexLt v w = false → HT.lexLt v z = false → maxR v L ∈ w :: z :: L ∧ ∀ y ∈ w :: z :: L, HT.lexLt (maxR v L) y = false := fun v hv hm h1 h2 => by
      obtain ⟨i1, i2⟩ := maxR_is (n := n) L v hv hL2
      have hml : (maxR v L).length = n := by
        rcases List.mem_cons.mp i1 with h | h
        · rw [h]; exact hv
        · exact hL2 _ h
      have hvm := i2 v List.mem_cons_self
      refine ⟨?_, fun y hy => ?_⟩
      · rcases List.mem_cons.mp i1 with h | h
        · rw [h]; exact hm
        · exact List.mem_cons_of_mem _ (List.mem_cons_of_mem _ h)
      · rcases List.mem_cons.mp hy with h | h
        · rw [h]; exact lex_trans45 hvm h1 (by omega) (by omega)
        · rcases List.mem_cons.mp h with h | h
          · rw [h]; exact lex_trans45 hvm h2 (by omega) (by omega)
          · exact i2 y (List.mem_cons_of_mem _ h)
    cases h : HT.lexLt w z with
    | true => exact key z hz (by simp) (lex_asym45 h) (lex_refl45 z)
    | false => exact key w hw (by simp) (lex_refl45 w) h
theorem maxR_eq {n : Nat} {w x : List Int} {L : List (List Int)} (hw : w.length = n) (hL : ∀ y ∈ L, y.length = n) (hx : x ∈ w :: L) (h : ∀ y ∈ w :: L, HT.lexLt x y = false) : maxR w L = x := by
  obtain ⟨h1, h2⟩ := maxR_is (n := n) L w hw hL
  have l : ∀ y ∈ w :: L, y.length = n := fun y hy => (List.mem_cons.mp hy).elim (fun e => by rw [e]; exact hw) (hL y)
  exact lex_anti45 (h2 x hx) (h _ h1) ((l _ h1).trans (l x hx).symm)
theorem plan_mem45 {s : Sy} (hs : S30 s) {ps : List P2} : ps ∈ plansF s (wholeF s) ↔ IsPlan s ps := by
  have hwl : (wholeF s).length = s.works.length := by unfold wholeF; rw [List.length_map]
  constructor
  · intro h
    unfold plansF at h
    split at h
    · cases h
    · exact pl_plan hs (SubF.refl _) ((mem_plansN (Nat.le_refl _)).mp h)
  · intro h
    have hI : IsPl s (wholeF s) (wholeF s).length ps := by
      refine ⟨h.len.trans hwl.symm, fun k r p hr hp => ?_, h.ok⟩
      have hk : k < s.works.length := by rw [← h.len]; exact (List.getElem?_eq_some_iff.mp hp).1
      unfold wholeF at hr
      rw [List.getElem?_map, wk_get hk] at hr
      cases hr
      have hw := h.way k p hp
      rw [okP_iff] at hw
      rw [mem_ways]
      exact ⟨⟨hw.1.1, by omega⟩, anyI_mem.mp hw.2.2.1, free_iff.mpr hw.2.2.2⟩
    unfold plansF
    split
    · rename_i he
      obtain ⟨r, hr, he⟩ := List.any_eq_true.mp he
      obtain ⟨k, hk, rfl⟩ := List.getElem_of_mem hr
      have := hI.mem k _ _ (List.getElem?_eq_getElem hk) (List.getElem?_eq_getElem (show k < ps.length by rw [h.len, ← hwl]; exact hk))
      rw [List.isEmpty_iff.mp he] at this
      cases this
    · exact (mem_plansN (Nat.le_refl _)).mpr hI
theorem many_pow45 : ∀ {f : List (List P2)} {k : Nat}, 1 ≤ k → (∀ r ∈ f, r.length ≤ k) → manyF f ≤ (k : Int) ^ f.length
  | [], _, _, _ => by show (1 : Int) ≤ _; simp
  | r :: f, k, hk, h => by
    have ih := many_pow45 hk fun q hq => h q (List.mem_cons_of_mem _ hq)
    have h1 := h r List.mem_cons_self
    have e : manyF (r :: f) = szF r * manyF f := by unfold manyF; rw [List.map_cons, prodI_cons]
    have hs : szF r ≤ (k : Int) ∧ 1 ≤ szF r := by unfold szF; split <;> omega
    have hp := manyF_pos f
    rw [e, List.length_cons, Int.pow_succ, Int.mul_comm _ (k : Int)]
    exact Int.mul_le_mul hs.1 ih (by omega) (by omega)
theorem weigh_len {s : Sy} (hs : S30 s) (ps : List P2) : (weighP s ps).length = 4 := by rw [weigh_kp hs]; rfl
theorem v_eqI45 {a b : List Int} {f : Bool → Bool} {st : Sto} {Q : DK} (q : a = b → Q (.bl (f true)) st) (h : a = b) : dEqB f (dInts a) (dInts b) st Q := by
  subst h
  refine .inr ⟨?_, ?_, ?_, ?_⟩
  · show (dInts a).ok = true
    simp only [dInts, D.ok, okL_ints]
  · show (dInts a).ok = true
    simp only [dInts, D.ok, okL_ints]
  · show min (dInts a).dep (dInts a).dep ≤ 60
    simp only [dInts, D.dep, depL_ints]
    decide
  · have e : (rd st (dInts a)).eqv (rd st (dInts a)) = true := by
      show (dInts a).eqv (dInts a) = true
      have el : ∀ ns : List Int, D.eqvL (ns.map .int) (ns.map .int) = true := fun ns => by
        induction ns with
        | nil => rfl
        | cons n r ih => rw [List.map_cons]; simp only [D.eqvL, D.eqv, ih, beq_self_eq_true, Bool.and_self]
      simp only [dInts, D.eqv, el, Bool.true_and, beq_self_eq_true, Bool.and_true]
    rw [e]
    exact q rfl
def w_p_law_1 : DE := wCall S_f_law_weights (wCons (wVar 3) (wCons (wVar 10) (wNil)))
def w_p_law_2 : DE := wCall S_f_law_bent_paper (wCons (wVar 1) (wCons (wVar 6) (wNil)))
def w_p_law_3 : DE := wCall S_f_law_any_paper (wCons (wVar 1) (wCons (wVar 3) (wCons (wVar 4) (wNil))))
def w_p_law_4 : DS := wIf (wAnd (wTest (wOp (dIsBl fun b => b) (wCall S_p_even_holds (wCons (wVar 3) (wCons (wVar 9) (wNil)))) (wC (.bl true)))) (wTest (wOp dNe (wCall S_f_law_weights (wCons (wVar 3) (wCons (wOp dIx (wVar 9) (wC (.int 0))) (wNil)))) (wVar 7)))) (wRet (wC (.bl false))) ((fun D env st => D.nx env st))
def w_p_law_5 : DS := wSeq (wAsg (wCall S_f_law_even (wCons (wVar 1) (wCons (wOp dIx (wLst false (wCons (wC (.int 4)) (wCons (wC (.int 7)) (wNil)))) (wVar 2)) (wCons (wOp dSub (wC (.int 2)) (wVar 2)) (wCons (wC (.int 5)) (wCons (wC (.int 3)) (wNil))))))) (gNm 3)) (wIf (wAnd (wTest (wOp dNe (wOp dIx (wVar 3) (wC (.int 2))) (wTup (wNil)))) (wTest (wOp dLe (wCB bLen (wCons (wOp dIx (wVar 3) (wC (.int 2))) (wNil))) (wCall S_f_law_room (wCons (wVar 3) (wCons (wOp dIx (wVar 3) (wC (.int 0))) (wNil))))))) (wSeq (wAsg (wCall S_f_law_plans (wCons (wVar 3) (wCons (wCall S_f_law_whole (wCons (wVar 3) (wNil))) (wNil)))) (gNm 4)) (wSeq (wAsg (wCall S_p_even (wCons (wVar 3) (wNil))) (gNm 5)) (wSeq (wAsg (wCall S_f_law_paper (wCons (wVar 1) (wCons (wVar 3) (wNil)))) (gNm 6)) (wSeq (wAsg (wCB bMaxT (wCons (wComp false (iSeq (wVar 4)) (.nm 10) wYes w_p_law_1 [10]) (wNil))) (gNm 7)) (wSeq (wAsg (wOp dAdd (wLst false (wCons (wVar 5) (wCons (wVar 6) (wNil)))) (wComp false (iRange1 (wCons (wC (.int 4)) (wNil))) (.nm 11) wYes w_p_law_2 [11])) (gNm 8)) (wSeq (wAsg (wOp dAdd (wVar 8) (wComp false (iRange1 (wCons (wC (.int 6)) (wNil))) (.nm 11) wYes w_p_law_3 [11])) (gNm 8)) (wSeq (wIf (wTest (wOp (dIsBl fun b => !b) (wCall S_p_even_holds (wCons (wVar 3) (wCons (wVar 5) (wNil)))) (wC (.bl true)))) (wRet (wC (.bl false))) ((fun D env st => D.nx env st))) (wFor (iSeq (wVar 8)) (gNm 9) w_p_law_4)))))))) ((fun D env st => D.nx env st)))
def w_p_law : DS := wSeq (wAsg (wCall S_f_law_deck (wCons (wVar 0) (wNil))) (gNm 1)) (wSeq (wFor (iRange1 (wCons (wC (.int 2)) (wNil))) (gNm 2) w_p_law_5) (wRet (wC (.bl true))))
def S_p_law : DL.Spec := ⟨1, List Int, fun ns => [.scr (ns.map .int)], fun ns st => ns.length ≤ 63 ∧ st = [], fun _ _ d _ => d = .bl true⟩
theorem vc_p_law : ∀ g sto, (S_p_law.args g).length = S_p_law.n → S_p_law.pre g sto → w_p_law (bodyEnds (S_p_law.post g sto)) (startE ["_law_script", "_law_deck_here", "_law_turn", "_law_system", "_law_plans_here", "_law_first", "_law_right", "_law_most", "_law_things", "_law_thing", "_law_plan", "_law_k"] (S_p_law.args g)) sto := by
  rintro (ns : List Int) sto _ ⟨hl, rfl⟩
  have z1 : 1 ≤ sizeLine := by decide
  have z2 : 2 ≤ sizeLine := by decide
  simp?! only [w_p_law, S_p_law, wFor, startE]
  refine seq_go ?_
  (try simp?! only [true_and])
  refine deck_use hl fun st hD => ?_
  refine seq_cut (fun _ _ => True) (fun K hK => ?_) fun e st _ => by (try simp?! only [true_and])
  (try simp?! only [true_and])
  refine ⟨by decide, ?_⟩
  refine forL_inv (fun i e s => ∃ x2 x3 x4 x5 x6 x7 x8 x9, e = [some (.scr (ns.map .int)), some (.ref 2), x2, x3, x4, x5, x6, x7, x8, x9, none, none] ∧ Dk (i * 20000) [] s) ?_ (fun e st _ => ⟨trivial, hK _ _ trivial⟩) _ _ ⟨_, _, _, _, _, _, _, _, rfl, hD.mono (by omega)⟩
  rintro i e st d ⟨x2, x3, x4, x5, x6, x7, x8, x9, rfl, hD⟩ he R hR
  obtain ⟨hi, rfl⟩ := rangeD_at he
  have hi2 : i < 2 := by simpa using hi
  refine ⟨trivial, ?_⟩
  simp?! only [w_p_law_5, wComp, wipeE, wFor]
  refine seq_go ?_
  obtain ⟨a, ea, hab⟩ : ∃ a : Int, atI [D.int 4, .int 7] (0 + (i : Int)) = some (.int a) ∧ ((a = 4 ∧ i = 0) ∨ (a = 7 ∧ i = 1)) := by
    have : i = 0 ∨ i = 1 := by omega
    rcases this with rfl | rfl
    · exact ⟨4, rfl, .inl ⟨rfl, rfl⟩⟩
    · exact ⟨7, rfl, .inr ⟨rfl, rfl⟩⟩
  simp?! only [ea]
  refine ⟨z2, ?_⟩
  refine use_deck (a, 2 - (0 + (i : Int)), 5, 3) rfl rfl hD (by omega) ⟨by dsimp only; omega, by dsimp only; omega, by dsimp only; omega, by dsimp only; omega⟩ fun d st hd hD => ?_
  obtain ⟨s, rfl, hs, hev⟩ := hd
  have hs : s.Ok a (2 - (0 + (i : Int))) 5 3 12 := hs
  have h30 : S30 s := s30_of hs (by omega) (by omega) (by omega) (by omega) (by omega)
  have hdays := hs.days
  have hhands := hs.hands
  have hwl := hs.works
  have hul := hs.wishes
  have h38 : Ok38 s := ⟨⟨hs.days.1, by omega⟩, ⟨hs.hands.1, by omega⟩, hs.rows, by omega, fun j w hw => by have := hs.work j w hw; exact ⟨⟨this.len.1, by have := this.len.2; omega⟩, this.ahead, this.able, this.any⟩, by omega, hs.wish⟩
  have hok : EvOk s := ⟨h30, hev.kind⟩
  have next : ∀ x4 x5 x6 x7 x8 x9 st, Dk (i * 20000 + 20000) [] st → R [some (.scr (ns.map .int)), some (.ref 2), some (.int (0 + (i : Int))), some s.d, x4, x5, x6, x7, x8, x9, none, none] st := fun x4 x5 x6 x7 x8 x9 st h => hR _ _ ⟨_, _, _, _, _, _, _, _, rfl, h.mono (by omega)⟩
  (try simp?! only [true_and])
  refine ⟨Nat.zero_le _, okL_wksE _, ?_⟩
  rw [isE_map]
  cases he : s.works.isEmpty with
  | true => exact next _ _ _ _ _ _ _ (hD.mono (by omega))
  | false =>
    have hpos : 0 < s.works.length := List.length_pos_iff.mpr fun e => by rw [e] at he; cases he
    rw [if_pos (by decide)]
    refine use_pure (s, s.days) rfl rfl ⟨h30, hpos, by show 0 ≤ s.days; omega, by show s.days ≤ 1000; omega⟩ ?_
    (try simp?! only [true_and])
    split
    case isFalse => exact next _ _ _ _ _ _ _ (hD.mono (by omega))
    rename_i hroom
    have hroom : RoomOk s := .inr hroom
    refine seq_go ?_
    (try simp?! only [true_and])
    refine use_pure s rfl rfl (good30 h30) ?_
    have hwhl : (wholeF s).length = s.works.length := by unfold wholeF; rw [List.length_map]
    have hmany : manyF (wholeF s) ≤ 1000000 := by
      have := many_pow45 (f := wholeF s) (k := 8) (by decide) fun r hr => by
        unfold wholeF at hr
        obtain ⟨w, hw, rfl⟩ := List.mem_map.mp hr
        have h1 := waysL_len s w
        obtain ⟨l, hl⟩ := hev.works
        have h2 := hl w hw
        obtain ⟨j, hj⟩ := List.getElem?_of_mem hw
        have h3 := (hs.work j w hj).len
        have h4 : w.able.length = s.hands.length := by rw [h2]; exact rangeI_len _ _
        rw [h4] at h1
        refine Nat.le_trans h1 ?_
        rcases hab with ⟨rfl, rfl⟩ | ⟨rfl, rfl⟩
        · have : (s.days - w.len + 1).toNat ≤ 4 := by omega
          have h5 : s.hands.length ≤ 2 := by omega
          exact Nat.mul_le_mul this h5
        · have : (s.days - w.len + 1).toNat ≤ 8 := by omega
          have h5 : s.hands.length ≤ 1 := by omega
          exact Nat.mul_le_mul this h5
      refine Int.le_trans this ?_
      rw [hwhl]
      have h5 : s.works.length ≤ 5 := by omega
      calc ((8 : Nat) : Int) ^ s.works.length ≤ ((8 : Nat) : Int) ^ 5 := by exact_mod_cast Nat.pow_le_pow_right (by decide) h5
        _ ≤ 1000000 := by decide
    refine use_pure (s, wholeF s) rfl rfl ⟨by show (wholeF s).length ≤ s.works.length; omega, by show s.works.length ≤ 1000; omega, fun _ => hmany⟩ ?_
    dsimp only
    refine seq_go ?_
    (try simp?! only [true_and])
    refine ⟨s, rfl, rfl, ⟨h38, sy_evP hev, hroom⟩, ?_⟩
    rintro d st2 ⟨rfl, ps, qs, rfl, hk, hq⟩
    refine seq_go ?_
    (try simp?! only [true_and])
    refine use_deck s rfl rfl hD (by omega) ⟨hev, h30, hroom⟩ fun d st hd hD => ?_
    obtain ⟨ps2, qs2, rfl, hk2, hq2⟩ := hd
    have hmem := (plan_mem45 h30).mpr hk.pl
    obtain ⟨p0, PL, hPL⟩ : ∃ p0 PL, plansF s (wholeF s) = p0 :: PL := List.exists_cons_of_ne_nil fun e => by rw [e] at hmem; cases hmem
    have hpln : ∀ q ∈ plansF s (wholeF s), IsPlan s q := fun q hq => (plan_mem45 h30).mp hq
    have hnum : (plansF s (wholeF s)).length ≤ 1000000 := by
      have h1 : ((plansF s (wholeF s)).length : Int) ≤ 1000000 := by
        unfold plansF
        split
        · simp
        · have := plansN_len (s := s) (f := wholeF s) (i := (wholeF s).length) (Nat.le_refl _)
          rw [List.take_length] at this
          omega
      omega
    refine seq_go ?_
    (try simp?! only [true_and])
    refine ⟨by have : 1000000 ≤ sizeLine := (by rw [sizeLine_eq]; decide); omega, ?_⟩
    refine compL_all encR (fun q => weighP s q) dInts trivial _ (fun q hqm R hR => ?_) ?_
    · simp? only [Tg.dg, wYes, w_p_law_1]
      exact use_pure (s, q) rfl rfl ⟨h30.wish, (hpln q hqm).len⟩ hR
    (try simp?! only [true_and])
    rw [hPL]
    refine v_maxT (w := weighP s p0) (L := PL.map (weighP s)) ?_
    have hbest : ∀ q, IsPlan s q → (∀ r ∈ plansF s (wholeF s), HT.lexLt (weighP s q) (weighP s r) = false) → maxR (weighP s p0) (PL.map (weighP s)) = weighP s q := fun q hq h => by
      have e : weighP s p0 :: PL.map (weighP s) = (plansF s (wholeF s)).map (weighP s) := by rw [hPL]; rfl
      refine maxR_eq (n := 4) (weigh_len h30 _) (fun y hy => ?_) ?_ fun y hy => ?_
      · obtain ⟨r, _, rfl⟩ := List.mem_map.mp hy
        exact weigh_len h30 _
      · rw [e]
        exact List.mem_map.mpr ⟨q, (plan_mem45 h30).mpr hq, rfl⟩
      · rw [e] at hy
        obtain ⟨r, hr, rfl⟩ := List.mem_map.mp hy
        exact h r hr
    rw [← hPL]
    generalize maxR (weighP s p0) (PL.map (weighP s)) = mx at hbest ⊢
    have hq2l := qs_len hq2
    refine seq_cut (fun e st => ∃ ds, e = [some (.scr (ns.map .int)), some (.ref 2), some (.int (0 + (i : Int))), some s.d, some (.lst ((plansF s (wholeF s)).map encR)), some (.tup [encR ps, .tup (qs.map pairQ)]), some (.tup [encR ps2, .tup (qs2.map pairQ)]), some (.tup (mx.map .int)), some (.lst ds), x9, none, none] ∧ (∀ d ∈ ds, d.blw 0 = true) ∧ ds.length ≤ 10 ∧ Dk (i * 20000 + 6000) [] st) (fun K2 hK2 => ?_) ?_
    · (try simp?! only [true_and])
      refine ⟨z2, by decide, by rw [rangeD_len, sizeLine_eq]; decide, ?_⟩
      refine compL_inv (fun j st acc => acc.length = j ∧ (∀ d ∈ acc, d.blw 0 = true) ∧ Dk (i * 20000 + 5000 + j * 20) [] st) ?_ ?_ _ _ ⟨(rfl : ([] : List D).length = 0), (fun d (h : d ∈ ([] : List D)) => nomatch h), hD.mono (by omega)⟩
      · rintro j st acc d ⟨hj, hacc, hD⟩ he R1 hR1
        obtain ⟨hj4, rfl⟩ := rangeD_at he
        have hj4 : j < 4 := by simpa using hj4
        refine ⟨trivial, ?_⟩
        simp? only [Tg.dg, wYes, w_p_law_2, qs_enc]
        refine use_deck (ps2, qs2.map fun x => ((x.1 : Int), x.2)) rfl rfl hD (by omega) ⟨by have := hk2.pl.len; dsimp only; omega, by dsimp only; rw [List.length_map]; omega⟩ fun d st hd hD => ?_
        refine hR1 _ _ ⟨by rw [List.length_append, List.length_singleton]; omega, fun d hd2 => ?_, hD.mono (by omega)⟩
        rcases List.mem_append.mp hd2 with h | h
        · exact hacc d h
        · rw [List.mem_singleton] at h; rw [h]; exact hd
      · rintro st acc ⟨hj, hacc, hD⟩
        rw [rangeD_len] at hj hD
        have hj : acc.length = 4 := hj
        have b1 : ∀ (p : List P2) (q : List (Nat × Int)), (D.tup [encR p, .tup (q.map pairQ)]).blw 0 = true := fun p q => blw_pq 0 p q
        refine ⟨trivial, (by (try simp only [List.length_map, List.length_append, List.length_cons, List.length_nil, List.length_zipIdx, List.length_zip, List.length_range, Int.toNat_natCast, rangeD_len]); rw [sizeLine_eq]; omega), hK2 _ _ ⟨_, rfl, fun d hd => ?_, by simp only [List.length_cons]; omega, hD.mono (by show (i : Int) * 20000 + 5000 + ((4 : Nat) : Int) * 20 ≤ _; omega)⟩⟩
        rcases List.mem_cons.mp hd with h | h
        · rw [h]; exact b1 _ _
        · rcases List.mem_cons.mp h with h | h
          · rw [h]; exact b1 _ _
          · exact hacc d h
    rintro e st ⟨ds, rfl, hds, hdl, hD⟩
    refine seq_cut (fun e st => ∃ ds, e = [some (.scr (ns.map .int)), some (.ref 2), some (.int (0 + (i : Int))), some s.d, some (.lst ((plansF s (wholeF s)).map encR)), some (.tup [encR ps, .tup (qs.map pairQ)]), some (.tup [encR ps2, .tup (qs2.map pairQ)]), some (.tup (mx.map .int)), some (.lst ds), x9, none, none] ∧ (∀ d ∈ ds, d.blw 0 = true) ∧ ds.length ≤ 20 ∧ Dk (i * 20000 + 9000) [] st) (fun K2 hK2 => ?_) ?_
    · (try simp?! only [true_and])
      refine ⟨by decide, by rw [rangeD_len, sizeLine_eq]; decide, ?_⟩
      refine compL_inv (fun j st acc => acc.length = j ∧ (∀ d ∈ acc, d.blw 0 = true) ∧ Dk (i * 20000 + 6000 + j * 200) [] st) ?_ ?_ _ _ ⟨(rfl : ([] : List D).length = 0), (fun d (h : d ∈ ([] : List D)) => nomatch h), hD.mono (by omega)⟩
      · rintro j st acc d ⟨hj, hacc, hD⟩ he R1 hR1
        obtain ⟨hj6, rfl⟩ := rangeD_at he
        have hj6 : j < 6 := by simpa using hj6
        refine ⟨trivial, ?_⟩
        simp? only [Tg.dg, wYes, w_p_law_3]
        refine use_deck (s, plansF s (wholeF s)) rfl rfl hD (by omega) ⟨hok, by dsimp only; omega, by dsimp only; rw [hPL]; simp, hnum, fun q hq => (hpln q hq).len⟩ fun d st hd hD => ?_
        refine hR1 _ _ ⟨by rw [List.length_append, List.length_singleton]; omega, fun d hd2 => ?_, hD.mono (by omega)⟩
        rcases List.mem_append.mp hd2 with h | h
        · exact hacc d h
        · rw [List.mem_singleton] at h; rw [h]; exact hd
      · rintro st acc ⟨hj, hacc, hD⟩
        rw [rangeD_len] at hj hD
        have hj : acc.length = 6 := hj
        refine ⟨trivial, (by (try simp only [List.length_map, List.length_append, List.length_cons, List.length_nil, List.length_zipIdx, List.length_zip, List.length_range, Int.toNat_natCast, rangeD_len]); rw [sizeLine_eq]; omega), hK2 _ _ ⟨_, rfl, fun d hd => (List.mem_append.mp hd).elim (hds d) (hacc d), by rw [List.length_append]; omega, hD.mono (by show (i : Int) * 20000 + 6000 + ((6 : Nat) : Int) * 200 ≤ _; omega)⟩⟩
    rintro e st ⟨ds, rfl, hds, hdl, hD⟩
    refine seq_go ?_
    (try simp?! only [true_and])
    refine use_pure (s, D.tup [encR ps, .tup (qs.map pairQ)]) rfl rfl ⟨hok, blw_pq 0 ps qs⟩ ?_
    have hP : paperD s (.tup [encR ps, .tup (qs.map pairQ)]) = true := by
      rw [paper_enc]
      exact tr_true (hk.paper hq.1 hq.2)
    dsimp only
    rw [hP]
    refine ⟨_, _, rfl, rfl, _, rfl, ?_⟩
    rw [if_neg (by decide)]
    refine forL_inv (fun j e st => ∃ x9, e = [some (.scr (ns.map .int)), some (.ref 2), some (.int (0 + (i : Int))), some s.d, some (.lst ((plansF s (wholeF s)).map encR)), some (.tup [encR ps, .tup (qs.map pairQ)]), some (.tup [encR ps2, .tup (qs2.map pairQ)]), some (.tup (mx.map .int)), some (.lst ds), x9, none, none] ∧ Dk (i * 20000 + 9000) [] st) ?_ (fun e st ⟨x9, h, hD⟩ => ⟨trivial, by subst h; exact next _ _ _ _ _ _ _ (hD.mono (by omega))⟩) _ _ ⟨_, rfl, hD⟩
    rintro j e st d ⟨x9, rfl, hD⟩ he R1 hR1
    have hb := hds d (List.mem_of_getElem? he)
    refine ⟨trivial, ?_⟩
    simp?! only [w_p_law_4]
    refine use_pure (s, d) rfl rfl ⟨hok, hb⟩ ?_
    dsimp only
    refine ⟨_, _, rfl, rfl, _, rfl, ?_⟩
    cases hpd : paperD s d with
    | false =>
      rw [if_neg (by decide)]
      exact hR1 _ _ ⟨_, rfl, hD⟩
    | true =>
    rw [if_pos (by decide)]
    obtain ⟨rs, fs, rfl, hpap⟩ := tr_iff.mp hpd
    have hrs := hpap.1
    (try simp?! only [true_and])
    refine use_pure (s, rs) rfl rfl ⟨h30.wish, hrs.len⟩ ?_
    have hm : mx = weighP s rs := hbest rs hrs fun r hr => paper_best hev h30 hpos hpap (hpln r hr)
    refine v_eqI45 (f := fun b => !b) (fun _ => ?_) hm.symm
    refine ⟨_, rfl, ?_⟩
    rw [if_neg (by decide)]
    exact hR1 _ _ ⟨_, rfl, hD⟩
abbrev N_p_is_number : List Str := ["thing"]
theorem sc_p_is_number : FnScope N_p_is_number ["thing"] (defScope s_p_is_number) := ⟨rfl, rfl, rfl, by decide +kernel, rfl, by decide +kernel, by decide +kernel⟩
abbrev N_p_end_of : List Str := ["system", "work", "way"]
theorem sc_p_end_of : FnScope N_p_end_of ["system", "work", "way"] (defScope s_p_end_of) := ⟨rfl, rfl, rfl, by decide +kernel, rfl, by decide +kernel, by decide +kernel⟩
abbrev N_p_is_free : List Str := ["system", "hand", "first", "last", "day"]
theorem sc_p_is_free : FnScope N_p_is_free ["system", "hand", "first", "last"] (defScope s_p_is_free) := ⟨rfl, rfl, rfl, by decide +kernel, rfl, by decide +kernel, by decide +kernel⟩
abbrev N_p_is_even : List Str := ["system", "days", "hands", "works", "wishes", "away", "length", "ahead", "able", "work", "sort", "day", "weight", "rank", "wish"]
theorem sc_p_is_even : FnScope N_p_is_even ["system"] (defScope s_p_is_even) := ⟨rfl, rfl, rfl, by decide +kernel, rfl, by decide +kernel, by decide +kernel⟩
abbrev N_p_room_up_to : List Str := ["system", "day"]
theorem sc_p_room_up_to : FnScope N_p_room_up_to ["system", "day"] (defScope s_p_room_up_to) := ⟨rfl, rfl, rfl, by decide +kernel, rfl, by decide +kernel, by decide +kernel⟩
abbrev N_p_is_kept_evenpaper : List Str := ["system", "plan", "wish"]
theorem sc_p_is_kept_evenpaper : FnScope N_p_is_kept_evenpaper ["system", "plan", "wish"] (defScope s_p_is_kept_evenpaper) := ⟨rfl, rfl, rfl, by decide +kernel, rfl, by decide +kernel, by decide +kernel⟩
abbrev N_p_is_no_lower : List Str := ["wish", "other"]
theorem sc_p_is_no_lower : FnScope N_p_is_no_lower ["wish", "other"] (defScope s_p_is_no_lower) := ⟨rfl, rfl, rfl, by decide +kernel, rfl, by decide +kernel, by decide +kernel⟩
abbrev N_p_in_blocks : List Str := ["system", "works", "plan", "place", "work"]
theorem sc_p_in_blocks : FnScope N_p_in_blocks ["system", "works"] (defScope s_p_in_blocks) := ⟨rfl, rfl, rfl, by decide +kernel, rfl, by decide +kernel, by decide +kernel⟩
abbrev N_f_law_deck : List Str := ["_law_script", "_law_digits", "_law_cells", "_law_cell"]
theorem sc_f_law_deck : FnScope N_f_law_deck ["_law_script"] (defScope s_f_law_deck) := ⟨rfl, rfl, rfl, by decide +kernel, rfl, by decide +kernel, by decide +kernel⟩
abbrev N_f_law_next : List Str := ["_law_deck_here", "_law_at", "_law_primes", "_law_cell", "_law_mixed"]
theorem sc_f_law_next : FnScope N_f_law_next ["_law_deck_here"] (defScope s_f_law_next) := ⟨rfl, rfl, rfl, by decide +kernel, rfl, by decide +kernel, by decide +kernel⟩
abbrev N_f_law_odd : List Str := ["_law_number", "_law_odd_here"]
theorem sc_f_law_odd : FnScope N_f_law_odd ["_law_number"] (defScope s_f_law_odd) := ⟨rfl, rfl, rfl, by decide +kernel, rfl, by decide +kernel, by decide +kernel⟩
abbrev N_f_law_ways : List Str := ["_law_system", "_law_work", "_law_days", "_law_hands", "_law_works", "_law_length", "_law_ahead", "_law_able", "_law_found", "_law_start", "_law_hand", "_law_day"]
theorem sc_f_law_ways : FnScope N_f_law_ways ["_law_system", "_law_work"] (defScope s_f_law_ways) := ⟨rfl, rfl, rfl, by decide +kernel, rfl, by decide +kernel, by decide +kernel⟩
abbrev N_f_law_clash : List Str := ["_law_system", "_law_one", "_law_way", "_law_other", "_law_other_way", "_law_end", "_law_other_end"]
theorem sc_f_law_clash : FnScope N_f_law_clash ["_law_system", "_law_one", "_law_way", "_law_other", "_law_other_way"] (defScope s_f_law_clash) := ⟨rfl, rfl, rfl, by decide +kernel, rfl, by decide +kernel, by decide +kernel⟩
abbrev N_f_law_kept : List Str := ["_law_system", "_law_wish", "_law_way"]
theorem sc_f_law_kept : FnScope N_f_law_kept ["_law_system", "_law_wish", "_law_way"] (defScope s_f_law_kept) := ⟨rfl, rfl, rfl, by decide +kernel, rfl, by decide +kernel, by decide +kernel⟩
abbrev N_f_law_room : List Str := ["_law_system", "_law_day"]
theorem sc_f_law_room : FnScope N_f_law_room ["_law_system", "_law_day"] (defScope s_f_law_room) := ⟨rfl, rfl, rfl, by decide +kernel, rfl, by decide +kernel, by decide +kernel⟩
abbrev N_f_law_blocks : List Str := ["_law_system", "_law_first", "_law_works", "_law_found", "_law_place", "_law_work"]
theorem sc_f_law_blocks : FnScope N_f_law_blocks ["_law_system", "_law_first"] (defScope s_f_law_blocks) := ⟨rfl, rfl, rfl, by decide +kernel, rfl, by decide +kernel, by decide +kernel⟩
abbrev N_p_is_from : List Str := ["thing", "low", "high"]
theorem sc_p_is_from : FnScope N_p_is_from ["thing", "low", "high"] (defScope s_p_is_from) := ⟨rfl, rfl, rfl, by decide +kernel, rfl, by decide +kernel, by decide +kernel⟩
abbrev N_p_is_behind : List Str := ["system", "one", "way", "other", "other_way"]
theorem sc_p_is_behind : FnScope N_p_is_behind ["system", "one", "way", "other", "other_way"] (defScope s_p_is_behind) := ⟨rfl, rfl, rfl, by decide +kernel, rfl, by decide +kernel, by decide +kernel⟩
abbrev N_p_do_fit : List Str := ["system", "days", "place", "day"]
theorem sc_p_do_fit : FnScope N_p_do_fit ["system", "days"] (defScope s_p_do_fit) := ⟨rfl, rfl, rfl, by decide +kernel, rfl, by decide +kernel, by decide +kernel⟩
abbrev N_f_law_goes : List Str := ["_law_system", "_law_ways_here", "_law_work", "_law_way", "_law_one"]
theorem sc_f_law_goes : FnScope N_f_law_goes ["_law_system", "_law_ways_here", "_law_work", "_law_way"] (defScope s_f_law_goes) := ⟨rfl, rfl, rfl, by decide +kernel, rfl, by decide +kernel, by decide +kernel⟩
abbrev N_f_law_whole : List Str := ["_law_system", "_law_work"]
theorem sc_f_law_whole : FnScope N_f_law_whole ["_law_system"] (defScope s_f_law_whole) := ⟨rfl, rfl, rfl, by decide +kernel, rfl, by decide +kernel, by decide +kernel⟩
abbrev N_f_law_weights : List Str := ["_law_system", "_law_plan", "_law_found", "_law_wish", "_law_more"]
theorem sc_f_law_weights : FnScope N_f_law_weights ["_law_system", "_law_plan"] (defScope s_f_law_weights) := ⟨rfl, rfl, rfl, by decide +kernel, rfl, by decide +kernel, by decide +kernel⟩
abbrev N_f_law_even_wish : List Str := ["_law_deck_here", "_law_work", "_law_days", "_law_ranks", "_law_weight"]
theorem sc_f_law_even_wish : FnScope N_f_law_even_wish ["_law_deck_here", "_law_work", "_law_days"] (defScope s_f_law_even_wish) := ⟨rfl, rfl, rfl, by decide +kernel, rfl, by decide +kernel, by decide +kernel⟩
abbrev N_f_law_may : List Str := ["_law_system", "_law_places", "_law_day", "_law_place"]
theorem sc_f_law_may : FnScope N_f_law_may ["_law_system", "_law_places"] (defScope s_f_law_may) := ⟨rfl, rfl, rfl, by decide +kernel, rfl, by decide +kernel, by decide +kernel⟩
abbrev N_f_law_full_days : List Str := ["_law_system", "_law_plan", "_law_place", "_law_wish", "_law_found", "_law_day", "_law_many", "_law_one", "_law_high"]
theorem sc_f_law_full_days : FnScope N_f_law_full_days ["_law_system", "_law_plan", "_law_place"] (defScope s_f_law_full_days) := ⟨rfl, rfl, rfl, by decide +kernel, rfl, by decide +kernel, by decide +kernel⟩
abbrev N_f_law_bent_row : List Str := ["_law_deck_here", "_law_row", "_law_way", "_law_spot", "_law_number", "_law_at", "_law_one", "_law_step", "_law_odd_here"]
theorem sc_f_law_bent_row : FnScope N_f_law_bent_row ["_law_deck_here", "_law_row"] (defScope s_f_law_bent_row) := ⟨rfl, rfl, rfl, by decide +kernel, rfl, by decide +kernel, by decide +kernel⟩
abbrev N_p_is_way : List Str := ["system", "work", "thing", "length", "ahead", "able", "begin", "hand"]
theorem sc_p_is_way : FnScope N_p_is_way ["system", "work", "thing"] (defScope s_p_is_way) := ⟨rfl, rfl, rfl, by decide +kernel, rfl, by decide +kernel, by decide +kernel⟩
abbrev N_p_clash : List Str := ["system", "one", "way", "other", "other_way"]
theorem sc_p_clash : FnScope N_p_clash ["system", "one", "way", "other", "other_way"] (defScope s_p_clash) := ⟨rfl, rfl, rfl, by decide +kernel, rfl, by decide +kernel, by decide +kernel⟩
abbrev N_p_holds_full : List Str := ["system", "kept", "place", "pair", "wish", "day", "one"]
theorem sc_p_holds_full : FnScope N_p_holds_full ["system", "kept", "place", "pair"] (defScope s_p_holds_full) := ⟨rfl, rfl, rfl, by decide +kernel, rfl, by decide +kernel, by decide +kernel⟩
abbrev N_p_taken_wishes : List Str := ["system", "turns", "taken", "days", "rank", "below", "place", "day", "wish"]
theorem sc_p_taken_wishes : FnScope N_p_taken_wishes ["system"] (defScope s_p_taken_wishes) := ⟨rfl, rfl, rfl, by decide +kernel, rfl, by decide +kernel, by decide +kernel⟩
abbrev N_f_law_plans : List Str := ["_law_system", "_law_field", "_law_found", "_law_work", "_law_row", "_law_longer_rows", "_law_ways_here", "_law_way"]
theorem sc_f_law_plans : FnScope N_f_law_plans ["_law_system", "_law_field"] (defScope s_f_law_plans) := ⟨rfl, rfl, rfl, by decide +kernel, rfl, by decide +kernel, by decide +kernel⟩
abbrev N_f_law_even : List Str := ["_law_deck_here", "_law_days", "_law_hands", "_law_works", "_law_length", "_law_many", "_law_able", "_law_size", "_law_room_here", "_law_count", "_law_turn", "_law_wishes", "_law_k"]
theorem sc_f_law_even : FnScope N_f_law_even ["_law_deck_here", "_law_days", "_law_hands", "_law_works", "_law_length"] (defScope s_f_law_even) := ⟨rfl, rfl, rfl, by decide +kernel, rfl, by decide +kernel, by decide +kernel⟩
abbrev N_f_law_taken : List Str := ["_law_system", "_law_taken_here", "_law_rank", "_law_weight", "_law_place", "_law_wish"]
theorem sc_f_law_taken : FnScope N_f_law_taken ["_law_system"] (defScope s_f_law_taken) := ⟨rfl, rfl, rfl, by decide +kernel, rfl, by decide +kernel, by decide +kernel⟩
abbrev N_f_law_bent_paper : List Str := ["_law_deck_here", "_law_paper_here", "_law_way"]
theorem sc_f_law_bent_paper : FnScope N_f_law_bent_paper ["_law_deck_here", "_law_paper_here"] (defScope s_f_law_bent_paper) := ⟨rfl, rfl, rfl, by decide +kernel, rfl, by decide +kernel, by decide +kernel⟩
abbrev N_f_law_any_paper : List Str := ["_law_deck_here", "_law_system", "_law_plans_here", "_law_plan", "_law_fulls", "_law_place", "_law_wish", "_law_number", "_law_days"]
theorem sc_f_law_any_paper : FnScope N_f_law_any_paper ["_law_deck_here", "_law_system", "_law_plans_here"] (defScope s_f_law_any_paper) := ⟨rfl, rfl, rfl, by decide +kernel, rfl, by decide +kernel, by decide +kernel⟩
abbrev N_p_goes_with : List Str := ["system", "ways", "work", "way", "other", "other_way"]
theorem sc_p_goes_with : FnScope N_p_goes_with ["system", "ways", "work", "way"] (defScope s_p_goes_with) := ⟨rfl, rfl, rfl, by decide +kernel, rfl, by decide +kernel, by decide +kernel⟩
abbrev N_p_full_day : List Str := ["system", "kept", "place", "day"]
theorem sc_p_full_day : FnScope N_p_full_day ["system", "kept", "place"] (defScope s_p_full_day) := ⟨rfl, rfl, rfl, by decide +kernel, rfl, by decide +kernel, by decide +kernel⟩
abbrev N_f_law_paper : List Str := ["_law_deck_here", "_law_system", "_law_taken_here", "_law_due", "_law_plan", "_law_fulls", "_law_place", "_law_number", "_law_days", "_law_day", "_law_work"]
theorem sc_f_law_paper : FnScope N_f_law_paper ["_law_deck_here", "_law_system"] (defScope s_f_law_paper) := ⟨rfl, rfl, rfl, by decide +kernel, rfl, by decide +kernel, by decide +kernel⟩
abbrev N_p_is_plan : List Str := ["system", "thing", "given", "work", "way"]
theorem sc_p_is_plan : FnScope N_p_is_plan ["system", "thing"] (defScope s_p_is_plan) := ⟨rfl, rfl, rfl, by decide +kernel, rfl, by decide +kernel, by decide +kernel⟩
abbrev N_p_even : List Str := ["system", "most", "taken", "wished", "plan", "kept", "left", "place", "day", "work"]
theorem sc_p_even : FnScope N_p_even ["system"] (defScope s_p_even) := ⟨rfl, rfl, rfl, by decide +kernel, rfl, by decide +kernel, by decide +kernel⟩
abbrev N_p_even_holds : List Str := ["system", "thing", "plan", "fulls", "kept", "left", "place", "pair", "wish"]
theorem sc_p_even_holds : FnScope N_p_even_holds ["system", "thing"] (defScope s_p_even_holds) := ⟨rfl, rfl, rfl, by decide +kernel, rfl, by decide +kernel, by decide +kernel⟩
abbrev N_p_law : List Str := ["_law_script", "_law_deck_here", "_law_turn", "_law_system", "_law_plans_here", "_law_first", "_law_right", "_law_most", "_law_things", "_law_thing", "_law_plan", "_law_k"]
theorem sc_p_law : FnScope N_p_law ["_law_script"] (defScope s_p_law) := ⟨rfl, rfl, rfl, by decide +kernel, rfl, by decide +kernel, by decide +kernel⟩
set_option genInjectivity false in
set_option genSizeOf false in
structure Txt (K : PySem.W.Frag) (mg : Str → Option Value) where
  a_p_is_number : Addr
  d_p_is_number : FuncData
  F_p_is_number : Fun K "is_number" "is_number" s_p_is_number a_p_is_number d_p_is_number
  b_p_is_number : Binds K d_p_is_number ["thing"] []
  m_p_is_number : mg "is_number" = some (.ref a_p_is_number)
  a_p_end_of : Addr
  d_p_end_of : FuncData
  F_p_end_of : Fun K "end_of" "end_of" s_p_end_of a_p_end_of d_p_end_of
  b_p_end_of : Binds K d_p_end_of ["system", "work", "way"] []
  m_p_end_of : mg "end_of" = some (.ref a_p_end_of)
  a_p_is_free : Addr
  d_p_is_free : FuncData
  F_p_is_free : Fun K "is_free" "is_free" s_p_is_free a_p_is_free d_p_is_free
  b_p_is_free : Binds K d_p_is_free ["system", "hand", "first", "last"] []
  m_p_is_free : mg "is_free" = some (.ref a_p_is_free)
  a_p_is_even : Addr
  d_p_is_even : FuncData
  F_p_is_even : Fun K "is_even" "is_even" s_p_is_even a_p_is_even d_p_is_even
  b_p_is_even : Binds K d_p_is_even ["system"] []
  m_p_is_even : mg "is_even" = some (.ref a_p_is_even)
  a_p_room_up_to : Addr
  d_p_room_up_to : FuncData
  F_p_room_up_to : Fun K "room_up_to" "room_up_to" s_p_room_up_to a_p_room_up_to d_p_room_up_to
  b_p_room_up_to : Binds K d_p_room_up_to ["system", "day"] []
  m_p_room_up_to : mg "room_up_to" = some (.ref a_p_room_up_to)
  a_p_is_kept_evenpaper : Addr
  d_p_is_kept_evenpaper : FuncData
  F_p_is_kept_evenpaper : Fun K "is_kept" "is_kept" s_p_is_kept_evenpaper a_p_is_kept_evenpaper d_p_is_kept_evenpaper
  b_p_is_kept_evenpaper : Binds K d_p_is_kept_evenpaper ["system", "plan", "wish"] []
  m_p_is_kept_evenpaper : mg "is_kept" = some (.ref a_p_is_kept_evenpaper)
  a_p_is_no_lower : Addr
  d_p_is_no_lower : FuncData
  F_p_is_no_lower : Fun K "is_no_lower" "is_no_lower" s_p_is_no_lower a_p_is_no_lower d_p_is_no_lower
  b_p_is_no_lower : Binds K d_p_is_no_lower ["wish", "other"] []
  m_p_is_no_lower : mg "is_no_lower" = some (.ref a_p_is_no_lower)
  a_p_in_blocks : Addr
  d_p_in_blocks : FuncData
  F_p_in_blocks : Fun K "in_blocks" "in_blocks" s_p_in_blocks a_p_in_blocks d_p_in_blocks
  b_p_in_blocks : Binds K d_p_in_blocks ["system", "works"] []
  m_p_in_blocks : mg "in_blocks" = some (.ref a_p_in_blocks)
  a_f_law_deck : Addr
  d_f_law_deck : FuncData
  F_f_law_deck : Fun K "_law_deck" "_law_deck" s_f_law_deck a_f_law_deck d_f_law_deck
  b_f_law_deck : Binds K d_f_law_deck ["_law_script"] []
  m_f_law_deck : mg "_law_deck" = some (.ref a_f_law_deck)
  a_f_law_next : Addr
  d_f_law_next : FuncData
  F_f_law_next : Fun K "_law_next" "_law_next" s_f_law_next a_f_law_next d_f_law_next
  b_f_law_next : Binds K d_f_law_next ["_law_deck_here"] []
  m_f_law_next : mg "_law_next" = some (.ref a_f_law_next)
  a_f_law_odd : Addr
  d_f_law_odd : FuncData
  F_f_law_odd : Fun K "_law_odd" "_law_odd" s_f_law_odd a_f_law_odd d_f_law_odd
  b_f_law_odd : Binds K d_f_law_odd ["_law_number"] []
  m_f_law_odd : mg "_law_odd" = some (.ref a_f_law_odd)
  a_f_law_ways : Addr
  d_f_law_ways : FuncData
  F_f_law_ways : Fun K "_law_ways" "_law_ways" s_f_law_ways a_f_law_ways d_f_law_ways
  b_f_law_ways : Binds K d_f_law_ways ["_law_system", "_law_work"] []
  m_f_law_ways : mg "_law_ways" = some (.ref a_f_law_ways)
  a_f_law_clash : Addr
  d_f_law_clash : FuncData
  F_f_law_clash : Fun K "_law_clash" "_law_clash" s_f_law_clash a_f_law_clash d_f_law_clash
  b_f_law_clash : Binds K d_f_law_clash ["_law_system", "_law_one", "_law_way", "_law_other", "_law_other_way"] []
  m_f_law_clash : mg "_law_clash" = some (.ref a_f_law_clash)
  a_f_law_kept : Addr
  d_f_law_kept : FuncData
  F_f_law_kept : Fun K "_law_kept" "_law_kept" s_f_law_kept a_f_law_kept d_f_law_kept
  b_f_law_kept : Binds K d_f_law_kept ["_law_system", "_law_wish", "_law_way"] []
  m_f_law_kept : mg "_law_kept" = some (.ref a_f_law_kept)
  a_f_law_room : Addr
  d_f_law_room : FuncData
  F_f_law_room : Fun K "_law_room" "_law_room" s_f_law_room a_f_law_room d_f_law_room
  b_f_law_room : Binds K d_f_law_room ["_law_system", "_law_day"] []
  m_f_law_room : mg "_law_room" = some (.ref a_f_law_room)
  a_f_law_blocks : Addr
  d_f_law_blocks : FuncData
  F_f_law_blocks : Fun K "_law_blocks" "_law_blocks" s_f_law_blocks a_f_law_blocks d_f_law_blocks
  b_f_law_blocks : Binds K d_f_law_blocks ["_law_system", "_law_first"] []
  m_f_law_blocks : mg "_law_blocks" = some (.ref a_f_law_blocks)
  a_p_is_from : Addr
  d_p_is_from : FuncData
  F_p_is_from : Fun K "is_from" "is_from" s_p_is_from a_p_is_from d_p_is_from
  b_p_is_from : Binds K d_p_is_from ["thing", "low", "high"] []
  m_p_is_from : mg "is_from" = some (.ref a_p_is_from)
  a_p_is_behind : Addr
  d_p_is_behind : FuncData
  F_p_is_behind : Fun K "is_behind" "is_behind" s_p_is_behind a_p_is_behind d_p_is_behind
  b_p_is_behind : Binds K d_p_is_behind ["system", "one", "way", "other", "other_way"] []
  m_p_is_behind : mg "is_behind" = some (.ref a_p_is_behind)
  a_p_do_fit : Addr
  d_p_do_fit : FuncData
  F_p_do_fit : Fun K "do_fit" "do_fit" s_p_do_fit a_p_do_fit d_p_do_fit
  b_p_do_fit : Binds K d_p_do_fit ["system", "days"] []
  m_p_do_fit : mg "do_fit" = some (.ref a_p_do_fit)
  a_f_law_goes : Addr
  d_f_law_goes : FuncData
  F_f_law_goes : Fun K "_law_goes" "_law_goes" s_f_law_goes a_f_law_goes d_f_law_goes
  b_f_law_goes : Binds K d_f_law_goes ["_law_system", "_law_ways_here", "_law_work", "_law_way"] []
  m_f_law_goes : mg "_law_goes" = some (.ref a_f_law_goes)
  a_f_law_whole : Addr
  d_f_law_whole : FuncData
  F_f_law_whole : Fun K "_law_whole" "_law_whole" s_f_law_whole a_f_law_whole d_f_law_whole
  b_f_law_whole : Binds K d_f_law_whole ["_law_system"] []
  m_f_law_whole : mg "_law_whole" = some (.ref a_f_law_whole)
  a_f_law_weights : Addr
  d_f_law_weights : FuncData
  F_f_law_weights : Fun K "_law_weights" "_law_weights" s_f_law_weights a_f_law_weights d_f_law_weights
  b_f_law_weights : Binds K d_f_law_weights ["_law_system", "_law_plan"] []
  m_f_law_weights : mg "_law_weights" = some (.ref a_f_law_weights)
  a_f_law_even_wish : Addr
  d_f_law_even_wish : FuncData
  F_f_law_even_wish : Fun K "_law_even_wish" "_law_even_wish" s_f_law_even_wish a_f_law_even_wish d_f_law_even_wish
  b_f_law_even_wish : Binds K d_f_law_even_wish ["_law_deck_here", "_law_work", "_law_days"] []
  m_f_law_even_wish : mg "_law_even_wish" = some (.ref a_f_law_even_wish)
  a_f_law_may : Addr
  d_f_law_may : FuncData
  F_f_law_may : Fun K "_law_may" "_law_may" s_f_law_may a_f_law_may d_f_law_may
  b_f_law_may : Binds K d_f_law_may ["_law_system", "_law_places"] []
  m_f_law_may : mg "_law_may" = some (.ref a_f_law_may)
  a_f_law_full_days : Addr
  d_f_law_full_days : FuncData
  F_f_law_full_days : Fun K "_law_full_days" "_law_full_days" s_f_law_full_days a_f_law_full_days d_f_law_full_days
  b_f_law_full_days : Binds K d_f_law_full_days ["_law_system", "_law_plan", "_law_place"] []
  m_f_law_full_days : mg "_law_full_days" = some (.ref a_f_law_full_days)
  a_f_law_bent_row : Addr
  d_f_law_bent_row : FuncData
  F_f_law_bent_row : Fun K "_law_bent_row" "_law_bent_row" s_f_law_bent_row a_f_law_bent_row d_f_law_bent_row
  b_f_law_bent_row : Binds K d_f_law_bent_row ["_law_deck_here", "_law_row"] []
  m_f_law_bent_row : mg "_law_bent_row" = some (.ref a_f_law_bent_row)
  a_p_is_way : Addr
  d_p_is_way : FuncData
  F_p_is_way : Fun K "is_way" "is_way" s_p_is_way a_p_is_way d_p_is_way
  b_p_is_way : Binds K d_p_is_way ["system", "work", "thing"] []
  m_p_is_way : mg "is_way" = some (.ref a_p_is_way)
  a_p_clash : Addr
  d_p_clash : FuncData
  F_p_clash : Fun K "clash" "clash" s_p_clash a_p_clash d_p_clash
  b_p_clash : Binds K d_p_clash ["system", "one", "way", "other", "other_way"] []
  m_p_clash : mg "clash" = some (.ref a_p_clash)
  a_p_holds_full : Addr
  d_p_holds_full : FuncData
  F_p_holds_full : Fun K "holds_full" "holds_full" s_p_holds_full a_p_holds_full d_p_holds_full
  b_p_holds_full : Binds K d_p_holds_full ["system", "kept", "place", "pair"] []
  m_p_holds_full : mg "holds_full" = some (.ref a_p_holds_full)
  a_p_taken_wishes : Addr
  d_p_taken_wishes : FuncData
  F_p_taken_wishes : Fun K "taken_wishes" "taken_wishes" s_p_taken_wishes a_p_taken_wishes d_p_taken_wishes
  b_p_taken_wishes : Binds K d_p_taken_wishes ["system"] []
  m_p_taken_wishes : mg "taken_wishes" = some (.ref a_p_taken_wishes)
  a_f_law_plans : Addr
  d_f_law_plans : FuncData
  F_f_law_plans : Fun K "_law_plans" "_law_plans" s_f_law_plans a_f_law_plans d_f_law_plans
  b_f_law_plans : Binds K d_f_law_plans ["_law_system", "_law_field"] []
  m_f_law_plans : mg "_law_plans" = some (.ref a_f_law_plans)
  a_f_law_even : Addr
  d_f_law_even : FuncData
  F_f_law_even : Fun K "_law_even" "_law_even" s_f_law_even a_f_law_even d_f_law_even
  b_f_law_even : Binds K d_f_law_even ["_law_deck_here", "_law_days", "_law_hands", "_law_works", "_law_length"] []
  m_f_law_even : mg "_law_even" = some (.ref a_f_law_even)
  a_f_law_taken : Addr
  d_f_law_taken : FuncData
  F_f_law_taken : Fun K "_law_taken" "_law_taken" s_f_law_taken a_f_law_taken d_f_law_taken
  b_f_law_taken : Binds K d_f_law_taken ["_law_system"] []
  m_f_law_taken : mg "_law_taken" = some (.ref a_f_law_taken)
  a_f_law_bent_paper : Addr
  d_f_law_bent_paper : FuncData
  F_f_law_bent_paper : Fun K "_law_bent_paper" "_law_bent_paper" s_f_law_bent_paper a_f_law_bent_paper d_f_law_bent_paper
  b_f_law_bent_paper : Binds K d_f_law_bent_paper ["_law_deck_here", "_law_paper_here"] []
  m_f_law_bent_paper : mg "_law_bent_paper" = some (.ref a_f_law_bent_paper)
  a_f_law_any_paper : Addr
  d_f_law_any_paper : FuncData
  F_f_law_any_paper : Fun K "_law_any_paper" "_law_any_paper" s_f_law_any_paper a_f_law_any_paper d_f_law_any_paper
  b_f_law_any_paper : Binds K d_f_law_any_paper ["_law_deck_here", "_law_system", "_law_plans_here"] []
  m_f_law_any_paper : mg "_law_any_paper" = some (.ref a_f_law_any_paper)
  a_p_goes_with : Addr
  d_p_goes_with : FuncData
  F_p_goes_with : Fun K "goes_with" "goes_with" s_p_goes_with a_p_goes_with d_p_goes_with
  b_p_goes_with : Binds K d_p_goes_with ["system", "ways", "work", "way"] []
  m_p_goes_with : mg "goes_with" = some (.ref a_p_goes_with)
  a_p_full_day : Addr
  d_p_full_day : FuncData
  F_p_full_day : Fun K "full_day" "full_day" s_p_full_day a_p_full_day d_p_full_day
  b_p_full_day : Binds K d_p_full_day ["system", "kept", "place"] []
  m_p_full_day : mg "full_day" = some (.ref a_p_full_day)
  a_f_law_paper : Addr
  d_f_law_paper : FuncData
  F_f_law_paper : Fun K "_law_paper" "_law_paper" s_f_law_paper a_f_law_paper d_f_law_paper
  b_f_law_paper : Binds K d_f_law_paper ["_law_deck_here", "_law_system"] []
  m_f_law_paper : mg "_law_paper" = some (.ref a_f_law_paper)
  a_p_is_plan : Addr
  d_p_is_plan : FuncData
  F_p_is_plan : Fun K "is_plan" "is_plan" s_p_is_plan a_p_is_plan d_p_is_plan
  b_p_is_plan : Binds K d_p_is_plan ["system", "thing"] []
  m_p_is_plan : mg "is_plan" = some (.ref a_p_is_plan)
  a_p_even : Addr
  d_p_even : FuncData
  F_p_even : Fun K "even" "even" s_p_even a_p_even d_p_even
  b_p_even : Binds K d_p_even ["system"] []
  m_p_even : mg "even" = some (.ref a_p_even)
  a_p_even_holds : Addr
  d_p_even_holds : FuncData
  F_p_even_holds : Fun K "even_holds" "even_holds" s_p_even_holds a_p_even_holds d_p_even_holds
  b_p_even_holds : Binds K d_p_even_holds ["system", "thing"] []
  m_p_even_holds : mg "even_holds" = some (.ref a_p_even_holds)
  a_p_law : Addr
  d_p_law : FuncData
  F_p_law : Fun K "law" "law" s_p_law a_p_law d_p_law
  b_p_law : Binds K d_p_law ["_law_script"] []
  m_p_law : mg "law" = some (.ref a_p_law)
  C_NoRoom : Addr
  aC_NoRoom : PySem.W.nsIn K mainGlobals "NoRoom" = some (some (.ref C_NoRoom))
  mC_NoRoom : mg "NoRoom" = some (.ref C_NoRoom)
  C_NotEven : Addr
  aC_NotEven : PySem.W.nsIn K mainGlobals "NotEven" = some (some (.ref C_NotEven))
  mC_NotEven : mg "NotEven" = some (.ref C_NotEven)
  aI_NoRoom : Addr
  dI_NoRoom : FuncData
  FI_NoRoom : Fun K "__init__" "NoRoom.__init__" (inClass (topS 21) 0) aI_NoRoom dI_NoRoom
  bI_NoRoom : Binds K dI_NoRoom ["self", "work"] []
  e_NoRoom : ErrF K "NoRoom" "work" C_NoRoom aI_NoRoom
  e_NotEven : ErrC K "NotEven" C_NotEven
  n_abs : mg "abs" = none
  n_any : mg "any" = none
  n_bool : mg "bool" = none
  n_enumerate : mg "enumerate" = none
  n_int : mg "int" = none
  n_isinstance : mg "isinstance" = none
  n_len : mg "len" = none
  n_list : mg "list" = none
  n_max : mg "max" = none
  n_min : mg "min" = none
  n_range : mg "range" = none
  n_set : mg "set" = none
  n_sorted : mg "sorted" = none
  n_tuple : mg "tuple" = none
  n_zip : mg "zip" = none
section
variable {P : Program} {w : World} {K : PySem.W.Frag} {mg : Str → Option Value} {base : Heap}
theorem oki_NoRoom (T : Txt K mg) : FnOk P w K mg base CX0 1 T.aI_NoRoom T.dI_NoRoom ["self", "work"] (spI K "work") :=
  init_ok T.FI_NoRoom ⟨rfl, rfl, rfl, by decide +kernel, rfl, by decide +kernel, by decide +kernel⟩ ⟨_, _, _, _, rfl⟩ (by rfl) (by rfl) (by decide) (by decide) (fun _ _ _ _ _ => rfl)
theorem ok_p_is_number (T : Txt K mg) : FnG P w K mg base CX0 1 T.a_p_is_number T.d_p_is_number ["thing"] (spOf K S_p_is_number) := by
  refine fn_ok T.F_p_is_number sc_p_is_number rfl (fun cdv A outer s H E hr hgd => ?_) vc_p_is_number
  have nd := sc_p_is_number.nd
  exact wb_one (ws_ret (we_and (we_isi tok_int (by rfl) T.n_isinstance (by rfl) T.n_int bb_int (we_var (i := 0) rfl (.inl rfl))) (we_one (we_not (we_isi tok_bool (by rfl) T.n_isinstance (by rfl) T.n_bool bb_bool (we_var (i := 0) rfl (.inl rfl)))))))
theorem ok_p_end_of (T : Txt K mg) : FnG P w K mg base CX0 1 T.a_p_end_of T.d_p_end_of ["system", "work", "way"] (spOf K S_p_end_of) := by
  refine fn_ok T.F_p_end_of sc_p_end_of rfl (fun cdv A outer s H E hr hgd => ?_) vc_p_end_of
  have nd := sc_p_end_of.nd
  exact wb_one (ws_ret (we_op op_addD z_add (we_ix (we_var (i := 2) rfl (.inl rfl)) (we_int)) (we_ix (we_ix (we_ix (we_var (i := 0) rfl (.inl rfl)) (we_int)) (we_var (i := 1) rfl (.inl rfl))) (we_int))))
theorem ok_p_is_free (T : Txt K mg) : FnG P w K mg base CX0 1 T.a_p_is_free T.d_p_is_free ["system", "hand", "first", "last"] (spOf K S_p_is_free) := by
  refine fn_ok T.F_p_is_free sc_p_is_free rfl (fun cdv A outer s H E hr hgd => ?_) vc_p_is_free
  have nd := sc_p_is_free.nd
  exact wb_one (ws_ret (we_not (we_callX z_any (fun h => pe_callB (cr_any rfl) (by rfl) T.n_any bb_any h) (wa_cons (we_lc (m := false) (t := (.nm 4)) (own := [("day", 4)]) rfl nd (wi_seq (we_ix (we_ix (we_var (i := 0) rfl (.inl rfl)) (we_int)) (we_var (i := 1) rfl (.inl rfl)))) (blkOk_by (own := [("day", 4)]) (N := N_p_is_free) (by kernel_rfl)) (by simp [Tg.ix]) (fun _ _ _ _ _ => pg_name (i := 4) nd rfl (.inl rfl)) (fun _ _ _ _ _ => wts_nil) (fun _ _ _ _ _ => we_chain (op_leD hr.units0) z_le (op_ltD hr.units0) z_lt (we_var (i := 2) rfl (.inr (.inl rfl))) (we_var (i := 4) rfl (.inl rfl)) (we_var (i := 3) rfl (.inr (.inl rfl))))) (wa_nil)))))
theorem ok_p_is_even (T : Txt K mg) : FnG P w K mg base CX0 1 T.a_p_is_even T.d_p_is_even ["system"] (spOf K S_p_is_even) := by
  refine fn_ok T.F_p_is_even sc_p_is_even rfl (fun cdv A outer s H E hr hgd => ?_) vc_p_is_even
  have nd := sc_p_is_even.nd
  exact wb_cons (ws_asg (we_var (i := 0) rfl (.inl rfl)) (wg_tup rfl (wgs_cons (wg_name (i := 1) nd rfl (.inl rfl)) (wgs_cons (wg_name (i := 2) nd rfl (.inl rfl)) (wgs_cons (wg_name (i := 3) nd rfl (.inl rfl)) (wgs_cons (wg_name (i := 4) nd rfl (.inl rfl)) (wgs_nil))))))) (wb_cons (ws_for PassesOwn.never rfl (wi_seq (we_var (i := 2) rfl (.inl rfl))) (wg_name (i := 5) nd rfl (.inl rfl)) (wb_one (ws_if (wt_cmp (op_neC hr.units) z_eqB (we_var (i := 5) rfl (.inl rfl)) (we_tup (wa_nil)) ((nomark _))) (wb_one (ws_ret (we_bl))) (wb_nil)))) (wb_cons (ws_for PassesOwn.never rfl (wi_seq (we_var (i := 3) rfl (.inl rfl))) (wg_tup rfl (wgs_cons (wg_name (i := 6) nd rfl (.inl rfl)) (wgs_cons (wg_name (i := 7) nd rfl (.inl rfl)) (wgs_cons (wg_name (i := 8) nd rfl (.inl rfl)) (wgs_nil))))) (wb_one (ws_if ((ww_or (wt_cmp (op_neC hr.units) z_eqB (we_var (i := 6) rfl (.inl rfl)) (we_ix (we_ix (we_var (i := 3) rfl (.inl rfl)) (we_int)) (we_int)) ((nomark _))) (ww_or (wt_cmp (op_neC hr.units) z_eqB (we_var (i := 7) rfl (.inl rfl)) (we_tup (wa_nil)) ((nomark _))) (ww_or1 (wt_cmp (op_neC hr.units) z_eqB (we_callX z_len (fun h => pe_callB (CallR.or call_len_seq call_len_str) (by rfl) T.n_len bb_len h) (wa_cons (we_var (i := 8) rfl (.inl rfl)) (wa_nil))) (we_callX z_len (fun h => pe_callB (CallR.or call_len_seq call_len_str) (by rfl) T.n_len bb_len h) (wa_cons (we_var (i := 2) rfl (.inl rfl)) (wa_nil))) ((nomark _)))))).wt) (wb_one (ws_ret (we_bl))) (wb_nil)))) (wb_cons (ws_for PassesOwn.never rfl (wi_seq (we_var (i := 4) rfl (.inl rfl))) (wg_tup rfl (wgs_cons (wg_name (i := 9) nd rfl (.inl rfl)) (wgs_cons (wg_name (i := 10) nd rfl (.inl rfl)) (wgs_cons (wg_name (i := 11) nd rfl (.inl rfl)) (wgs_cons (wg_name (i := 12) nd rfl (.inl rfl)) (wgs_cons (wg_name (i := 13) nd rfl (.inl rfl)) (wgs_nil))))))) (wb_one (ws_if (wt_cmp (op_neC hr.units) z_eqB (we_var (i := 10) rfl (.inl rfl)) (we_int) ((nomark _))) (wb_one (ws_ret (we_bl))) (wb_nil)))) (wb_one (ws_ret (we_cmp (op_eqC hr.units) z_eqB (we_lenSet rfl (by rfl) T.n_len (by rfl) T.n_set (we_lc (m := false) (t := (.nm 14)) (own := [("wish", 14)]) rfl nd (wi_seq (we_var (i := 4) rfl (.inl rfl))) (blkOk_by (own := [("wish", 14)]) (N := N_p_is_even) (by kernel_rfl)) (by simp [Tg.ix]) (fun _ _ _ _ _ => pg_name (i := 14) nd rfl (.inl rfl)) (fun _ _ _ _ _ => wts_nil) (fun _ _ _ _ _ => we_ix (we_var (i := 14) rfl (.inl rfl)) (we_int)))) (we_callX z_len (fun h => pe_callB (CallR.or call_len_seq call_len_str) (by rfl) T.n_len bb_len h) (wa_cons (we_var (i := 4) rfl (.inl rfl)) (wa_nil))) ((nomark _))))))))
theorem ok_p_room_up_to (T : Txt K mg) : FnG P w K mg base CX0 1 T.a_p_room_up_to T.d_p_room_up_to ["system", "day"] (spOf K S_p_room_up_to) := by
  refine fn_ok T.F_p_room_up_to sc_p_room_up_to rfl (fun cdv A outer s H E hr hgd => ?_) vc_p_room_up_to
  have nd := sc_p_room_up_to.nd
  exact wb_one (ws_ret (we_op op_mulD z_mul (we_callX z_len (fun h => pe_callB (CallR.or call_len_seq call_len_str) (by rfl) T.n_len bb_len h) (wa_cons (we_ix (we_var (i := 0) rfl (.inl rfl)) (we_int)) (wa_nil))) (we_op op_fdivW z_fdiv (we_var (i := 1) rfl (.inl rfl)) (we_ix (we_ix (we_ix (we_var (i := 0) rfl (.inl rfl)) (we_int)) (we_int)) (we_int)))))
theorem ok_p_is_kept_evenpaper (T : Txt K mg) : FnG P w K mg base CX0 1 T.a_p_is_kept_evenpaper T.d_p_is_kept_evenpaper ["system", "plan", "wish"] (spOf K S_p_is_kept_evenpaper) := by
  refine fn_ok T.F_p_is_kept_evenpaper sc_p_is_kept_evenpaper rfl (fun cdv A outer s H E hr hgd => ?_) vc_p_is_kept_evenpaper
  have nd := sc_p_is_kept_evenpaper.nd
  exact wb_one (ws_ret (we_cmp (op_leD hr.units0) z_le (we_op op_addD z_add (we_ix (we_ix (we_var (i := 1) rfl (.inl rfl)) (we_ix (we_var (i := 2) rfl (.inl rfl)) (we_int))) (we_int)) (we_ix (we_ix (we_ix (we_var (i := 0) rfl (.inl rfl)) (we_int)) (we_ix (we_var (i := 2) rfl (.inl rfl)) (we_int))) (we_int))) (we_ix (we_var (i := 2) rfl (.inl rfl)) (we_int)) ((nomark _))))
theorem ok_p_is_no_lower (T : Txt K mg) : FnG P w K mg base CX0 1 T.a_p_is_no_lower T.d_p_is_no_lower ["wish", "other"] (spOf K S_p_is_no_lower) := by
  refine fn_ok T.F_p_is_no_lower sc_p_is_no_lower rfl (fun cdv A outer s H E hr hgd => ?_) vc_p_is_no_lower
  have nd := sc_p_is_no_lower.nd
  exact wb_one (ws_ret (we_or (we_cmp (op_ltD hr.units0) z_lt (we_ix (we_var (i := 0) rfl (.inl rfl)) (we_int)) (we_ix (we_var (i := 1) rfl (.inl rfl)) (we_int)) ((nomark _))) (we_one (we_and (we_cmp (op_eqC hr.units) z_eqB (we_ix (we_var (i := 0) rfl (.inl rfl)) (we_int)) (we_ix (we_var (i := 1) rfl (.inl rfl)) (we_int)) ((nomark _))) (we_one (we_cmp (op_geD hr.units0) z_ge (we_ix (we_var (i := 0) rfl (.inl rfl)) (we_int)) (we_ix (we_var (i := 1) rfl (.inl rfl)) (we_int)) ((nomark _))))))))
theorem ok_p_in_blocks (T : Txt K mg) : FnG P w K mg base CX0 1 T.a_p_in_blocks T.d_p_in_blocks ["system", "works"] (spOf K S_p_in_blocks) := by
  refine fn_okP T.F_p_in_blocks sc_p_in_blocks rfl (fun cdv A outer s H E hr hgd => ?_) vc_p_in_blocks
  have nd := sc_p_in_blocks.nd
  exact wb_cons (ws_set (i := 2) nd rfl (.inl rfl) (we_op op_mulD z_mulM (we_lst (m := false) (wa_cons (we_non) (wa_nil))) (we_callX z_len (fun h => pe_callB (CallR.or call_len_seq call_len_str) (by rfl) T.n_len bb_len h) (wa_cons (we_var (i := 1) rfl (.inl rfl)) (wa_nil))))) (wb_cons (ws_for PassesOwn.never rfl (wi_enum (by rfl) T.n_enumerate (we_var (i := 1) rfl (.inl rfl))) (wg_tup rfl (wgs_cons (wg_name (i := 3) nd rfl (.inl rfl)) (wgs_cons (wg_name (i := 4) nd rfl (.inl rfl)) (wgs_nil)))) (wb_one (ws_asg (we_tup (wa_cons (we_op op_mulD z_mul (we_op op_fdivW z_fdiv (we_var (i := 3) rfl (.inl rfl)) (we_callX z_len (fun h => pe_callB (CallR.or call_len_seq call_len_str) (by rfl) T.n_len bb_len h) (wa_cons (we_ix (we_var (i := 0) rfl (.inl rfl)) (we_int)) (wa_nil)))) (we_ix (we_ix (we_ix (we_var (i := 0) rfl (.inl rfl)) (we_int)) (we_int)) (we_int))) (wa_cons (we_op op_mod z_mod (we_var (i := 3) rfl (.inl rfl)) (we_callX z_len (fun h => pe_callB (CallR.or call_len_seq call_len_str) (by rfl) T.n_len bb_len h) (wa_cons (we_ix (we_var (i := 0) rfl (.inl rfl)) (we_int)) (wa_nil)))) (wa_nil)))) (wg_sub (we_var (i := 2) rfl (.inl rfl)) (we_var (i := 4) rfl (.inl rfl)))))) (wb_one (ws_ret (we_callX z_tuple (fun h => pe_callTy call_tupleX (by rfl) T.n_tuple bb_tuple h) (wa_cons (we_var (i := 2) rfl (.inl rfl)) (wa_nil))))))
theorem ok_f_law_deck (T : Txt K mg) : FnG P w K mg base CX0 1 T.a_f_law_deck T.d_f_law_deck ["_law_script"] (spOf K S_f_law_deck) := by
  refine fn_ok T.F_f_law_deck sc_f_law_deck rfl (fun cdv A outer s H E hr hgd => ?_) vc_f_law_deck
  have nd := sc_f_law_deck.nd
  exact wb_cons (ws_set (i := 1) nd rfl (.inl rfl) (we_lst (m := true) (wa_nil))) (wb_cons (ws_set (i := 2) nd rfl (.inl rfl) (we_lst (m := true) (wa_cons (we_callX z_len (fun h => pe_callB (CallR.or call_len_seq call_len_str) (by rfl) T.n_len bb_len h) (wa_cons (we_var (i := 0) rfl (.inl rfl)) (wa_nil))) (wa_nil)))) (wb_cons (ws_for PassesOwn.never rfl (wi_seq (we_sl (m := false) (we_var (i := 0) rfl (.inl rfl)) wo_none (wo_some (we_int)))) (wg_name (i := 3) nd rfl (.inl rfl)) (wb_cons (ws_set (i := 3) nd rfl (.inl rfl) (we_callX z_abs (fun h => pe_callB call_abs (by rfl) T.n_abs bb_abs h) (wa_cons (we_var (i := 3) rfl (.inl rfl)) (wa_nil)))) (wb_cons (ws_expr (we_m PySem.F.slot_list_append PySem.F.type_list_append mt_append z_append (we_var (i := 2) rfl (.inl rfl)) (wa_cons (we_op op_mod z_mod (we_var (i := 3) rfl (.inl rfl)) (we_int)) (wa_nil)) (fun h1 h2 => pe_bm PySem.F.plainAttrs_list PySem.F.slot_list_append PySem.F.type_list_append mt_append h1 h2))) (wb_one (ws_while PassesOwn.never ((ww_and (wt_cmp (op_geD hr.units0) z_ge (we_var (i := 3) rfl (.inl rfl)) (we_op op_pow z_pow (we_int) (we_int)) ((nomark _))) (ww_and1 (wt_cmp (op_ltD hr.units0) z_lt (we_callX z_len (fun h => pe_callB (CallR.or call_len_seq call_len_str) (by rfl) T.n_len bb_len h) (wa_cons (we_var (i := 1) rfl (.inl rfl)) (wa_nil))) (we_int) ((nomark _))))).wt) (wb_cons (ws_expr (we_m PySem.F.slot_list_append PySem.F.type_list_append mt_append z_append (we_var (i := 1) rfl (.inl rfl)) (wa_cons (we_op op_mod z_mod (we_var (i := 3) rfl (.inl rfl)) (we_int)) (wa_nil)) (fun h1 h2 => pe_bm PySem.F.plainAttrs_list PySem.F.slot_list_append PySem.F.type_list_append mt_append h1 h2))) (wb_one (ws_set (i := 3) nd rfl (.inl rfl) (we_op op_fdivW z_fdiv (we_var (i := 3) rfl (.inl rfl)) (we_int)))))))))) (wb_one (ws_ret (we_lst (m := true) (wa_cons (we_var (i := 1) rfl (.inl rfl)) (wa_cons (we_var (i := 2) rfl (.inl rfl)) (wa_cons (we_int) (wa_nil)))))))))
theorem ok_f_law_next (T : Txt K mg) : FnG P w K mg base CX0 1 T.a_f_law_next T.d_f_law_next ["_law_deck_here"] (spOf K S_f_law_next) := by
  refine fn_ok T.F_f_law_next sc_f_law_next rfl (fun cdv A outer s H E hr hgd => ?_) vc_f_law_next
  have nd := sc_f_law_next.nd
  exact wb_cons (ws_if (wt_cmp (op_neC hr.units) z_eqB (we_ix (we_var (i := 0) rfl (.inl rfl)) (we_int)) (we_lst (m := false) (wa_nil)) ((nomark _))) (wb_one (ws_ret (we_m PySem.F.slot_list_pop PySem.F.type_list_pop mt_popAt z_popAt (we_ix (we_var (i := 0) rfl (.inl rfl)) (we_int)) (wa_cons (we_int) (wa_nil)) (fun h1 h2 => pe_bm PySem.F.plainAttrs_list PySem.F.slot_list_pop PySem.F.type_list_pop mt_popAt h1 h2)))) (wb_nil)) (wb_cons (ws_set (i := 1) nd rfl (.inl rfl) (we_ix (we_var (i := 0) rfl (.inl rfl)) (we_int))) (wb_cons (ws_asg (we_op op_addD z_add (we_var (i := 1) rfl (.inl rfl)) (we_int)) (wg_sub (we_var (i := 0) rfl (.inl rfl)) (we_int))) (wb_cons (ws_set (i := 2) nd rfl (.inl rfl) (we_tup (wa_cons (we_int) (wa_cons (we_int) (wa_cons (we_int) (wa_cons (we_int) (wa_cons (we_int) (wa_cons (we_int) (wa_cons (we_int) (wa_cons (we_int) (wa_cons (we_int) (wa_cons (we_int) (wa_cons (we_int) (wa_cons (we_int) (wa_nil))))))))))))))) (wb_cons (ws_set (i := 3) nd rfl (.inl rfl) (we_op op_addD z_add (we_ix (we_ix (we_var (i := 0) rfl (.inl rfl)) (we_int)) (we_op op_mod z_mod (we_op op_addD z_add (we_var (i := 1) rfl (.inl rfl)) (we_int)) (we_callX z_len (fun h => pe_callB (CallR.or call_len_seq call_len_str) (by rfl) T.n_len bb_len h) (wa_cons (we_ix (we_var (i := 0) rfl (.inl rfl)) (we_int)) (wa_nil))))) (we_op op_mulD z_mul (we_int) (we_var (i := 1) rfl (.inl rfl))))) (wb_cons (ws_set (i := 4) nd rfl (.inl rfl) (we_op op_mod z_mod (we_op op_pow z_pow (we_op op_addD z_add (we_var (i := 3) rfl (.inl rfl)) (we_op op_mulD z_mul (we_ix (we_var (i := 2) rfl (.inl rfl)) (we_op op_mod z_mod (we_var (i := 1) rfl (.inl rfl)) (we_int))) (we_op op_addD z_add (we_var (i := 1) rfl (.inl rfl)) (we_int)))) (we_int)) (we_int))) (wb_one (ws_ret (we_op op_mod z_mod (we_op op_addD z_add (we_var (i := 4) rfl (.inl rfl)) (we_op op_mulD z_mul (we_ix (we_var (i := 2) rfl (.inl rfl)) (we_op op_mod z_mod (we_op op_addD z_add (we_var (i := 1) rfl (.inl rfl)) (we_int)) (we_int))) (we_var (i := 3) rfl (.inl rfl)))) (we_int)))))))))
theorem ok_f_law_odd (T : Txt K mg) : FnG P w K mg base CX0 1 T.a_f_law_odd T.d_f_law_odd ["_law_number"] (spOf K S_f_law_odd) := by
  refine fn_ok T.F_f_law_odd sc_f_law_odd rfl (fun cdv A outer s H E hr hgd => ?_) vc_f_law_odd
  have nd := sc_f_law_odd.nd
  exact wb_cons (ws_set (i := 1) nd rfl (.inl rfl) (we_lst (m := false) (wa_cons (we_non) (wa_cons (we_bl) (wa_cons (we_bl) (wa_cons (we_int) (wa_cons (we_int) (wa_cons (we_neg (we_int)) (wa_cons (we_int) (wa_cons (we_str) (wa_cons (we_str) (wa_cons (we_str) (wa_cons (we_tup (wa_nil)) (wa_cons (we_tup (wa_cons (we_int) (wa_nil))) (wa_cons (we_tup (wa_cons (we_int) (wa_cons (we_int) (wa_nil)))) (wa_cons (we_tup (wa_cons (we_tup (wa_nil)) (wa_cons (we_tup (wa_nil)) (wa_nil)))) (wa_cons (we_lst (m := false) (wa_nil)) (wa_cons (we_lst (m := false) (wa_cons (we_int) (wa_nil))) (wa_cons (we_dict0) (wa_cons (we_dict1) (wa_nil))))))))))))))))))))) (wb_cons (ws_set (i := 1) nd rfl (.inl rfl) (we_op op_addD z_add (we_var (i := 1) rfl (.inl rfl)) (we_lst (m := false) (wa_cons (we_tup (wa_cons (we_non) (wa_nil))) (wa_cons (we_tup (wa_cons (we_tup (wa_nil)) (wa_nil))) (wa_cons (we_lst (m := false) (wa_cons (we_tup (wa_nil)) (wa_nil))) (wa_cons (we_tup (wa_cons (we_bl) (wa_cons (we_bl) (wa_nil)))) (wa_cons (we_tup (wa_cons (we_tup (wa_cons (we_int) (wa_cons (we_int) (wa_nil)))) (wa_cons (we_tup (wa_cons (we_int) (wa_cons (we_int) (wa_nil)))) (wa_nil)))) (wa_cons (we_tup (wa_cons (we_tup (wa_cons (we_tup (wa_nil)) (wa_cons (we_tup (wa_nil)) (wa_nil)))) (wa_nil))) (wa_cons (we_tup (wa_cons (we_str) (wa_cons (we_int) (wa_nil)))) (wa_cons (we_tup (wa_cons (we_tup (wa_cons (we_int) (wa_cons (we_int) (wa_nil)))) (wa_nil))) (wa_cons (we_op op_pow z_pow (we_int) (we_int)) (wa_nil))))))))))))) (wb_cons (ws_set (i := 1) nd rfl (.inl rfl) (we_op op_addD z_add (we_var (i := 1) rfl (.inl rfl)) (we_lst (m := false) (wa_cons (we_tup (wa_cons (we_tup (wa_cons (we_int) (wa_cons (we_int) (wa_nil)))) (wa_cons (we_non) (wa_nil)))) (wa_cons (we_tup (wa_cons (we_int) (wa_cons (we_tup (wa_nil)) (wa_cons (we_tup (wa_nil)) (wa_cons (we_tup (wa_nil)) (wa_nil)))))) (wa_cons (we_tup (wa_cons (we_tup (wa_cons (we_int) (wa_nil))) (wa_nil))) (wa_cons (we_tup (wa_cons (we_tup (wa_cons (we_int) (wa_cons (we_int) (wa_cons (we_tup (wa_nil)) (wa_nil))))) (wa_nil))) (wa_cons (we_str) (wa_cons (we_tup (wa_cons (we_str) (wa_cons (we_bl) (wa_nil)))) (wa_cons (we_tup (wa_cons (we_tup (wa_cons (we_int) (wa_cons (we_int) (wa_cons (we_int) (wa_nil))))) (wa_nil))) (wa_nil))))))))))) (wb_cons (ws_set (i := 1) nd rfl (.inl rfl) (we_op op_addD z_add (we_var (i := 1) rfl (.inl rfl)) (we_lst (m := false) (wa_cons (we_tup (wa_cons (we_tup (wa_cons (we_int) (wa_cons (we_lst (m := false) (wa_cons (we_int) (wa_nil))) (wa_nil)))) (wa_nil))) (wa_cons (we_tup (wa_cons (we_tup (wa_cons (we_tup (wa_cons (we_tup (wa_cons (we_tup (wa_cons (we_tup (wa_cons (we_tup (wa_cons (we_tup (wa_cons (we_tup (wa_cons (we_int) (wa_nil))) (wa_nil))) (wa_nil))) (wa_nil))) (wa_nil))) (wa_nil))) (wa_nil))) (wa_nil))) (wa_nil))) (wa_cons (we_op op_repS z_mulS (we_str) (we_int)) (wa_cons (we_tup (wa_cons (we_int) (wa_cons (we_tup (wa_cons (we_int) (wa_cons (we_dict0) (wa_nil)))) (wa_nil)))) (wa_cons (we_tup (wa_cons (we_tup (wa_cons (we_int) (wa_cons (we_int) (wa_nil)))) (wa_cons (we_tup (wa_cons (we_int) (wa_cons (we_int) (wa_nil)))) (wa_cons (we_lst (m := false) (wa_cons (we_int) (wa_cons (we_int) (wa_nil)))) (wa_nil))))) (wa_nil))))))))) (wb_one (ws_ret (we_ix (we_var (i := 1) rfl (.inl rfl)) (we_op op_mod z_mod (we_var (i := 0) rfl (.inl rfl)) (we_callX z_len (fun h => pe_callB (CallR.or call_len_seq call_len_str) (by rfl) T.n_len bb_len h) (wa_cons (we_var (i := 1) rfl (.inl rfl)) (wa_nil))))))))))
theorem ok_f_law_ways (T : Txt K mg) : FnG P w K mg base CX0 1 T.a_f_law_ways T.d_f_law_ways ["_law_system", "_law_work"] (spOf K S_f_law_ways) := by
  refine fn_okP T.F_f_law_ways sc_f_law_ways rfl (fun cdv A outer s H E hr hgd => ?_) vc_f_law_ways
  have nd := sc_f_law_ways.nd
  exact wb_cons (ws_asg (we_sl (m := false) (we_var (i := 0) rfl (.inl rfl)) wo_none (wo_some (we_int))) (wg_tup rfl (wgs_cons (wg_name (i := 2) nd rfl (.inl rfl)) (wgs_cons (wg_name (i := 3) nd rfl (.inl rfl)) (wgs_cons (wg_name (i := 4) nd rfl (.inl rfl)) (wgs_nil)))))) (wb_cons (ws_asg (we_ix (we_var (i := 4) rfl (.inl rfl)) (we_var (i := 1) rfl (.inl rfl))) (wg_tup rfl (wgs_cons (wg_name (i := 5) nd rfl (.inr rfl)) (wgs_cons (wg_name (i := 6) nd rfl (.inl rfl)) (wgs_cons (wg_name (i := 7) nd rfl (.inl rfl)) (wgs_nil)))))) (wb_cons (ws_set (i := 8) nd rfl (.inl rfl) (we_lst (m := true) (wa_nil))) (wb_cons (ws_for PassesOwn.never rfl (wi_range1 (by rfl) T.n_range (wa_cons (we_op op_addD z_add (we_op op_sub z_sub (we_var (i := 2) rfl (.inl rfl)) (we_var (i := 5) rfl (.inr (.inl rfl)))) (we_int)) (wa_nil))) (wg_name (i := 9) nd rfl (.inr rfl)) (wb_one (ws_for PassesOwn.never rfl (wi_seq (we_var (i := 7) rfl (.inl rfl))) (wg_name (i := 10) nd rfl (.inl rfl)) (wb_one (ws_if (wt_cmp (op_eqC hr.units) z_eqB (we_lc (m := false) (t := (.nm 11)) (own := [("_law_day", 11)]) rfl nd (wi_seq (we_ix (we_var (i := 3) rfl (.inl rfl)) (we_var (i := 10) rfl (.inl rfl)))) (blkOk_by (own := [("_law_day", 11)]) (N := N_f_law_ways) (by kernel_rfl)) (by simp [Tg.ix]) (fun _ _ _ _ _ => pg_name (i := 11) nd rfl (.inl rfl)) (fun _ _ _ _ _ => wts_one (wt_chain (op_leD hr.units0) z_le (op_ltD hr.units0) z_lt (we_var (i := 9) rfl (.inr (.inl rfl))) (we_var (i := 11) rfl (.inl rfl)) (we_op op_addD z_add (we_var (i := 9) rfl (.inr (.inl rfl))) (we_var (i := 5) rfl (.inr (.inl rfl)))))) (fun _ _ _ _ _ => we_var (i := 11) rfl (.inl rfl))) (we_lst (m := false) (wa_nil)) ((nomark _))) (wb_one (ws_expr (we_m PySem.F.slot_list_append PySem.F.type_list_append mt_append z_append (we_var (i := 8) rfl (.inl rfl)) (wa_cons (we_tup (wa_cons (we_var (i := 9) rfl (.inr (.inl rfl))) (wa_cons (we_var (i := 10) rfl (.inl rfl)) (wa_nil)))) (wa_nil)) (fun h1 h2 => pe_bm PySem.F.plainAttrs_list PySem.F.slot_list_append PySem.F.type_list_append mt_append h1 h2)))) (wb_nil)))))) (wb_one (ws_ret (we_callX z_tuple (fun h => pe_callTy call_tupleX (by rfl) T.n_tuple bb_tuple h) (wa_cons (we_var (i := 8) rfl (.inl rfl)) (wa_nil))))))))
theorem ok_f_law_clash (T : Txt K mg) : FnG P w K mg base CX0 1 T.a_f_law_clash T.d_f_law_clash ["_law_system", "_law_one", "_law_way", "_law_other", "_law_other_way"] (spOf K S_f_law_clash) := by
  refine fn_ok T.F_f_law_clash sc_f_law_clash rfl (fun cdv A outer s H E hr hgd => ?_) vc_f_law_clash
  have nd := sc_f_law_clash.nd
  exact wb_cons (ws_set (i := 5) nd rfl (.inl rfl) (we_op op_addD z_add (we_ix (we_var (i := 2) rfl (.inl rfl)) (we_int)) (we_ix (we_ix (we_ix (we_var (i := 0) rfl (.inl rfl)) (we_int)) (we_var (i := 1) rfl (.inl rfl))) (we_int)))) (wb_cons (ws_set (i := 6) nd rfl (.inl rfl) (we_op op_addD z_add (we_ix (we_var (i := 4) rfl (.inl rfl)) (we_int)) (we_ix (we_ix (we_ix (we_var (i := 0) rfl (.inl rfl)) (we_int)) (we_var (i := 3) rfl (.inl rfl))) (we_int)))) (wb_cons (ws_if ((ww_and (wt_cmp (op_eqC hr.units) z_eqB (we_ix (we_var (i := 2) rfl (.inl rfl)) (we_int)) (we_ix (we_var (i := 4) rfl (.inl rfl)) (we_int)) ((nomark _))) (ww_and (wt_cmp (op_ltD hr.units0) z_lt (we_ix (we_var (i := 2) rfl (.inl rfl)) (we_int)) (we_var (i := 6) rfl (.inl rfl)) ((nomark _))) (ww_and1 (wt_cmp (op_ltD hr.units0) z_lt (we_ix (we_var (i := 4) rfl (.inl rfl)) (we_int)) (we_var (i := 5) rfl (.inl rfl)) ((nomark _)))))).wt) (wb_one (ws_ret (we_bl))) (wb_nil)) (wb_cons (ws_if ((ww_and (wt_cmp (op_inB hr.units) z_inB (we_var (i := 1) rfl (.inl rfl)) (we_ix (we_ix (we_ix (we_var (i := 0) rfl (.inl rfl)) (we_int)) (we_var (i := 3) rfl (.inl rfl))) (we_int)) (by rfl)) (ww_and1 (wt_cmp (op_ltD hr.units0) z_lt (we_ix (we_var (i := 4) rfl (.inl rfl)) (we_int)) (we_var (i := 5) rfl (.inl rfl)) ((nomark _))))).wt) (wb_one (ws_ret (we_bl))) (wb_nil)) (wb_one (ws_ret (we_and (we_cmp (op_inB hr.units) z_inB (we_var (i := 3) rfl (.inl rfl)) (we_ix (we_ix (we_ix (we_var (i := 0) rfl (.inl rfl)) (we_int)) (we_var (i := 1) rfl (.inl rfl))) (we_int)) (by rfl)) (we_one (we_cmp (op_ltD hr.units0) z_lt (we_ix (we_var (i := 2) rfl (.inl rfl)) (we_int)) (we_var (i := 6) rfl (.inl rfl)) ((nomark _))))))))))
theorem ok_f_law_kept (T : Txt K mg) : FnG P w K mg base CX0 1 T.a_f_law_kept T.d_f_law_kept ["_law_system", "_law_wish", "_law_way"] (spOf K S_f_law_kept) := by
  refine fn_ok T.F_f_law_kept sc_f_law_kept rfl (fun cdv A outer s H E hr hgd => ?_) vc_f_law_kept
  have nd := sc_f_law_kept.nd
  exact wb_cons (ws_if (wt_cmp (op_eqC hr.units) z_eqB (we_ix (we_var (i := 1) rfl (.inl rfl)) (we_int)) (we_int) ((nomark _))) (wb_one (ws_ret (we_cmp (op_geD hr.units0) z_ge (we_ix (we_var (i := 2) rfl (.inl rfl)) (we_int)) (we_ix (we_var (i := 1) rfl (.inl rfl)) (we_int)) ((nomark _))))) (wb_nil)) (wb_one (ws_ret (we_cmp (op_leD hr.units0) z_le (we_op op_addD z_add (we_ix (we_var (i := 2) rfl (.inl rfl)) (we_int)) (we_ix (we_ix (we_ix (we_var (i := 0) rfl (.inl rfl)) (we_int)) (we_ix (we_var (i := 1) rfl (.inl rfl)) (we_int))) (we_int))) (we_ix (we_var (i := 1) rfl (.inl rfl)) (we_int)) ((nomark _)))))
theorem ok_f_law_room (T : Txt K mg) : FnG P w K mg base CX0 1 T.a_f_law_room T.d_f_law_room ["_law_system", "_law_day"] (spOf K S_f_law_room) := by
  refine fn_ok T.F_f_law_room sc_f_law_room rfl (fun cdv A outer s H E hr hgd => ?_) vc_f_law_room
  have nd := sc_f_law_room.nd
  exact wb_one (ws_ret (we_op op_mulD z_mul (we_callX z_len (fun h => pe_callB (CallR.or call_len_seq call_len_str) (by rfl) T.n_len bb_len h) (wa_cons (we_ix (we_var (i := 0) rfl (.inl rfl)) (we_int)) (wa_nil))) (we_op op_fdivW z_fdiv (we_var (i := 1) rfl (.inl rfl)) (we_ix (we_ix (we_ix (we_var (i := 0) rfl (.inl rfl)) (we_int)) (we_int)) (we_int)))))
theorem ok_f_law_blocks (T : Txt K mg) : FnG P w K mg base CX0 1 T.a_f_law_blocks T.d_f_law_blocks ["_law_system", "_law_first"] (spOf K S_f_law_blocks) := by
  refine fn_okP T.F_f_law_blocks sc_f_law_blocks rfl (fun cdv A outer s H E hr hgd => ?_) vc_f_law_blocks
  have nd := sc_f_law_blocks.nd
  exact wb_cons (ws_set (i := 2) nd rfl (.inl rfl) (we_op op_addD z_add (we_var (i := 1) rfl (.inr (.inl rfl))) (we_lc (m := false) (t := (.nm 5)) (own := [("_law_work", 5)]) rfl nd (wi_range1 (by rfl) T.n_range (wa_cons (we_callX z_len (fun h => pe_callB (CallR.or call_len_seq call_len_str) (by rfl) T.n_len bb_len h) (wa_cons (we_ix (we_var (i := 0) rfl (.inl rfl)) (we_int)) (wa_nil))) (wa_nil))) (blkOk_by (own := [("_law_work", 5)]) (N := N_f_law_blocks) (by kernel_rfl)) (by simp [Tg.ix]) (fun _ _ _ _ _ => pg_name (i := 5) nd rfl (.inl rfl)) (fun _ _ _ _ _ => wts_one (wt_cmp (op_notInB hr.units) z_inB (we_var (i := 5) rfl (.inl rfl)) (we_var (i := 1) rfl (.inr (.inl rfl))) (by rfl))) (fun _ _ _ _ _ => we_var (i := 5) rfl (.inl rfl))))) (wb_cons (ws_set (i := 3) nd rfl (.inl rfl) (we_op op_mulD z_mulM (we_lst (m := false) (wa_cons (we_non) (wa_nil))) (we_callX z_len (fun h => pe_callB (CallR.or call_len_seq call_len_str) (by rfl) T.n_len bb_len h) (wa_cons (we_var (i := 2) rfl (.inl rfl)) (wa_nil))))) (wb_cons (ws_for PassesOwn.never rfl (wi_enum (by rfl) T.n_enumerate (we_var (i := 2) rfl (.inl rfl))) (wg_tup rfl (wgs_cons (wg_name (i := 4) nd rfl (.inl rfl)) (wgs_cons (wg_name (i := 5) nd rfl (.inl rfl)) (wgs_nil)))) (wb_one (ws_asg (we_tup (wa_cons (we_op op_mulD z_mul (we_op op_fdivW z_fdiv (we_var (i := 4) rfl (.inl rfl)) (we_callX z_len (fun h => pe_callB (CallR.or call_len_seq call_len_str) (by rfl) T.n_len bb_len h) (wa_cons (we_ix (we_var (i := 0) rfl (.inl rfl)) (we_int)) (wa_nil)))) (we_ix (we_ix (we_ix (we_var (i := 0) rfl (.inl rfl)) (we_int)) (we_int)) (we_int))) (wa_cons (we_op op_mod z_mod (we_var (i := 4) rfl (.inl rfl)) (we_callX z_len (fun h => pe_callB (CallR.or call_len_seq call_len_str) (by rfl) T.n_len bb_len h) (wa_cons (we_ix (we_var (i := 0) rfl (.inl rfl)) (we_int)) (wa_nil)))) (wa_nil)))) (wg_sub (we_var (i := 3) rfl (.inl rfl)) (we_var (i := 5) rfl (.inl rfl)))))) (wb_one (ws_ret (we_callX z_tuple (fun h => pe_callTy call_tupleX (by rfl) T.n_tuple bb_tuple h) (wa_cons (we_var (i := 3) rfl (.inl rfl)) (wa_nil)))))))
theorem ok_p_is_from (T : Txt K mg) : FnG P w K mg base CX0 2 T.a_p_is_from T.d_p_is_from ["thing", "low", "high"] (spOf K S_p_is_from) := by
  refine fn_ok T.F_p_is_from sc_p_is_from rfl (fun cdv A outer s H E hr hgd => ?_) vc_p_is_from
  have nd := sc_p_is_from.nd
  exact wb_one (ws_ret (we_and (we_call (ok_p_is_number T) (hr.mono (by decide)) hgd (by rfl) T.m_p_is_number T.F_p_is_number.kp T.b_p_is_number (wa_cons (we_var (i := 0) rfl (.inl rfl)) (wa_nil))) (we_one (we_chain (op_leD hr.units0) z_le (op_leD hr.units0) z_le (we_var (i := 1) rfl (.inl rfl)) (we_var (i := 0) rfl (.inl rfl)) (we_var (i := 2) rfl (.inl rfl))))))
theorem ok_p_is_behind (T : Txt K mg) : FnG P w K mg base CX0 2 T.a_p_is_behind T.d_p_is_behind ["system", "one", "way", "other", "other_way"] (spOf K S_p_is_behind) := by
  refine fn_ok T.F_p_is_behind sc_p_is_behind rfl (fun cdv A outer s H E hr hgd => ?_) vc_p_is_behind
  have nd := sc_p_is_behind.nd
  exact wb_one (ws_ret (we_and (we_cmp (op_inB hr.units) z_inB (we_var (i := 1) rfl (.inl rfl)) (we_ix (we_ix (we_ix (we_var (i := 0) rfl (.inl rfl)) (we_int)) (we_var (i := 3) rfl (.inl rfl))) (we_int)) (by rfl)) (we_one (we_cmp (op_ltD hr.units0) z_lt (we_ix (we_var (i := 4) rfl (.inl rfl)) (we_int)) (we_call (ok_p_end_of T) (hr.mono (by decide)) hgd (by rfl) T.m_p_end_of T.F_p_end_of.kp T.b_p_end_of (wa_cons (we_var (i := 0) rfl (.inl rfl)) (wa_cons (we_var (i := 1) rfl (.inl rfl)) (wa_cons (we_var (i := 2) rfl (.inl rfl)) (wa_nil))))) ((nomark _))))))
theorem ok_p_do_fit (T : Txt K mg) : FnG P w K mg base CX0 2 T.a_p_do_fit T.d_p_do_fit ["system", "days"] (spOf K S_p_do_fit) := by
  refine fn_ok T.F_p_do_fit sc_p_do_fit rfl (fun cdv A outer s H E hr hgd => ?_) vc_p_do_fit
  have nd := sc_p_do_fit.nd
  exact wb_cons (ws_for PassesOwn.never rfl (wi_enum (by rfl) T.n_enumerate (we_callX (z_sortK (m := false)) (fun h => pe_callB cr_sortedAll (by rfl) T.n_sorted bb_sorted h) (wa_cons (we_var (i := 1) rfl (.inl rfl)) (wa_nil)))) (wg_tup rfl (wgs_cons (wg_name (i := 2) nd rfl (.inl rfl)) (wgs_cons (wg_name (i := 3) nd rfl (.inl rfl)) (wgs_nil)))) (wb_one (ws_if (wt_cmp (op_gtD hr.units0) z_gt (we_op op_addD z_add (we_var (i := 2) rfl (.inl rfl)) (we_int)) (we_call (ok_p_room_up_to T) (hr.mono (by decide)) hgd (by rfl) T.m_p_room_up_to T.F_p_room_up_to.kp T.b_p_room_up_to (wa_cons (we_var (i := 0) rfl (.inl rfl)) (wa_cons (we_var (i := 3) rfl (.inl rfl)) (wa_nil)))) ((nomark _))) (wb_one (ws_ret (we_bl))) (wb_nil)))) (wb_one (ws_ret (we_bl)))
theorem ok_f_law_goes (T : Txt K mg) : FnG P w K mg base CX0 2 T.a_f_law_goes T.d_f_law_goes ["_law_system", "_law_ways_here", "_law_work", "_law_way"] (spOf K S_f_law_goes) := by
  refine fn_ok T.F_f_law_goes sc_f_law_goes rfl (fun cdv A outer s H E hr hgd => ?_) vc_f_law_goes
  have nd := sc_f_law_goes.nd
  exact wb_one (ws_ret (we_cmp (op_eqC hr.units) z_eqB (we_lc (m := false) (t := (.nm 4)) (own := [("_law_one", 4)]) rfl nd (wi_range1 (by rfl) T.n_range (wa_cons (we_callX z_len (fun h => pe_callB (CallR.or call_len_seq call_len_str) (by rfl) T.n_len bb_len h) (wa_cons (we_var (i := 1) rfl (.inr (.inl rfl))) (wa_nil))) (wa_nil))) (blkOk_by (own := [("_law_one", 4)]) (N := N_f_law_goes) (by kernel_rfl)) (by simp [Tg.ix]) (fun _ _ _ _ _ => pg_name (i := 4) nd rfl (.inl rfl)) (fun _ _ _ _ _ => wts_one (wt_val (we_call (ok_f_law_clash T) (hr.mono (by decide)) hgd (by rfl) T.m_f_law_clash T.F_f_law_clash.kp T.b_f_law_clash (wa_cons (we_var (i := 0) rfl (.inr (.inl rfl))) (wa_cons (we_var (i := 4) rfl (.inl rfl)) (wa_cons (we_ix (we_var (i := 1) rfl (.inr (.inl rfl))) (we_var (i := 4) rfl (.inl rfl))) (wa_cons (we_var (i := 2) rfl (.inr (.inl rfl))) (wa_cons (we_var (i := 3) rfl (.inr (.inl rfl))) (wa_nil))))))))) (fun _ _ _ _ _ => we_var (i := 4) rfl (.inl rfl))) (we_lst (m := false) (wa_nil)) ((nomark _))))
theorem ok_f_law_whole (T : Txt K mg) : FnG P w K mg base CX0 2 T.a_f_law_whole T.d_f_law_whole ["_law_system"] (spOf K S_f_law_whole) := by
  refine fn_ok T.F_f_law_whole sc_f_law_whole rfl (fun cdv A outer s H E hr hgd => ?_) vc_f_law_whole
  have nd := sc_f_law_whole.nd
  exact wb_one (ws_ret (we_callX z_tuple (fun h => pe_callTy call_tupleX (by rfl) T.n_tuple bb_tuple h) (wa_cons (we_lc (m := false) (t := (.nm 1)) (own := [("_law_work", 1)]) rfl nd (wi_range1 (by rfl) T.n_range (wa_cons (we_callX z_len (fun h => pe_callB (CallR.or call_len_seq call_len_str) (by rfl) T.n_len bb_len h) (wa_cons (we_ix (we_var (i := 0) rfl (.inr (.inl rfl))) (we_int)) (wa_nil))) (wa_nil))) (blkOk_by (own := [("_law_work", 1)]) (N := N_f_law_whole) (by kernel_rfl)) (by simp [Tg.ix]) (fun _ _ _ _ _ => pg_name (i := 1) nd rfl (.inl rfl)) (fun _ _ _ _ _ => wts_nil) (fun _ _ _ _ _ => we_call (ok_f_law_ways T) (hr.mono (by decide)) hgd (by rfl) T.m_f_law_ways T.F_f_law_ways.kp T.b_f_law_ways (wa_cons (we_var (i := 0) rfl (.inr (.inl rfl))) (wa_cons (we_var (i := 1) rfl (.inl rfl)) (wa_nil))))) (wa_nil))))
theorem ok_f_law_weights (T : Txt K mg) : FnG P w K mg base CX0 2 T.a_f_law_weights T.d_f_law_weights ["_law_system", "_law_plan"] (spOf K S_f_law_weights) := by
  refine fn_okP T.F_f_law_weights sc_f_law_weights rfl (fun cdv A outer s H E hr hgd => ?_) vc_f_law_weights
  have nd := sc_f_law_weights.nd
  exact wb_cons (ws_set (i := 2) nd rfl (.inl rfl) (we_lst (m := true) (wa_cons (we_int) (wa_cons (we_int) (wa_cons (we_int) (wa_cons (we_int) (wa_nil))))))) (wb_cons (ws_for PassesOwn.never rfl (wi_seq (we_ix (we_var (i := 0) rfl (.inl rfl)) (we_int))) (wg_name (i := 3) nd rfl (.inl rfl)) (wb_cons (ws_set (i := 4) nd rfl (.inl rfl) (we_op op_mulD z_mul (we_ix (we_var (i := 3) rfl (.inl rfl)) (we_int)) (we_callX z_int (fun h => pe_callTy call_int1 (by rfl) T.n_int bb_int h) (wa_cons (we_call (ok_f_law_kept T) (hr.mono (by decide)) hgd (by rfl) T.m_f_law_kept T.F_f_law_kept.kp T.b_f_law_kept (wa_cons (we_var (i := 0) rfl (.inl rfl)) (wa_cons (we_var (i := 3) rfl (.inl rfl)) (wa_cons (we_ix (we_var (i := 1) rfl (.inl rfl)) (we_ix (we_var (i := 3) rfl (.inl rfl)) (we_int))) (wa_nil))))) (wa_nil))))) (wb_one (ws_asg (we_op op_addD z_add (we_ix (we_var (i := 2) rfl (.inl rfl)) (we_ix (we_var (i := 3) rfl (.inl rfl)) (we_int))) (we_var (i := 4) rfl (.inl rfl))) (wg_sub (we_var (i := 2) rfl (.inl rfl)) (we_ix (we_var (i := 3) rfl (.inl rfl)) (we_int))))))) (wb_one (ws_ret (we_callX z_tuple (fun h => pe_callTy call_tupleX (by rfl) T.n_tuple bb_tuple h) (wa_cons (we_var (i := 2) rfl (.inl rfl)) (wa_nil))))))
theorem ok_f_law_even_wish (T : Txt K mg) : FnG P w K mg base CX0 2 T.a_f_law_even_wish T.d_f_law_even_wish ["_law_deck_here", "_law_work", "_law_days"] (spOf K S_f_law_even_wish) := by
  refine fn_ok T.F_f_law_even_wish sc_f_law_even_wish rfl (fun cdv A outer s H E hr hgd => ?_) vc_f_law_even_wish
  have nd := sc_f_law_even_wish.nd
  exact wb_cons (ws_set (i := 3) nd rfl (.inl rfl) (we_ix (we_lst (m := false) (wa_cons (we_int) (wa_cons (we_int) (wa_cons (we_int) (wa_nil))))) (we_op op_mod z_mod (we_call (ok_f_law_next T) (hr.mono (by decide)) hgd (by rfl) T.m_f_law_next T.F_f_law_next.kp T.b_f_law_next (wa_cons (we_var (i := 0) rfl (.inl rfl)) (wa_nil))) (we_int)))) (wb_cons (ws_set (i := 4) nd rfl (.inl rfl) (we_ix (we_lst (m := false) (wa_cons (we_op op_addD z_add (we_int) (we_op op_mod z_mod (we_call (ok_f_law_next T) (hr.mono (by decide)) hgd (by rfl) T.m_f_law_next T.F_f_law_next.kp T.b_f_law_next (wa_cons (we_var (i := 0) rfl (.inl rfl)) (wa_nil))) (we_int))) (wa_cons (we_op op_addD z_add (we_int) (we_op op_mod z_mod (we_call (ok_f_law_next T) (hr.mono (by decide)) hgd (by rfl) T.m_f_law_next T.F_f_law_next.kp T.b_f_law_next (wa_cons (we_var (i := 0) rfl (.inl rfl)) (wa_nil))) (we_int))) (wa_nil)))) (we_op op_mod z_mod (we_call (ok_f_law_next T) (hr.mono (by decide)) hgd (by rfl) T.m_f_law_next T.F_f_law_next.kp T.b_f_law_next (wa_cons (we_var (i := 0) rfl (.inl rfl)) (wa_nil))) (we_int)))) (wb_one (ws_ret (we_tup (wa_cons (we_var (i := 1) rfl (.inl rfl)) (wa_cons (we_int) (wa_cons (we_op op_mod z_mod (we_call (ok_f_law_next T) (hr.mono (by decide)) hgd (by rfl) T.m_f_law_next T.F_f_law_next.kp T.b_f_law_next (wa_cons (we_var (i := 0) rfl (.inl rfl)) (wa_nil))) (we_op op_addD z_add (we_var (i := 2) rfl (.inl rfl)) (we_int))) (wa_cons (we_var (i := 4) rfl (.inl rfl)) (wa_cons (we_op op_mod z_mod (we_call (ok_f_law_next T) (hr.mono (by decide)) hgd (by rfl) T.m_f_law_next T.F_f_law_next.kp T.b_f_law_next (wa_cons (we_var (i := 0) rfl (.inl rfl)) (wa_nil))) (we_var (i := 3) rfl (.inl rfl))) (wa_nil))))))))))
theorem ok_f_law_may (T : Txt K mg) : FnG P w K mg base CX0 2 T.a_f_law_may T.d_f_law_may ["_law_system", "_law_places"] (spOf K S_f_law_may) := by
  refine fn_ok T.F_f_law_may sc_f_law_may rfl (fun cdv A outer s H E hr hgd => ?_) vc_f_law_may
  have nd := sc_f_law_may.nd
  exact wb_cons (ws_for PassesOwn.never rfl (wi_range1 (by rfl) T.n_range (wa_cons (we_op op_addD z_add (we_ix (we_var (i := 0) rfl (.inr (.inl rfl))) (we_int)) (we_int)) (wa_nil))) (wg_name (i := 2) nd rfl (.inr rfl)) (wb_one (ws_if (wt_cmp (op_gtD hr.units0) z_gt (we_callX z_len (fun h => pe_callB (CallR.or call_len_seq call_len_str) (by rfl) T.n_len bb_len h) (wa_cons (we_lc (m := false) (t := (.nm 3)) (own := [("_law_place", 3)]) rfl nd (wi_seq (we_var (i := 1) rfl (.inl rfl))) (blkOk_by (own := [("_law_place", 3)]) (N := N_f_law_may) (by kernel_rfl)) (by simp [Tg.ix]) (fun _ _ _ _ _ => pg_name (i := 3) nd rfl (.inl rfl)) (fun _ _ _ _ _ => wts_one (wt_cmp (op_leD hr.units0) z_le (we_ix (we_ix (we_ix (we_var (i := 0) rfl (.inr (.inl rfl))) (we_int)) (we_var (i := 3) rfl (.inl rfl))) (we_int)) (we_var (i := 2) rfl (.inr (.inl rfl))) ((nomark _)))) (fun _ _ _ _ _ => we_var (i := 3) rfl (.inl rfl))) (wa_nil))) (we_call (ok_f_law_room T) (hr.mono (by decide)) hgd (by rfl) T.m_f_law_room T.F_f_law_room.kp T.b_f_law_room (wa_cons (we_var (i := 0) rfl (.inr (.inl rfl))) (wa_cons (we_var (i := 2) rfl (.inr (.inl rfl))) (wa_nil)))) ((nomark _))) (wb_one (ws_ret (we_bl))) (wb_nil)))) (wb_one (ws_ret (we_bl)))
theorem ok_f_law_full_days (T : Txt K mg) : FnG P w K mg base CX0 2 T.a_f_law_full_days T.d_f_law_full_days ["_law_system", "_law_plan", "_law_place"] (spOf K S_f_law_full_days) := by
  refine fn_okP T.F_f_law_full_days sc_f_law_full_days rfl (fun cdv A outer s H E hr hgd => ?_) vc_f_law_full_days
  have nd := sc_f_law_full_days.nd
  exact wb_cons (ws_set (i := 3) nd rfl (.inl rfl) (we_ix (we_ix (we_var (i := 0) rfl (.inl rfl)) (we_int)) (we_var (i := 2) rfl (.inl rfl)))) (wb_cons (ws_set (i := 4) nd rfl (.inl rfl) (we_lst (m := true) (wa_nil))) (wb_cons (ws_for PassesOwn.never rfl (wi_range2 (by rfl) T.n_range (wa_cons (we_ix (we_var (i := 3) rfl (.inl rfl)) (we_int)) (wa_cons (we_op op_addD z_add (we_ix (we_var (i := 0) rfl (.inl rfl)) (we_int)) (we_int)) (wa_nil)))) (wg_name (i := 5) nd rfl (.inl rfl)) (wb_cons (ws_set (i := 6) nd rfl (.inl rfl) (we_int)) (wb_cons (ws_for PassesOwn.never rfl (wi_seq (we_ix (we_var (i := 0) rfl (.inl rfl)) (we_int))) (wg_name (i := 7) nd rfl (.inl rfl)) (wb_cons (ws_set (i := 8) nd rfl (.inl rfl) (we_or (we_cmp (op_ltD hr.units0) z_lt (we_ix (we_var (i := 7) rfl (.inl rfl)) (we_int)) (we_ix (we_var (i := 3) rfl (.inl rfl)) (we_int)) ((nomark _))) (we_one (we_and (we_cmp (op_eqC hr.units) z_eqB (we_ix (we_var (i := 7) rfl (.inl rfl)) (we_int)) (we_ix (we_var (i := 3) rfl (.inl rfl)) (we_int)) ((nomark _))) (we_one (we_cmp (op_geD hr.units0) z_ge (we_ix (we_var (i := 7) rfl (.inl rfl)) (we_int)) (we_ix (we_var (i := 3) rfl (.inl rfl)) (we_int)) ((nomark _)))))))) (wb_one (ws_if ((ww_and (wt_val (we_var (i := 8) rfl (.inl rfl))) (ww_and (wt_cmp (op_leD hr.units0) z_le (we_ix (we_var (i := 7) rfl (.inl rfl)) (we_int)) (we_var (i := 5) rfl (.inl rfl)) ((nomark _))) (ww_and1 (wt_val (we_call (ok_f_law_kept T) (hr.mono (by decide)) hgd (by rfl) T.m_f_law_kept T.F_f_law_kept.kp T.b_f_law_kept (wa_cons (we_var (i := 0) rfl (.inl rfl)) (wa_cons (we_var (i := 7) rfl (.inl rfl)) (wa_cons (we_ix (we_var (i := 1) rfl (.inl rfl)) (we_ix (we_var (i := 7) rfl (.inl rfl)) (we_int))) (wa_nil))))))))).wt) (wb_one (ws_set (i := 6) nd rfl (.inl rfl) (we_op op_addD z_add (we_var (i := 6) rfl (.inl rfl)) (we_int)))) (wb_nil))))) (wb_one (ws_if (wt_cmp (op_eqC hr.units) z_eqB (we_var (i := 6) rfl (.inl rfl)) (we_call (ok_f_law_room T) (hr.mono (by decide)) hgd (by rfl) T.m_f_law_room T.F_f_law_room.kp T.b_f_law_room (wa_cons (we_var (i := 0) rfl (.inl rfl)) (wa_cons (we_var (i := 5) rfl (.inl rfl)) (wa_nil)))) ((nomark _))) (wb_one (ws_expr (we_m PySem.F.slot_list_append PySem.F.type_list_append mt_append z_append (we_var (i := 4) rfl (.inl rfl)) (wa_cons (we_var (i := 5) rfl (.inl rfl)) (wa_nil)) (fun h1 h2 => pe_bm PySem.F.plainAttrs_list PySem.F.slot_list_append PySem.F.type_list_append mt_append h1 h2)))) (wb_nil)))))) (wb_one (ws_ret (we_frz (i := 4) rfl (.inl rfl))))))
theorem ok_f_law_bent_row (T : Txt K mg) : FnG P w K mg base CX0 2 T.a_f_law_bent_row T.d_f_law_bent_row ["_law_deck_here", "_law_row"] (spOf K S_f_law_bent_row) := by
  refine fn_ok T.F_f_law_bent_row sc_f_law_bent_row rfl (fun cdv A outer s H E hr hgd => ?_) vc_f_law_bent_row
  have nd := sc_f_law_bent_row.nd
  exact wb_cons (ws_set (i := 2) nd rfl (.inl rfl) (we_op op_mod z_mod (we_call (ok_f_law_next T) (hr.mono (by decide)) hgd (by rfl) T.m_f_law_next T.F_f_law_next.kp T.b_f_law_next (wa_cons (we_var (i := 0) rfl (.inl rfl)) (wa_nil))) (we_int))) (wb_cons (ws_set (i := 3) nd rfl (.inl rfl) (we_call (ok_f_law_next T) (hr.mono (by decide)) hgd (by rfl) T.m_f_law_next T.F_f_law_next.kp T.b_f_law_next (wa_cons (we_var (i := 0) rfl (.inl rfl)) (wa_nil)))) (wb_cons (ws_set (i := 4) nd rfl (.inl rfl) (we_call (ok_f_law_next T) (hr.mono (by decide)) hgd (by rfl) T.m_f_law_next T.F_f_law_next.kp T.b_f_law_next (wa_cons (we_var (i := 0) rfl (.inl rfl)) (wa_nil)))) (wb_cons (ws_set (i := 5) nd rfl (.inl rfl) (we_op op_mod z_mod (we_var (i := 3) rfl (.inl rfl)) (we_callX z_max2 (fun h => pe_callB (call_max2 rfl) (by rfl) T.n_max bb_max h) (wa_cons (we_int) (wa_cons (we_callX z_len (fun h => pe_callB (CallR.or call_len_seq call_len_str) (by rfl) T.n_len bb_len h) (wa_cons (we_var (i := 1) rfl (.inl rfl)) (wa_nil))) (wa_nil)))))) (wb_cons (ws_if (wt_cmp (op_eqC hr.units) z_eqB (we_var (i := 2) rfl (.inl rfl)) (we_int) ((nomark _))) (wb_one (ws_ret (we_op op_addD z_add (we_sl (m := false) (we_var (i := 1) rfl (.inl rfl)) wo_none (wo_some (we_var (i := 5) rfl (.inl rfl)))) (we_sl (m := false) (we_var (i := 1) rfl (.inl rfl)) (wo_some (we_op op_addD z_add (we_var (i := 5) rfl (.inl rfl)) (we_int))) wo_none)))) (wb_nil)) (wb_cons (ws_if (wt_cmp (op_eqC hr.units) z_eqB (we_var (i := 2) rfl (.inl rfl)) (we_int) ((nomark _))) (wb_one (ws_ret (we_op op_addD z_add (we_op op_addD z_add (we_sl (m := false) (we_var (i := 1) rfl (.inl rfl)) wo_none (wo_some (we_var (i := 5) rfl (.inl rfl)))) (we_sl (m := false) (we_var (i := 1) rfl (.inl rfl)) (wo_some (we_var (i := 5) rfl (.inl rfl))) (wo_some (we_op op_addD z_add (we_var (i := 5) rfl (.inl rfl)) (we_int))))) (we_sl (m := false) (we_var (i := 1) rfl (.inl rfl)) (wo_some (we_var (i := 5) rfl (.inl rfl))) wo_none)))) (wb_nil)) (wb_cons (ws_if (wt_cmp (op_eqC hr.units) z_eqB (we_var (i := 2) rfl (.inl rfl)) (we_int) ((nomark _))) (wb_one (ws_ret (we_callX (z_list (m := false)) (fun h => pe_callTy call_list_of (by rfl) T.n_list bb_list h) (wa_cons (we_var (i := 1) rfl (.inl rfl)) (wa_nil))))) (wb_nil)) (wb_cons (ws_if (wt_cmp (op_eqC hr.units) z_eqB (we_var (i := 2) rfl (.inl rfl)) (we_int) ((nomark _))) (wb_one (ws_ret (we_op op_addD z_add (we_op op_addD z_add (we_sl (m := false) (we_var (i := 1) rfl (.inl rfl)) wo_none (wo_some (we_var (i := 5) rfl (.inl rfl)))) (we_tup (wa_cons (we_call (ok_f_law_odd T) (hr.mono (by decide)) hgd (by rfl) T.m_f_law_odd T.F_f_law_odd.kp T.b_f_law_odd (wa_cons (we_var (i := 4) rfl (.inl rfl)) (wa_nil))) (wa_nil)))) (we_sl (m := false) (we_var (i := 1) rfl (.inl rfl)) (wo_some (we_op op_addD z_add (we_var (i := 5) rfl (.inl rfl)) (we_int))) wo_none)))) (wb_nil)) (wb_cons (ws_if (wt_cmp (op_eqC hr.units) z_eqB (we_var (i := 2) rfl (.inl rfl)) (we_int) ((nomark _))) (wb_one (ws_ret (we_op op_addD z_add (we_sl (m := false) (we_var (i := 1) rfl (.inl rfl)) (wo_some (we_var (i := 5) rfl (.inl rfl))) wo_none) (we_sl (m := false) (we_var (i := 1) rfl (.inl rfl)) wo_none (wo_some (we_var (i := 5) rfl (.inl rfl))))))) (wb_nil)) (wb_cons (ws_if ((ww_or (wt_cmp (op_eqC hr.units) z_eqB (we_var (i := 2) rfl (.inl rfl)) (we_int) ((nomark _))) (ww_or1 (wt_cmp (op_eqC hr.units) z_eqB (we_callX z_len (fun h => pe_callB (CallR.or call_len_seq call_len_str) (by rfl) T.n_len bb_len h) (wa_cons (we_var (i := 1) rfl (.inl rfl)) (wa_nil))) (we_int) ((nomark _))))).wt) (wb_one (ws_ret (we_op op_addD z_add (we_var (i := 1) rfl (.inl rfl)) (we_tup (wa_cons (we_call (ok_f_law_odd T) (hr.mono (by decide)) hgd (by rfl) T.m_f_law_odd T.F_f_law_odd.kp T.b_f_law_odd (wa_cons (we_var (i := 4) rfl (.inl rfl)) (wa_nil))) (wa_nil)))))) (wb_nil)) (wb_cons (ws_set (i := 6) nd rfl (.inl rfl) (we_ix (we_var (i := 1) rfl (.inl rfl)) (we_var (i := 5) rfl (.inl rfl)))) (wb_cons (ws_if ((ww_or (wt_not (wt_val (we_isi tok_tuple (by rfl) T.n_isinstance (by rfl) T.n_tuple bb_tuple (we_var (i := 6) rfl (.inl rfl))))) (ww_or1 (wt_cmp (op_neC hr.units) z_eqB (we_callX z_len (fun h => pe_callB (CallR.or call_len_seq call_len_str) (by rfl) T.n_len bb_len h) (wa_cons (we_var (i := 6) rfl (.inl rfl)) (wa_nil))) (we_int) ((nomark _))))).wt) (wb_one (ws_ret (we_revA (m := false) (we_var (i := 1) rfl (.inl rfl))))) (wb_nil)) (wb_cons (ws_set (i := 7) nd rfl (.inl rfl) (we_ix (we_lst (m := false) (wa_cons (we_neg (we_int)) (wa_cons (we_int) (wa_cons (we_int) (wa_cons (we_neg (we_int)) (wa_cons (we_int) (wa_nil))))))) (we_op op_mod z_mod (we_var (i := 4) rfl (.inl rfl)) (we_int)))) (wb_cons (ws_set (i := 8) nd rfl (.inl rfl) (we_lst (m := false) (wa_cons (we_tup (wa_cons (we_op op_addD z_add (we_ix (we_var (i := 6) rfl (.inl rfl)) (we_int)) (we_var (i := 7) rfl (.inl rfl))) (wa_cons (we_ix (we_var (i := 6) rfl (.inl rfl)) (we_int)) (wa_nil)))) (wa_cons (we_tup (wa_cons (we_ix (we_var (i := 6) rfl (.inl rfl)) (we_int)) (wa_cons (we_op op_addD z_add (we_ix (we_var (i := 6) rfl (.inl rfl)) (we_int)) (we_var (i := 7) rfl (.inl rfl))) (wa_nil)))) (wa_cons (we_callX (z_list (m := false)) (fun h => pe_callTy call_list_of (by rfl) T.n_list bb_list h) (wa_cons (we_var (i := 6) rfl (.inl rfl)) (wa_nil))) (wa_cons (we_sl (m := false) (we_var (i := 6) rfl (.inl rfl)) wo_none (wo_some (we_int))) (wa_cons (we_op op_addD z_add (we_var (i := 6) rfl (.inl rfl)) (we_tup (wa_cons (we_int) (wa_nil)))) (wa_cons (we_tup (wa_cons (we_ix (we_var (i := 6) rfl (.inl rfl)) (we_int)) (wa_cons (we_ix (we_var (i := 6) rfl (.inl rfl)) (we_int)) (wa_nil)))) (wa_nil))))))))) (wb_cons (ws_set (i := 8) nd rfl (.inl rfl) (we_op op_addD z_add (we_var (i := 8) rfl (.inl rfl)) (we_lst (m := false) (wa_cons (we_tup (wa_cons (we_ix (we_var (i := 6) rfl (.inl rfl)) (we_int)) (wa_cons (we_bl) (wa_nil)))) (wa_cons (we_tup (wa_cons (we_bl) (wa_cons (we_ix (we_var (i := 6) rfl (.inl rfl)) (we_int)) (wa_nil)))) (wa_cons (we_tup (wa_cons (we_ix (we_var (i := 6) rfl (.inl rfl)) (we_int)) (wa_cons (we_non) (wa_nil)))) (wa_cons (we_tup (wa_cons (we_ix (we_var (i := 6) rfl (.inl rfl)) (we_int)) (wa_cons (we_tup (wa_cons (we_ix (we_var (i := 6) rfl (.inl rfl)) (we_int)) (wa_nil))) (wa_nil)))) (wa_nil)))))))) (wb_one (ws_ret (we_op op_addD z_add (we_op op_addD z_add (we_sl (m := false) (we_var (i := 1) rfl (.inl rfl)) wo_none (wo_some (we_var (i := 5) rfl (.inl rfl)))) (we_tup (wa_cons (we_ix (we_var (i := 8) rfl (.inl rfl)) (we_op op_mod z_mod (we_op op_fdivW z_fdiv (we_var (i := 4) rfl (.inl rfl)) (we_int)) (we_callX z_len (fun h => pe_callB (CallR.or call_len_seq call_len_str) (by rfl) T.n_len bb_len h) (wa_cons (we_var (i := 8) rfl (.inl rfl)) (wa_nil))))) (wa_nil)))) (we_sl (m := false) (we_var (i := 1) rfl (.inl rfl)) (wo_some (we_op op_addD z_add (we_var (i := 5) rfl (.inl rfl)) (we_int))) wo_none))))))))))))))))))
theorem ok_p_is_way (T : Txt K mg) : FnG P w K mg base CX0 3 T.a_p_is_way T.d_p_is_way ["system", "work", "thing"] (spOf K S_p_is_way) := by
  refine fn_ok T.F_p_is_way sc_p_is_way rfl (fun cdv A outer s H E hr hgd => ?_) vc_p_is_way
  have nd := sc_p_is_way.nd
  exact wb_cons (ws_if ((ww_or (wt_not (wt_val (we_isi tok_tuple (by rfl) T.n_isinstance (by rfl) T.n_tuple bb_tuple (we_var (i := 2) rfl (.inl rfl))))) (ww_or1 (wt_cmp (op_neC hr.units) z_eqB (we_callX z_len (fun h => pe_callB (CallR.or call_len_seq call_len_str) (by rfl) T.n_len bb_len h) (wa_cons (we_var (i := 2) rfl (.inl rfl)) (wa_nil))) (we_int) ((nomark _))))).wt) (wb_one (ws_ret (we_bl))) (wb_nil)) (wb_cons (ws_asg (we_ix (we_ix (we_var (i := 0) rfl (.inl rfl)) (we_int)) (we_var (i := 1) rfl (.inl rfl))) (wg_tup rfl (wgs_cons (wg_name (i := 3) nd rfl (.inl rfl)) (wgs_cons (wg_name (i := 4) nd rfl (.inl rfl)) (wgs_cons (wg_name (i := 5) nd rfl (.inl rfl)) (wgs_nil)))))) (wb_cons (ws_asg (we_var (i := 2) rfl (.inl rfl)) (wg_tup rfl (wgs_cons (wg_name (i := 6) nd rfl (.inl rfl)) (wgs_cons (wg_name (i := 7) nd rfl (.inl rfl)) (wgs_nil))))) (wb_cons (ws_if ((ww_or (wt_not (wt_val (we_call (ok_p_is_from T) (hr.mono (by decide)) hgd (by rfl) T.m_p_is_from T.F_p_is_from.kp T.b_p_is_from (wa_cons (we_var (i := 6) rfl (.inl rfl)) (wa_cons (we_int) (wa_cons (we_op op_sub z_sub (we_ix (we_var (i := 0) rfl (.inl rfl)) (we_int)) (we_var (i := 3) rfl (.inl rfl))) (wa_nil))))))) (ww_or (wt_not (wt_val (we_call (ok_p_is_from T) (hr.mono (by decide)) hgd (by rfl) T.m_p_is_from T.F_p_is_from.kp T.b_p_is_from (wa_cons (we_var (i := 7) rfl (.inl rfl)) (wa_cons (we_int) (wa_cons (we_op op_sub z_sub (we_callX z_len (fun h => pe_callB (CallR.or call_len_seq call_len_str) (by rfl) T.n_len bb_len h) (wa_cons (we_ix (we_var (i := 0) rfl (.inl rfl)) (we_int)) (wa_nil))) (we_int)) (wa_nil))))))) (ww_or1 (wt_cmp (op_notInB hr.units) z_inB (we_var (i := 7) rfl (.inl rfl)) (we_var (i := 5) rfl (.inl rfl)) (by rfl))))).wt) (wb_one (ws_ret (we_bl))) (wb_nil)) (wb_one (ws_ret (we_call (ok_p_is_free T) (hr.mono (by decide)) hgd (by rfl) T.m_p_is_free T.F_p_is_free.kp T.b_p_is_free (wa_cons (we_var (i := 0) rfl (.inl rfl)) (wa_cons (we_var (i := 7) rfl (.inl rfl)) (wa_cons (we_var (i := 6) rfl (.inl rfl)) (wa_cons (we_op op_addD z_add (we_var (i := 6) rfl (.inl rfl)) (we_var (i := 3) rfl (.inl rfl))) (wa_nil)))))))))))
theorem ok_p_clash (T : Txt K mg) : FnG P w K mg base CX0 3 T.a_p_clash T.d_p_clash ["system", "one", "way", "other", "other_way"] (spOf K S_p_clash) := by
  refine fn_ok T.F_p_clash sc_p_clash rfl (fun cdv A outer s H E hr hgd => ?_) vc_p_clash
  have nd := sc_p_clash.nd
  exact wb_cons (ws_if ((ww_and (wt_cmp (op_eqC hr.units) z_eqB (we_ix (we_var (i := 2) rfl (.inl rfl)) (we_int)) (we_ix (we_var (i := 4) rfl (.inl rfl)) (we_int)) ((nomark _))) (ww_and (wt_cmp (op_ltD hr.units0) z_lt (we_ix (we_var (i := 2) rfl (.inl rfl)) (we_int)) (we_call (ok_p_end_of T) (hr.mono (by decide)) hgd (by rfl) T.m_p_end_of T.F_p_end_of.kp T.b_p_end_of (wa_cons (we_var (i := 0) rfl (.inl rfl)) (wa_cons (we_var (i := 3) rfl (.inl rfl)) (wa_cons (we_var (i := 4) rfl (.inl rfl)) (wa_nil))))) ((nomark _))) (ww_and1 (wt_cmp (op_ltD hr.units0) z_lt (we_ix (we_var (i := 4) rfl (.inl rfl)) (we_int)) (we_call (ok_p_end_of T) (hr.mono (by decide)) hgd (by rfl) T.m_p_end_of T.F_p_end_of.kp T.b_p_end_of (wa_cons (we_var (i := 0) rfl (.inl rfl)) (wa_cons (we_var (i := 1) rfl (.inl rfl)) (wa_cons (we_var (i := 2) rfl (.inl rfl)) (wa_nil))))) ((nomark _)))))).wt) (wb_one (ws_ret (we_bl))) (wb_nil)) (wb_one (ws_ret (we_or (we_call (ok_p_is_behind T) (hr.mono (by decide)) hgd (by rfl) T.m_p_is_behind T.F_p_is_behind.kp T.b_p_is_behind (wa_cons (we_var (i := 0) rfl (.inl rfl)) (wa_cons (we_var (i := 1) rfl (.inl rfl)) (wa_cons (we_var (i := 2) rfl (.inl rfl)) (wa_cons (we_var (i := 3) rfl (.inl rfl)) (wa_cons (we_var (i := 4) rfl (.inl rfl)) (wa_nil))))))) (we_one (we_call (ok_p_is_behind T) (hr.mono (by decide)) hgd (by rfl) T.m_p_is_behind T.F_p_is_behind.kp T.b_p_is_behind (wa_cons (we_var (i := 0) rfl (.inl rfl)) (wa_cons (we_var (i := 3) rfl (.inl rfl)) (wa_cons (we_var (i := 4) rfl (.inl rfl)) (wa_cons (we_var (i := 1) rfl (.inl rfl)) (wa_cons (we_var (i := 2) rfl (.inl rfl)) (wa_nil)))))))))))
theorem ok_p_holds_full (T : Txt K mg) : FnG P w K mg base CX0 3 T.a_p_holds_full T.d_p_holds_full ["system", "kept", "place", "pair"] (spOf K S_p_holds_full) := by
  refine fn_ok T.F_p_holds_full sc_p_holds_full rfl (fun cdv A outer s H E hr hgd => ?_) vc_p_holds_full
  have nd := sc_p_holds_full.nd
  exact wb_cons (ws_set (i := 4) nd rfl (.inr rfl) (we_ix (we_ix (we_var (i := 0) rfl (.inl rfl)) (we_int)) (we_var (i := 2) rfl (.inl rfl)))) (wb_cons (ws_if ((ww_or (wt_not (wt_val (we_isi tok_tuple (by rfl) T.n_isinstance (by rfl) T.n_tuple bb_tuple (we_var (i := 3) rfl (.inl rfl))))) (ww_or (wt_cmp (op_neC hr.units) z_eqB (we_callX z_len (fun h => pe_callB (CallR.or call_len_seq call_len_str) (by rfl) T.n_len bb_len h) (wa_cons (we_var (i := 3) rfl (.inl rfl)) (wa_nil))) (we_int) ((nomark _))) (ww_or1 (wt_not (wt_val (we_call (ok_p_is_from T) (hr.mono (by decide)) hgd (by rfl) T.m_p_is_from T.F_p_is_from.kp T.b_p_is_from (wa_cons (we_ix (we_var (i := 3) rfl (.inl rfl)) (we_int)) (wa_cons (we_var (i := 2) rfl (.inl rfl)) (wa_cons (we_var (i := 2) rfl (.inl rfl)) (wa_nil)))))))))).wt) (wb_one (ws_ret (we_bl))) (wb_nil)) (wb_cons (ws_set (i := 5) nd rfl (.inr rfl) (we_ix (we_var (i := 3) rfl (.inl rfl)) (we_int))) (wb_cons (ws_if (wt_not (wt_val (we_call (ok_p_is_from T) (hr.mono (by decide)) hgd (by rfl) T.m_p_is_from T.F_p_is_from.kp T.b_p_is_from (wa_cons (we_var (i := 5) rfl (.inr (.inl rfl))) (wa_cons (we_ix (we_var (i := 4) rfl (.inr (.inl rfl))) (we_int)) (wa_cons (we_ix (we_var (i := 0) rfl (.inl rfl)) (we_int)) (wa_nil))))))) (wb_one (ws_ret (we_bl))) (wb_nil)) (wb_one (ws_ret (we_cmp (op_eqC hr.units) z_eqB (we_callX z_len (fun h => pe_callB (CallR.or call_len_seq call_len_str) (by rfl) T.n_len bb_len h) (wa_cons (we_lc (m := false) (t := (.nm 6)) (own := [("one", 6)]) rfl nd (wi_seq (we_var (i := 1) rfl (.inl rfl))) (blkOk_by (own := [("one", 6)]) (N := N_p_holds_full) (by kernel_rfl)) (by simp [Tg.ix]) (fun _ _ _ _ _ => pg_name (i := 6) nd rfl (.inl rfl)) (fun _ _ _ _ _ => wts_one ((ww_and (wt_val (we_call (ok_p_is_no_lower T) (hr.mono (by decide)) hgd (by rfl) T.m_p_is_no_lower T.F_p_is_no_lower.kp T.b_p_is_no_lower (wa_cons (we_var (i := 6) rfl (.inl rfl)) (wa_cons (we_var (i := 4) rfl (.inr (.inl rfl))) (wa_nil))))) (ww_and1 (wt_cmp (op_leD hr.units0) z_le (we_ix (we_var (i := 6) rfl (.inl rfl)) (we_int)) (we_var (i := 5) rfl (.inr (.inl rfl))) ((nomark _))))).wt)) (fun _ _ _ _ _ => we_var (i := 6) rfl (.inl rfl))) (wa_nil))) (we_call (ok_p_room_up_to T) (hr.mono (by decide)) hgd (by rfl) T.m_p_room_up_to T.F_p_room_up_to.kp T.b_p_room_up_to (wa_cons (we_var (i := 0) rfl (.inl rfl)) (wa_cons (we_var (i := 5) rfl (.inr (.inl rfl))) (wa_nil)))) ((nomark _))))))))
theorem ok_p_taken_wishes (T : Txt K mg) : FnG P w K mg base CX0 3 T.a_p_taken_wishes T.d_p_taken_wishes ["system"] (spOf K S_p_taken_wishes) := by
  refine fn_okP T.F_p_taken_wishes sc_p_taken_wishes rfl (fun cdv A outer s H E hr hgd => ?_) vc_p_taken_wishes
  have nd := sc_p_taken_wishes.nd
  exact wb_cons (ws_set (i := 1) nd rfl (.inl rfl) (we_callX (z_sort3 (m := false)) (fun h => pe_callB cr_sorted3 (by rfl) T.n_sorted bb_sorted h) (wa_cons (we_lc (m := false) (t := (.tp [6, 8])) (own := [("place", 6), ("wish", 8)]) rfl nd (wi_enum (by rfl) T.n_enumerate (we_ix (we_var (i := 0) rfl (.inl rfl)) (we_int))) (blkOk_by (own := [("place", 6), ("wish", 8)]) (N := N_p_taken_wishes) (by kernel_rfl)) (by simp [Tg.ix]) (fun _ _ _ _ _ => pg_tup rfl (pgs_cons (pg_name (i := 6) nd rfl (.inl rfl)) (pgs_cons (pg_name (i := 8) nd rfl (.inl rfl)) (pgs_nil)))) (fun _ _ _ _ _ => wts_nil) (fun _ _ _ _ _ => we_tup (wa_cons (we_ix (we_var (i := 8) rfl (.inl rfl)) (we_int)) (wa_cons (we_op op_sub z_sub (we_int) (we_ix (we_var (i := 8) rfl (.inl rfl)) (we_int))) (wa_cons (we_var (i := 6) rfl (.inl rfl)) (wa_nil)))))) (wa_nil)))) (wb_cons (ws_set (i := 2) nd rfl (.inl rfl) (we_lst (m := true) (wa_nil))) (wb_cons (ws_set (i := 3) nd rfl (.inl rfl) (we_lst (m := true) (wa_nil))) (wb_cons (ws_for PassesOwn.never rfl (wi_seq (we_var (i := 1) rfl (.inl rfl))) (wg_tup rfl (wgs_cons (wg_name (i := 4) nd rfl (.inl rfl)) (wgs_cons (wg_name (i := 5) nd rfl (.inl rfl)) (wgs_cons (wg_name (i := 6) nd rfl (.inl rfl)) (wgs_nil))))) (wb_cons (ws_set (i := 7) nd rfl (.inl rfl) (we_ix (we_ix (we_ix (we_var (i := 0) rfl (.inl rfl)) (we_int)) (we_var (i := 6) rfl (.inl rfl))) (we_int))) (wb_one (ws_if (wt_val (we_call (ok_p_do_fit T) (hr.mono (by decide)) hgd (by rfl) T.m_p_do_fit T.F_p_do_fit.kp T.b_p_do_fit (wa_cons (we_var (i := 0) rfl (.inl rfl)) (wa_cons (we_op op_addD z_add (we_var (i := 3) rfl (.inl rfl)) (we_lst (m := false) (wa_cons (we_var (i := 7) rfl (.inl rfl)) (wa_nil)))) (wa_nil))))) (wb_cons (ws_expr (we_m PySem.F.slot_list_append PySem.F.type_list_append mt_append z_append (we_var (i := 2) rfl (.inl rfl)) (wa_cons (we_var (i := 6) rfl (.inl rfl)) (wa_nil)) (fun h1 h2 => pe_bm PySem.F.plainAttrs_list PySem.F.slot_list_append PySem.F.type_list_append mt_append h1 h2))) (wb_one (ws_expr (we_m PySem.F.slot_list_append PySem.F.type_list_append mt_append z_append (we_var (i := 3) rfl (.inl rfl)) (wa_cons (we_var (i := 7) rfl (.inl rfl)) (wa_nil)) (fun h1 h2 => pe_bm PySem.F.plainAttrs_list PySem.F.slot_list_append PySem.F.type_list_append mt_append h1 h2))))) (wb_nil))))) (wb_one (ws_ret (we_frz (i := 2) rfl (.inl rfl)))))))
theorem ok_f_law_plans (T : Txt K mg) : FnG P w K mg base CX0 3 T.a_f_law_plans T.d_f_law_plans ["_law_system", "_law_field"] (spOf K S_f_law_plans) := by
  refine fn_okP T.F_f_law_plans sc_f_law_plans rfl (fun cdv A outer s H E hr hgd => ?_) vc_f_law_plans
  have nd := sc_f_law_plans.nd
  exact wb_cons (ws_if (wt_cmp (op_inB hr.units) z_inB (we_tup (wa_nil)) (we_var (i := 1) rfl (.inl rfl)) (by rfl)) (wb_one (ws_ret (we_lst (m := false) (wa_nil)))) (wb_nil)) (wb_cons (ws_set (i := 2) nd rfl (.inl rfl) (we_lst (m := false) (wa_cons (we_tup (wa_nil)) (wa_nil)))) (wb_cons (ws_for PassesOwn.never rfl (wi_enum (by rfl) T.n_enumerate (we_var (i := 1) rfl (.inl rfl))) (wg_tup rfl (wgs_cons (wg_name (i := 3) nd rfl (.inr rfl)) (wgs_cons (wg_name (i := 4) nd rfl (.inl rfl)) (wgs_nil)))) (wb_cons (ws_set (i := 5) nd rfl (.inl rfl) (we_lst (m := true) (wa_nil))) (wb_cons (ws_for PassesOwn.never rfl (wi_seq (we_var (i := 2) rfl (.inl rfl))) (wg_name (i := 6) nd rfl (.inr rfl)) (wb_one (ws_expr (we_m PySem.F.slot_list_extend PySem.F.type_list_extend mt_extend z_extend (we_var (i := 5) rfl (.inl rfl)) (wa_cons (we_lc (m := false) (t := (.nm 7)) (own := [("_law_way", 7)]) rfl nd (wi_seq (we_var (i := 4) rfl (.inl rfl))) (blkOk_by (own := [("_law_way", 7)]) (N := N_f_law_plans) (by kernel_rfl)) (by simp [Tg.ix]) (fun _ _ _ _ _ => pg_name (i := 7) nd rfl (.inl rfl)) (fun _ _ _ _ _ => wts_one (wt_val (we_call (ok_f_law_goes T) (hr.mono (by decide)) hgd (by rfl) T.m_f_law_goes T.F_f_law_goes.kp T.b_f_law_goes (wa_cons (we_var (i := 0) rfl (.inr (.inl rfl))) (wa_cons (we_var (i := 6) rfl (.inr (.inl rfl))) (wa_cons (we_var (i := 3) rfl (.inr (.inl rfl))) (wa_cons (we_var (i := 7) rfl (.inl rfl)) (wa_nil)))))))) (fun _ _ _ _ _ => we_op op_addD z_add (we_var (i := 6) rfl (.inr (.inl rfl))) (we_tup (wa_cons (we_var (i := 7) rfl (.inl rfl)) (wa_nil))))) (wa_nil)) (fun h1 h2 => pe_bm PySem.F.plainAttrs_list PySem.F.slot_list_extend PySem.F.type_list_extend mt_extend h1 h2))))) (wb_one (ws_set (i := 2) nd rfl (.inl rfl) (we_var (i := 5) rfl (.inl rfl))))))) (wb_one (ws_ret (we_frzA (i := 2) rfl (.inl rfl))))))
theorem ok_f_law_even (T : Txt K mg) : FnG P w K mg base CX0 3 T.a_f_law_even T.d_f_law_even ["_law_deck_here", "_law_days", "_law_hands", "_law_works", "_law_length"] (spOf K S_f_law_even) := by
  refine fn_okP T.F_f_law_even sc_f_law_even rfl (fun cdv A outer s H E hr hgd => ?_) vc_f_law_even
  have nd := sc_f_law_even.nd
  exact wb_cons (ws_set (i := 5) nd rfl (.inl rfl) (we_op op_addD z_add (we_int) (we_op op_mod z_mod (we_call (ok_f_law_next T) (hr.mono (by decide)) hgd (by rfl) T.m_f_law_next T.F_f_law_next.kp T.b_f_law_next (wa_cons (we_var (i := 0) rfl (.inl rfl)) (wa_nil))) (we_var (i := 1) rfl (.inl rfl))))) (wb_cons (ws_set (i := 6) nd rfl (.inl rfl) (we_rgT1 rfl (by rfl) T.n_tuple (by rfl) T.n_range (we_op op_addD z_add (we_int) (we_op op_mod z_mod (we_call (ok_f_law_next T) (hr.mono (by decide)) hgd (by rfl) T.m_f_law_next T.F_f_law_next.kp T.b_f_law_next (wa_cons (we_var (i := 0) rfl (.inl rfl)) (wa_nil))) (we_var (i := 2) rfl (.inl rfl)))))) (wb_cons (ws_set (i := 7) nd rfl (.inl rfl) (we_op op_addD z_add (we_int) (we_op op_mod z_mod (we_call (ok_f_law_next T) (hr.mono (by decide)) hgd (by rfl) T.m_f_law_next T.F_f_law_next.kp T.b_f_law_next (wa_cons (we_var (i := 0) rfl (.inl rfl)) (wa_nil))) (we_var (i := 4) rfl (.inl rfl))))) (wb_cons (ws_set (i := 8) nd rfl (.inl rfl) (we_op op_mulD z_mul (we_callX z_len (fun h => pe_callB (CallR.or call_len_seq call_len_str) (by rfl) T.n_len bb_len h) (wa_cons (we_var (i := 6) rfl (.inl rfl)) (wa_nil))) (we_op op_fdivW z_fdiv (we_var (i := 5) rfl (.inl rfl)) (we_var (i := 7) rfl (.inl rfl))))) (wb_cons (ws_set (i := 9) nd rfl (.inl rfl) (we_callX z_min2 (fun h => pe_callB (call_min2 rfl) (by rfl) T.n_min bb_min h) (wa_cons (we_var (i := 3) rfl (.inl rfl)) (wa_cons (we_ix (we_lst (m := false) (wa_cons (we_var (i := 8) rfl (.inl rfl)) (wa_cons (we_op op_mod z_mod (we_call (ok_f_law_next T) (hr.mono (by decide)) hgd (by rfl) T.m_f_law_next T.F_f_law_next.kp T.b_f_law_next (wa_cons (we_var (i := 0) rfl (.inl rfl)) (wa_nil))) (we_op op_addD z_add (we_var (i := 8) rfl (.inl rfl)) (we_int))) (wa_cons (we_op op_addD z_add (we_var (i := 8) rfl (.inl rfl)) (we_int)) (wa_nil))))) (we_ix (we_lst (m := false) (wa_cons (we_int) (wa_cons (we_int) (wa_cons (we_int) (wa_cons (we_int) (wa_cons (we_int) (wa_cons (we_int) (wa_nil)))))))) (we_op op_mod z_mod (we_call (ok_f_law_next T) (hr.mono (by decide)) hgd (by rfl) T.m_f_law_next T.F_f_law_next.kp T.b_f_law_next (wa_cons (we_var (i := 0) rfl (.inl rfl)) (wa_nil))) (we_int)))) (wa_nil))))) (wb_cons (ws_set (i := 10) nd rfl (.inl rfl) (we_call (ok_f_law_next T) (hr.mono (by decide)) hgd (by rfl) T.m_f_law_next T.F_f_law_next.kp T.b_f_law_next (wa_cons (we_var (i := 0) rfl (.inl rfl)) (wa_nil)))) (wb_cons (ws_set (i := 11) nd rfl (.inl rfl) (we_lst (m := true) (wa_nil))) (wb_cons (ws_for PassesOwn.never rfl (wi_range1 (by rfl) T.n_range (wa_cons (we_var (i := 9) rfl (.inl rfl)) (wa_nil))) (wg_name (i := 12) nd rfl (.inl rfl)) (wb_one (ws_if (wt_cmp (op_gtD hr.units0) z_gt (we_op op_mod z_mod (we_call (ok_f_law_next T) (hr.mono (by decide)) hgd (by rfl) T.m_f_law_next T.F_f_law_next.kp T.b_f_law_next (wa_cons (we_var (i := 0) rfl (.inl rfl)) (wa_nil))) (we_int)) (we_int) ((nomark _))) (wb_one (ws_expr (we_m PySem.F.slot_list_append PySem.F.type_list_append mt_append z_append (we_var (i := 11) rfl (.inl rfl)) (wa_cons (we_call (ok_f_law_even_wish T) (hr.mono (by decide)) hgd (by rfl) T.m_f_law_even_wish T.F_f_law_even_wish.kp T.b_f_law_even_wish (wa_cons (we_var (i := 0) rfl (.inl rfl)) (wa_cons (we_op op_mod z_mod (we_op op_addD z_add (we_op op_mulD z_mul (we_var (i := 12) rfl (.inl rfl)) (we_ix (we_lst (m := false) (wa_cons (we_int) (wa_cons (we_op op_sub z_sub (we_var (i := 9) rfl (.inl rfl)) (we_int)) (wa_nil)))) (we_op op_mod z_mod (we_var (i := 10) rfl (.inl rfl)) (we_int)))) (we_var (i := 10) rfl (.inl rfl))) (we_var (i := 9) rfl (.inl rfl))) (wa_cons (we_var (i := 5) rfl (.inl rfl)) (wa_nil))))) (wa_nil)) (fun h1 h2 => pe_bm PySem.F.plainAttrs_list PySem.F.slot_list_append PySem.F.type_list_append mt_append h1 h2)))) (wb_nil)))) (wb_one (ws_ret (we_tup (wa_cons (we_var (i := 5) rfl (.inl rfl)) (wa_cons (we_op op_mulD z_mul (we_tup (wa_cons (we_tup (wa_nil)) (wa_nil))) (we_callX z_len (fun h => pe_callB (CallR.or call_len_seq call_len_str) (by rfl) T.n_len bb_len h) (wa_cons (we_var (i := 6) rfl (.inl rfl)) (wa_nil)))) (wa_cons (we_op op_mulD z_mul (we_tup (wa_cons (we_tup (wa_cons (we_var (i := 7) rfl (.inl rfl)) (wa_cons (we_tup (wa_nil)) (wa_cons (we_var (i := 6) rfl (.inl rfl)) (wa_nil))))) (wa_nil))) (we_var (i := 9) rfl (.inl rfl))) (wa_cons (we_callX z_tuple (fun h => pe_callTy call_tupleX (by rfl) T.n_tuple bb_tuple h) (wa_cons (we_var (i := 11) rfl (.inl rfl)) (wa_nil))) (wa_nil)))))))))))))))
theorem ok_f_law_taken (T : Txt K mg) : FnG P w K mg base CX0 3 T.a_f_law_taken T.d_f_law_taken ["_law_system"] (spOf K S_f_law_taken) := by
  refine fn_okP T.F_f_law_taken sc_f_law_taken rfl (fun cdv A outer s H E hr hgd => ?_) vc_f_law_taken
  have nd := sc_f_law_taken.nd
  exact wb_cons (ws_set (i := 1) nd rfl (.inl rfl) (we_lst (m := true) (wa_nil))) (wb_cons (ws_for PassesOwn.never rfl (wi_range1 (by rfl) T.n_range (wa_cons (we_int) (wa_nil))) (wg_name (i := 2) nd rfl (.inl rfl)) (wb_one (ws_for PassesOwn.never rfl (wi_range3 (by rfl) T.n_range (wa_cons (we_int) (wa_cons (we_int) (wa_cons (we_neg (we_int)) (wa_nil))))) (wg_name (i := 3) nd rfl (.inl rfl)) (wb_one (ws_for PassesOwn.never rfl (wi_enum (by rfl) T.n_enumerate (we_ix (we_var (i := 0) rfl (.inl rfl)) (we_int))) (wg_tup rfl (wgs_cons (wg_name (i := 4) nd rfl (.inl rfl)) (wgs_cons (wg_name (i := 5) nd rfl (.inl rfl)) (wgs_nil)))) (wb_one (ws_if ((ww_and (wt_cmp (op_eqC hr.units) z_eqB (we_ix (we_var (i := 5) rfl (.inl rfl)) (we_int)) (we_var (i := 2) rfl (.inl rfl)) ((nomark _))) (ww_and (wt_cmp (op_eqC hr.units) z_eqB (we_ix (we_var (i := 5) rfl (.inl rfl)) (we_int)) (we_var (i := 3) rfl (.inl rfl)) ((nomark _))) (ww_and1 (wt_val (we_call (ok_f_law_may T) (hr.mono (by decide)) hgd (by rfl) T.m_f_law_may T.F_f_law_may.kp T.b_f_law_may (wa_cons (we_var (i := 0) rfl (.inl rfl)) (wa_cons (we_op op_addD z_add (we_var (i := 1) rfl (.inl rfl)) (we_lst (m := false) (wa_cons (we_var (i := 4) rfl (.inl rfl)) (wa_nil)))) (wa_nil)))))))).wt) (wb_one (ws_expr (we_m PySem.F.slot_list_append PySem.F.type_list_append mt_append z_append (we_var (i := 1) rfl (.inl rfl)) (wa_cons (we_var (i := 4) rfl (.inl rfl)) (wa_nil)) (fun h1 h2 => pe_bm PySem.F.plainAttrs_list PySem.F.slot_list_append PySem.F.type_list_append mt_append h1 h2)))) (wb_nil)))))))) (wb_one (ws_ret (we_frz (i := 1) rfl (.inl rfl)))))
theorem ok_f_law_bent_paper (T : Txt K mg) : FnG P w K mg base CX0 3 T.a_f_law_bent_paper T.d_f_law_bent_paper ["_law_deck_here", "_law_paper_here"] (spOf K S_f_law_bent_paper) := by
  refine fn_ok T.F_f_law_bent_paper sc_f_law_bent_paper rfl (fun cdv A outer s H E hr hgd => ?_) vc_f_law_bent_paper
  have nd := sc_f_law_bent_paper.nd
  exact wb_cons (ws_set (i := 2) nd rfl (.inl rfl) (we_op op_mod z_mod (we_call (ok_f_law_next T) (hr.mono (by decide)) hgd (by rfl) T.m_f_law_next T.F_f_law_next.kp T.b_f_law_next (wa_cons (we_var (i := 0) rfl (.inl rfl)) (wa_nil))) (we_int))) (wb_cons (ws_if (wt_cmp (op_ltD hr.units0) z_lt (we_var (i := 2) rfl (.inl rfl)) (we_int) ((nomark _))) (wb_one (ws_ret (we_tup (wa_cons (we_call (ok_f_law_bent_row T) (hr.mono (by decide)) hgd (by rfl) T.m_f_law_bent_row T.F_f_law_bent_row.kp T.b_f_law_bent_row (wa_cons (we_var (i := 0) rfl (.inl rfl)) (wa_cons (we_ix (we_var (i := 1) rfl (.inl rfl)) (we_int)) (wa_nil)))) (wa_cons (we_ix (we_var (i := 1) rfl (.inl rfl)) (we_int)) (wa_nil)))))) (wb_nil)) (wb_cons (ws_if (wt_cmp (op_ltD hr.units0) z_lt (we_var (i := 2) rfl (.inl rfl)) (we_int) ((nomark _))) (wb_one (ws_ret (we_tup (wa_cons (we_ix (we_var (i := 1) rfl (.inl rfl)) (we_int)) (wa_cons (we_call (ok_f_law_bent_row T) (hr.mono (by decide)) hgd (by rfl) T.m_f_law_bent_row T.F_f_law_bent_row.kp T.b_f_law_bent_row (wa_cons (we_var (i := 0) rfl (.inl rfl)) (wa_cons (we_ix (we_var (i := 1) rfl (.inl rfl)) (we_int)) (wa_nil)))) (wa_nil)))))) (wb_nil)) (wb_one (ws_ret (we_ix (we_lst (m := false) (wa_cons (we_callX (z_list (m := false)) (fun h => pe_callTy call_list_of (by rfl) T.n_list bb_list h) (wa_cons (we_var (i := 1) rfl (.inl rfl)) (wa_nil))) (wa_cons (we_sl (m := false) (we_var (i := 1) rfl (.inl rfl)) wo_none (wo_some (we_int))) (wa_cons (we_op op_addD z_add (we_var (i := 1) rfl (.inl rfl)) (we_tup (wa_cons (we_tup (wa_nil)) (wa_nil)))) (wa_cons (we_tup (wa_cons (we_ix (we_var (i := 1) rfl (.inl rfl)) (we_int)) (wa_cons (we_ix (we_var (i := 1) rfl (.inl rfl)) (we_int)) (wa_nil)))) (wa_nil)))))) (we_op op_mod z_mod (we_call (ok_f_law_next T) (hr.mono (by decide)) hgd (by rfl) T.m_f_law_next T.F_f_law_next.kp T.b_f_law_next (wa_cons (we_var (i := 0) rfl (.inl rfl)) (wa_nil))) (we_int)))))))
theorem ok_f_law_any_paper (T : Txt K mg) : FnG P w K mg base CX0 3 T.a_f_law_any_paper T.d_f_law_any_paper ["_law_deck_here", "_law_system", "_law_plans_here"] (spOf K S_f_law_any_paper) := by
  refine fn_okP T.F_f_law_any_paper sc_f_law_any_paper rfl (fun cdv A outer s H E hr hgd => ?_) vc_f_law_any_paper
  have nd := sc_f_law_any_paper.nd
  exact wb_cons (ws_set (i := 3) nd rfl (.inl rfl) (we_ix (we_var (i := 2) rfl (.inl rfl)) (we_op op_mod z_mod (we_call (ok_f_law_next T) (hr.mono (by decide)) hgd (by rfl) T.m_f_law_next T.F_f_law_next.kp T.b_f_law_next (wa_cons (we_var (i := 0) rfl (.inl rfl)) (wa_nil))) (we_callX z_len (fun h => pe_callB (CallR.or call_len_seq call_len_str) (by rfl) T.n_len bb_len h) (wa_cons (we_var (i := 2) rfl (.inl rfl)) (wa_nil)))))) (wb_cons (ws_set (i := 4) nd rfl (.inl rfl) (we_lst (m := true) (wa_nil))) (wb_cons (ws_for PassesOwn.never rfl (wi_enum (by rfl) T.n_enumerate (we_ix (we_var (i := 1) rfl (.inl rfl)) (we_int))) (wg_tup rfl (wgs_cons (wg_name (i := 5) nd rfl (.inl rfl)) (wgs_cons (wg_name (i := 6) nd rfl (.inl rfl)) (wgs_nil)))) (wb_cons (ws_set (i := 7) nd rfl (.inl rfl) (we_call (ok_f_law_next T) (hr.mono (by decide)) hgd (by rfl) T.m_f_law_next T.F_f_law_next.kp T.b_f_law_next (wa_cons (we_var (i := 0) rfl (.inl rfl)) (wa_nil)))) (wb_one (ws_if (wt_not (wt_val (we_call (ok_f_law_kept T) (hr.mono (by decide)) hgd (by rfl) T.m_f_law_kept T.F_f_law_kept.kp T.b_f_law_kept (wa_cons (we_var (i := 1) rfl (.inl rfl)) (wa_cons (we_var (i := 6) rfl (.inl rfl)) (wa_cons (we_ix (we_var (i := 3) rfl (.inl rfl)) (we_ix (we_var (i := 6) rfl (.inl rfl)) (we_int))) (wa_nil))))))) (wb_cons (ws_set (i := 8) nd rfl (.inl rfl) (we_op op_addD z_add (we_call (ok_f_law_full_days T) (hr.mono (by decide)) hgd (by rfl) T.m_f_law_full_days T.F_f_law_full_days.kp T.b_f_law_full_days (wa_cons (we_var (i := 1) rfl (.inl rfl)) (wa_cons (we_var (i := 3) rfl (.inl rfl)) (wa_cons (we_var (i := 5) rfl (.inl rfl)) (wa_nil))))) (we_lst (m := false) (wa_cons (we_op op_mod z_mod (we_var (i := 7) rfl (.inl rfl)) (we_op op_addD z_add (we_ix (we_var (i := 1) rfl (.inl rfl)) (we_int)) (we_int))) (wa_nil))))) (wb_one (ws_expr (we_m PySem.F.slot_list_append PySem.F.type_list_append mt_append z_append (we_var (i := 4) rfl (.inl rfl)) (wa_cons (we_tup (wa_cons (we_var (i := 5) rfl (.inl rfl)) (wa_cons (we_ix (we_var (i := 8) rfl (.inl rfl)) (we_int)) (wa_nil)))) (wa_nil)) (fun h1 h2 => pe_bm PySem.F.plainAttrs_list PySem.F.slot_list_append PySem.F.type_list_append mt_append h1 h2))))) (wb_nil))))) (wb_one (ws_ret (we_tup (wa_cons (we_var (i := 3) rfl (.inl rfl)) (wa_cons (we_callX z_tuple (fun h => pe_callTy call_tupleX (by rfl) T.n_tuple bb_tuple h) (wa_cons (we_var (i := 4) rfl (.inl rfl)) (wa_nil))) (wa_nil))))))))
theorem ok_p_goes_with (T : Txt K mg) : FnG P w K mg base CX0 4 T.a_p_goes_with T.d_p_goes_with ["system", "ways", "work", "way"] (spOf K S_p_goes_with) := by
  refine fn_ok T.F_p_goes_with sc_p_goes_with rfl (fun cdv A outer s H E hr hgd => ?_) vc_p_goes_with
  have nd := sc_p_goes_with.nd
  exact wb_one (ws_ret (we_not (we_callX z_any (fun h => pe_callB (cr_any rfl) (by rfl) T.n_any bb_any h) (wa_cons (we_lc (m := false) (t := (.tp [4, 5])) (own := [("other", 4), ("other_way", 5)]) rfl nd (wi_seq (we_var (i := 1) rfl (.inl rfl))) (blkOk_by (own := [("other", 4), ("other_way", 5)]) (N := N_p_goes_with) (by kernel_rfl)) (by simp [Tg.ix]) (fun _ _ _ _ _ => pg_tup rfl (pgs_cons (pg_name (i := 4) nd rfl (.inl rfl)) (pgs_cons (pg_name (i := 5) nd rfl (.inl rfl)) (pgs_nil)))) (fun _ _ _ _ _ => wts_nil) (fun _ _ _ _ _ => we_call (ok_p_clash T) (hr.mono (by decide)) hgd (by rfl) T.m_p_clash T.F_p_clash.kp T.b_p_clash (wa_cons (we_var (i := 0) rfl (.inr (.inl rfl))) (wa_cons (we_var (i := 4) rfl (.inl rfl)) (wa_cons (we_var (i := 5) rfl (.inl rfl)) (wa_cons (we_var (i := 2) rfl (.inr (.inl rfl))) (wa_cons (we_var (i := 3) rfl (.inr (.inl rfl))) (wa_nil)))))))) (wa_nil)))))
theorem ok_p_full_day (T : Txt K mg) : FnG P w K mg base CX0 4 T.a_p_full_day T.d_p_full_day ["system", "kept", "place"] (spOf K S_p_full_day) := by
  refine fn_ok T.F_p_full_day sc_p_full_day rfl (fun cdv A outer s H E hr hgd => ?_) vc_p_full_day
  have nd := sc_p_full_day.nd
  exact wb_cons (ws_set (i := 3) nd rfl (.inl rfl) (we_ix (we_ix (we_ix (we_var (i := 0) rfl (.inl rfl)) (we_int)) (we_var (i := 2) rfl (.inl rfl))) (we_int))) (wb_cons (ws_while PassesOwn.never ((ww_and (wt_cmp (op_ltD hr.units0) z_lt (we_var (i := 3) rfl (.inl rfl)) (we_ix (we_var (i := 0) rfl (.inl rfl)) (we_int)) ((nomark _))) (ww_and1 (wt_not (wt_val (we_call (ok_p_holds_full T) (hr.mono (by decide)) hgd (by rfl) T.m_p_holds_full T.F_p_holds_full.kp T.b_p_holds_full (wa_cons (we_var (i := 0) rfl (.inl rfl)) (wa_cons (we_var (i := 1) rfl (.inl rfl)) (wa_cons (we_var (i := 2) rfl (.inl rfl)) (wa_cons (we_tup (wa_cons (we_var (i := 2) rfl (.inl rfl)) (wa_cons (we_var (i := 3) rfl (.inl rfl)) (wa_nil)))) (wa_nil)))))))))).wt) (wb_one (ws_set (i := 3) nd rfl (.inl rfl) (we_op op_addD z_add (we_var (i := 3) rfl (.inl rfl)) (we_int))))) (wb_one (ws_ret (we_var (i := 3) rfl (.inl rfl)))))
theorem ok_f_law_paper (T : Txt K mg) : FnG P w K mg base CX0 4 T.a_f_law_paper T.d_f_law_paper ["_law_deck_here", "_law_system"] (spOf K S_f_law_paper) := by
  refine fn_okP T.F_f_law_paper sc_f_law_paper rfl (fun cdv A outer s H E hr hgd => ?_) vc_f_law_paper
  have nd := sc_f_law_paper.nd
  exact wb_cons (ws_set (i := 2) nd rfl (.inl rfl) (we_call (ok_f_law_taken T) (hr.mono (by decide)) hgd (by rfl) T.m_f_law_taken T.F_f_law_taken.kp T.b_f_law_taken (wa_cons (we_var (i := 1) rfl (.inr (.inl rfl))) (wa_nil)))) (wb_cons (ws_set (i := 3) nd rfl (.inl rfl) (we_callX (z_sortK (m := false)) (fun h => pe_callB cr_sortedAll (by rfl) T.n_sorted bb_sorted h) (wa_cons (we_lc (m := false) (t := (.nm 6)) (own := [("_law_place", 6)]) rfl nd (wi_seq (we_var (i := 2) rfl (.inl rfl))) (blkOk_by (own := [("_law_place", 6)]) (N := N_f_law_paper) (by kernel_rfl)) (by simp [Tg.ix]) (fun _ _ _ _ _ => pg_name (i := 6) nd rfl (.inl rfl)) (fun _ _ _ _ _ => wts_nil) (fun _ _ _ _ _ => we_tup (wa_cons (we_ix (we_ix (we_ix (we_var (i := 1) rfl (.inr (.inl rfl))) (we_int)) (we_var (i := 6) rfl (.inl rfl))) (we_int)) (wa_cons (we_ix (we_ix (we_ix (we_var (i := 1) rfl (.inr (.inl rfl))) (we_int)) (we_var (i := 6) rfl (.inl rfl))) (we_int)) (wa_nil))))) (wa_nil)))) (wb_cons (ws_set (i := 4) nd rfl (.inl rfl) (we_call (ok_f_law_blocks T) (hr.mono (by decide)) hgd (by rfl) T.m_f_law_blocks T.F_f_law_blocks.kp T.b_f_law_blocks (wa_cons (we_var (i := 1) rfl (.inr (.inl rfl))) (wa_cons (we_lc (m := false) (t := (.tp [9, 10])) (own := [("_law_day", 9), ("_law_work", 10)]) rfl nd (wi_seq (we_var (i := 3) rfl (.inl rfl))) (blkOk_by (own := [("_law_day", 9), ("_law_work", 10)]) (N := N_f_law_paper) (by kernel_rfl)) (by simp [Tg.ix]) (fun _ _ _ _ _ => pg_tup rfl (pgs_cons (pg_name (i := 9) nd rfl (.inl rfl)) (pgs_cons (pg_name (i := 10) nd rfl (.inl rfl)) (pgs_nil)))) (fun _ _ _ _ _ => wts_nil) (fun _ _ _ _ _ => we_var (i := 10) rfl (.inl rfl))) (wa_nil))))) (wb_cons (ws_set (i := 5) nd rfl (.inl rfl) (we_lst (m := true) (wa_nil))) (wb_cons (ws_for PassesOwn.never rfl (wi_range1 (by rfl) T.n_range (wa_cons (we_callX z_len (fun h => pe_callB (CallR.or call_len_seq call_len_str) (by rfl) T.n_len bb_len h) (wa_cons (we_ix (we_var (i := 1) rfl (.inr (.inl rfl))) (we_int)) (wa_nil))) (wa_nil))) (wg_name (i := 6) nd rfl (.inl rfl)) (wb_one (ws_if (wt_cmp (op_notInB hr.units) z_inB (we_var (i := 6) rfl (.inl rfl)) (we_var (i := 2) rfl (.inl rfl)) (by rfl)) (wb_cons (ws_set (i := 7) nd rfl (.inl rfl) (we_call (ok_f_law_next T) (hr.mono (by decide)) hgd (by rfl) T.m_f_law_next T.F_f_law_next.kp T.b_f_law_next (wa_cons (we_var (i := 0) rfl (.inl rfl)) (wa_nil)))) (wb_cons (ws_set (i := 8) nd rfl (.inl rfl) (we_call (ok_f_law_full_days T) (hr.mono (by decide)) hgd (by rfl) T.m_f_law_full_days T.F_f_law_full_days.kp T.b_f_law_full_days (wa_cons (we_var (i := 1) rfl (.inr (.inl rfl))) (wa_cons (we_var (i := 4) rfl (.inl rfl)) (wa_cons (we_var (i := 6) rfl (.inl rfl)) (wa_nil)))))) (wb_one (ws_expr (we_m PySem.F.slot_list_append PySem.F.type_list_append mt_append z_append (we_var (i := 5) rfl (.inl rfl)) (wa_cons (we_tup (wa_cons (we_var (i := 6) rfl (.inl rfl)) (wa_cons (we_ix (we_var (i := 8) rfl (.inl rfl)) (we_op op_mod z_mod (we_var (i := 7) rfl (.inl rfl)) (we_callX z_len (fun h => pe_callB (CallR.or call_len_seq call_len_str) (by rfl) T.n_len bb_len h) (wa_cons (we_var (i := 8) rfl (.inl rfl)) (wa_nil))))) (wa_nil)))) (wa_nil)) (fun h1 h2 => pe_bm PySem.F.plainAttrs_list PySem.F.slot_list_append PySem.F.type_list_append mt_append h1 h2)))))) (wb_nil)))) (wb_one (ws_ret (we_tup (wa_cons (we_var (i := 4) rfl (.inl rfl)) (wa_cons (we_callX z_tuple (fun h => pe_callTy call_tupleX (by rfl) T.n_tuple bb_tuple h) (wa_cons (we_var (i := 5) rfl (.inl rfl)) (wa_nil))) (wa_nil))))))))))
theorem ok_p_is_plan (T : Txt K mg) : FnG P w K mg base CX0 5 T.a_p_is_plan T.d_p_is_plan ["system", "thing"] (spOf K S_p_is_plan) := by
  refine fn_okP T.F_p_is_plan sc_p_is_plan rfl (fun cdv A outer s H E hr hgd => ?_) vc_p_is_plan
  have nd := sc_p_is_plan.nd
  exact wb_cons (ws_if ((ww_or (wt_not (wt_val (we_isi tok_tuple (by rfl) T.n_isinstance (by rfl) T.n_tuple bb_tuple (we_var (i := 1) rfl (.inl rfl))))) (ww_or1 (wt_cmp (op_neC hr.units) z_eqB (we_callX z_len (fun h => pe_callB (CallR.or call_len_seq call_len_str) (by rfl) T.n_len bb_len h) (wa_cons (we_var (i := 1) rfl (.inl rfl)) (wa_nil))) (we_callX z_len (fun h => pe_callB (CallR.or call_len_seq call_len_str) (by rfl) T.n_len bb_len h) (wa_cons (we_ix (we_var (i := 0) rfl (.inl rfl)) (we_int)) (wa_nil))) ((nomark _))))).wt) (wb_one (ws_ret (we_bl))) (wb_nil)) (wb_cons (ws_set (i := 2) nd rfl (.inl rfl) (we_lst (m := true) (wa_nil))) (wb_cons (ws_for PassesOwn.never rfl (wi_enum (by rfl) T.n_enumerate (we_var (i := 1) rfl (.inl rfl))) (wg_tup rfl (wgs_cons (wg_name (i := 3) nd rfl (.inl rfl)) (wgs_cons (wg_name (i := 4) nd rfl (.inl rfl)) (wgs_nil)))) (wb_cons (ws_if ((ww_or (wt_not (wt_val (we_call (ok_p_is_way T) (hr.mono (by decide)) hgd (by rfl) T.m_p_is_way T.F_p_is_way.kp T.b_p_is_way (wa_cons (we_var (i := 0) rfl (.inl rfl)) (wa_cons (we_var (i := 3) rfl (.inl rfl)) (wa_cons (we_var (i := 4) rfl (.inl rfl)) (wa_nil))))))) (ww_or1 (wt_not (wt_val (we_call (ok_p_goes_with T) (hr.mono (by decide)) hgd (by rfl) T.m_p_goes_with T.F_p_goes_with.kp T.b_p_goes_with (wa_cons (we_var (i := 0) rfl (.inl rfl)) (wa_cons (we_var (i := 2) rfl (.inl rfl)) (wa_cons (we_var (i := 3) rfl (.inl rfl)) (wa_cons (we_var (i := 4) rfl (.inl rfl)) (wa_nil)))))))))).wt) (wb_one (ws_ret (we_bl))) (wb_nil)) (wb_one (ws_expr (we_m PySem.F.slot_list_append PySem.F.type_list_append mt_append z_append (we_var (i := 2) rfl (.inl rfl)) (wa_cons (we_tup (wa_cons (we_var (i := 3) rfl (.inl rfl)) (wa_cons (we_var (i := 4) rfl (.inl rfl)) (wa_nil)))) (wa_nil)) (fun h1 h2 => pe_bm PySem.F.plainAttrs_list PySem.F.slot_list_append PySem.F.type_list_append mt_append h1 h2)))))) (wb_one (ws_ret (we_bl)))))
theorem okx_p_even (T : Txt K mg) : FnG P w K mg base (L2.CX P w) 5 T.a_p_even T.d_p_even ["system"] (spX K X_p_even) := by
  refine fn_okX (x := "even") T.F_p_even sc_p_even rfl (fun cdv A outer s H E R hr hgd tk => ?_) vcx_p_even
  have nd := sc_p_even.nd
  exact wb_cons (ws_if (wt_not (wt_val (we_call (ok_p_is_even T) (hr.mono (by decide)) hgd (by rfl) T.m_p_is_even T.F_p_is_even.kp T.b_p_is_even (wa_cons (we_var (i := 0) rfl (.inr (.inl rfl))) (wa_nil))))) (wb_one (ws_raiseA (cn := "NotEven") rfl tk T.e_NotEven T.mC_NotEven (by rfl) (wa_cons (we_str) (wa_nil)))) (wb_nil)) (wb_cons (ws_if (wt_cmp (op_eqC hr.units) z_eqB (we_callX z_len (fun h => pe_callB (CallR.or call_len_seq call_len_str) (by rfl) T.n_len bb_len h) (wa_cons (we_ix (we_var (i := 0) rfl (.inr (.inl rfl))) (we_int)) (wa_nil))) (we_int) ((nomark _))) (wb_one (ws_ret (we_tup (wa_cons (we_tup (wa_nil)) (wa_cons (we_tup (wa_nil)) (wa_nil)))))) (wb_nil)) (wb_cons (ws_set (i := 1) nd rfl (.inl rfl) (we_call (ok_p_room_up_to T) (hr.mono (by decide)) hgd (by rfl) T.m_p_room_up_to T.F_p_room_up_to.kp T.b_p_room_up_to (wa_cons (we_var (i := 0) rfl (.inr (.inl rfl))) (wa_cons (we_ix (we_var (i := 0) rfl (.inr (.inl rfl))) (we_int)) (wa_nil))))) (wb_cons (ws_if (wt_cmp (op_gtD hr.units0) z_gt (we_callX z_len (fun h => pe_callB (CallR.or call_len_seq call_len_str) (by rfl) T.n_len bb_len h) (wa_cons (we_ix (we_var (i := 0) rfl (.inr (.inl rfl))) (we_int)) (wa_nil))) (we_var (i := 1) rfl (.inl rfl)) ((nomark _))) (wb_one (ws_raiseF rfl tk T.e_NoRoom (oki_NoRoom T) (hr.mono (by decide)) T.bI_NoRoom T.mC_NoRoom (by rfl) (wa_cons (we_var (i := 1) rfl (.inl rfl)) (wa_nil)))) (wb_nil)) (wb_cons (ws_set (i := 2) nd rfl (.inr rfl) (we_call (ok_p_taken_wishes T) (hr.mono (by decide)) hgd (by rfl) T.m_p_taken_wishes T.F_p_taken_wishes.kp T.b_p_taken_wishes (wa_cons (we_var (i := 0) rfl (.inr (.inl rfl))) (wa_nil)))) (wb_cons (ws_set (i := 3) nd rfl (.inr rfl) (we_lc (m := false) (t := (.tp [8, 9])) (own := [("day", 8), ("work", 9)]) rfl nd (wi_seq (we_callX (z_sortK (m := false)) (fun h => pe_callB cr_sortedAll (by rfl) T.n_sorted bb_sorted h) (wa_cons (we_lc (m := false) (t := (.nm 7)) (own := [("place", 7)]) rfl nd (wi_seq (we_var (i := 2) rfl (.inr (.inl rfl)))) (blkOk_by (own := [("place", 7)]) (N := N_p_even) (by kernel_rfl)) (by simp [Tg.ix]) (fun _ _ _ _ _ => pg_name (i := 7) nd rfl (.inl rfl)) (fun _ _ _ _ _ => wts_nil) (fun _ _ _ _ _ => we_tup (wa_cons (we_ix (we_ix (we_ix (we_var (i := 0) rfl (.inr (.inl rfl))) (we_int)) (we_var (i := 7) rfl (.inl rfl))) (we_int)) (wa_cons (we_ix (we_ix (we_ix (we_var (i := 0) rfl (.inr (.inl rfl))) (we_int)) (we_var (i := 7) rfl (.inl rfl))) (we_int)) (wa_nil))))) (wa_nil)))) (blkOk_by (own := [("day", 8), ("work", 9)]) (N := N_p_even) (by kernel_rfl)) (by simp [Tg.ix]) (fun _ _ _ _ _ => pg_tup rfl (pgs_cons (pg_name (i := 8) nd rfl (.inl rfl)) (pgs_cons (pg_name (i := 9) nd rfl (.inl rfl)) (pgs_nil)))) (fun _ _ _ _ _ => wts_nil) (fun _ _ _ _ _ => we_var (i := 9) rfl (.inl rfl)))) (wb_cons (ws_set (i := 4) nd rfl (.inl rfl) (we_call (ok_p_in_blocks T) (hr.mono (by decide)) hgd (by rfl) T.m_p_in_blocks T.F_p_in_blocks.kp T.b_p_in_blocks (wa_cons (we_var (i := 0) rfl (.inr (.inl rfl))) (wa_cons (we_op op_addD z_add (we_var (i := 3) rfl (.inr (.inl rfl))) (we_lc (m := false) (t := (.nm 9)) (own := [("work", 9)]) rfl nd (wi_range1 (by rfl) T.n_range (wa_cons (we_callX z_len (fun h => pe_callB (CallR.or call_len_seq call_len_str) (by rfl) T.n_len bb_len h) (wa_cons (we_ix (we_var (i := 0) rfl (.inr (.inl rfl))) (we_int)) (wa_nil))) (wa_nil))) (blkOk_by (own := [("work", 9)]) (N := N_p_even) (by kernel_rfl)) (by simp [Tg.ix]) (fun _ _ _ _ _ => pg_name (i := 9) nd rfl (.inl rfl)) (fun _ _ _ _ _ => wts_one (wt_cmp (op_notInB hr.units) z_inB (we_var (i := 9) rfl (.inl rfl)) (we_var (i := 3) rfl (.inr (.inl rfl))) (by rfl))) (fun _ _ _ _ _ => we_var (i := 9) rfl (.inl rfl)))) (wa_nil))))) (wb_cons (ws_set (i := 5) nd rfl (.inr rfl) (we_lc (m := false) (t := (.nm 7)) (own := [("place", 7)]) rfl nd (wi_seq (we_var (i := 2) rfl (.inr (.inl rfl)))) (blkOk_by (own := [("place", 7)]) (N := N_p_even) (by kernel_rfl)) (by simp [Tg.ix]) (fun _ _ _ _ _ => pg_name (i := 7) nd rfl (.inl rfl)) (fun _ _ _ _ _ => wts_nil) (fun _ _ _ _ _ => we_ix (we_ix (we_var (i := 0) rfl (.inr (.inl rfl))) (we_int)) (we_var (i := 7) rfl (.inl rfl))))) (wb_cons (ws_setLc (m := false) (t := (.nm 7)) (i := 6) (own := [("place", 7)]) rfl nd rfl rfl (sw_true rfl rfl rfl (by decide +kernel)) (wi_range1 (by rfl) T.n_range (wa_cons (we_callX z_len (fun h => pe_callB (CallR.or call_len_seq call_len_str) (by rfl) T.n_len bb_len h) (wa_cons (we_ix (we_var (i := 0) rfl (.inr (.inl rfl))) (we_int)) (wa_nil))) (wa_nil))) (blkOk_by (own := [("place", 7)]) (N := N_p_even) (by kernel_rfl)) (by simp [Tg.ix]) (fun _ _ _ _ _ => pg_name (i := 7) nd rfl (.inl rfl)) (fun _ _ _ _ _ => wts_one (wt_cmp (op_notInB hr.units) z_inB (we_var (i := 7) rfl (.inl rfl)) (we_var (i := 2) rfl (.inr (.inl rfl))) (by rfl))) (fun _ _ _ _ _ => we_var (i := 7) rfl (.inl rfl))) (wb_one (ws_ret (we_tup (wa_cons (we_var (i := 4) rfl (.inl rfl)) (wa_cons (we_callX z_tuple (fun h => pe_callTy call_tupleX (by rfl) T.n_tuple bb_tuple h) (wa_cons (we_lc (m := false) (t := (.nm 7)) (own := [("place", 7)]) rfl nd (wi_seq (we_var (i := 6) rfl (.inl rfl))) (blkOk_by (own := [("place", 7)]) (N := N_p_even) (by kernel_rfl)) (by simp [Tg.ix]) (fun _ _ _ _ _ => pg_name (i := 7) nd rfl (.inl rfl)) (fun _ _ _ _ _ => wts_nil) (fun _ _ _ _ _ => we_tup (wa_cons (we_var (i := 7) rfl (.inl rfl)) (wa_cons (we_call (ok_p_full_day T) (hr.mono (by decide)) hgd (by rfl) T.m_p_full_day T.F_p_full_day.kp T.b_p_full_day (wa_cons (we_var (i := 0) rfl (.inr (.inl rfl))) (wa_cons (we_var (i := 5) rfl (.inr (.inl rfl))) (wa_cons (we_var (i := 7) rfl (.inl rfl)) (wa_nil))))) (wa_nil))))) (wa_nil))) (wa_nil))))))))))))))
theorem ok_p_even (T : Txt K mg) : FnG P w K mg base CX0 5 T.a_p_even T.d_p_even ["system"] (spOf K S_p_even) := fnG_calm (okx_p_even T) calm_p_even
theorem ok_p_even_holds (T : Txt K mg) : FnG P w K mg base CX0 6 T.a_p_even_holds T.d_p_even_holds ["system", "thing"] (spOf K S_p_even_holds) := by
  refine fn_ok T.F_p_even_holds sc_p_even_holds rfl (fun cdv A outer s H E hr hgd => ?_) vc_p_even_holds
  have nd := sc_p_even_holds.nd
  exact wb_cons (ws_if ((ww_or (wt_not (wt_val (we_isi tok_tuple (by rfl) T.n_isinstance (by rfl) T.n_tuple bb_tuple (we_var (i := 1) rfl (.inl rfl))))) (ww_or (wt_cmp (op_neC hr.units) z_eqB (we_callX z_len (fun h => pe_callB (CallR.or call_len_seq call_len_str) (by rfl) T.n_len bb_len h) (wa_cons (we_var (i := 1) rfl (.inl rfl)) (wa_nil))) (we_int) ((nomark _))) (ww_or1 (wt_not (wt_val (we_call (ok_p_is_plan T) (hr.mono (by decide)) hgd (by rfl) T.m_p_is_plan T.F_p_is_plan.kp T.b_p_is_plan (wa_cons (we_var (i := 0) rfl (.inr (.inl rfl))) (wa_cons (we_ix (we_var (i := 1) rfl (.inl rfl)) (we_int)) (wa_nil))))))))).wt) (wb_one (ws_ret (we_bl))) (wb_nil)) (wb_cons (ws_asg (we_var (i := 1) rfl (.inl rfl)) (wg_tup rfl (wgs_cons (wg_name (i := 2) nd rfl (.inr rfl)) (wgs_cons (wg_name (i := 3) nd rfl (.inl rfl)) (wgs_nil))))) (wb_cons (ws_setLc (m := false) (t := (.nm 8)) (i := 4) (own := [("wish", 8)]) rfl nd rfl rfl (sw_true rfl rfl rfl (by decide +kernel)) (wi_seq (we_ix (we_var (i := 0) rfl (.inr (.inl rfl))) (we_int))) (blkOk_by (own := [("wish", 8)]) (N := N_p_even_holds) (by kernel_rfl)) (by simp [Tg.ix]) (fun _ _ _ _ _ => pg_name (i := 8) nd rfl (.inl rfl)) (fun _ _ _ _ _ => wts_one (wt_val (we_call (ok_p_is_kept_evenpaper T) (hr.mono (by decide)) hgd (by rfl) T.m_p_is_kept_evenpaper T.F_p_is_kept_evenpaper.kp T.b_p_is_kept_evenpaper (wa_cons (we_var (i := 0) rfl (.inr (.inl rfl))) (wa_cons (we_var (i := 2) rfl (.inr (.inl rfl))) (wa_cons (we_var (i := 8) rfl (.inl rfl)) (wa_nil))))))) (fun _ _ _ _ _ => we_var (i := 8) rfl (.inl rfl))) (wb_cons (ws_setLc (m := false) (t := (.tp [6, 8])) (i := 5) (own := [("place", 6), ("wish", 8)]) rfl nd rfl rfl (sw_true rfl rfl rfl (by decide +kernel)) (wi_enum (by rfl) T.n_enumerate (we_ix (we_var (i := 0) rfl (.inr (.inl rfl))) (we_int))) (blkOk_by (own := [("place", 6), ("wish", 8)]) (N := N_p_even_holds) (by kernel_rfl)) (by simp [Tg.ix]) (fun _ _ _ _ _ => pg_tup rfl (pgs_cons (pg_name (i := 6) nd rfl (.inl rfl)) (pgs_cons (pg_name (i := 8) nd rfl (.inl rfl)) (pgs_nil)))) (fun _ _ _ _ _ => wts_one (wt_not (wt_val (we_call (ok_p_is_kept_evenpaper T) (hr.mono (by decide)) hgd (by rfl) T.m_p_is_kept_evenpaper T.F_p_is_kept_evenpaper.kp T.b_p_is_kept_evenpaper (wa_cons (we_var (i := 0) rfl (.inr (.inl rfl))) (wa_cons (we_var (i := 2) rfl (.inr (.inl rfl))) (wa_cons (we_var (i := 8) rfl (.inl rfl)) (wa_nil)))))))) (fun _ _ _ _ _ => we_var (i := 6) rfl (.inl rfl))) (wb_cons (ws_if ((ww_or (wt_not (wt_val (we_isi tok_tuple (by rfl) T.n_isinstance (by rfl) T.n_tuple bb_tuple (we_var (i := 3) rfl (.inl rfl))))) (ww_or1 (wt_cmp (op_neC hr.units) z_eqB (we_callX z_len (fun h => pe_callB (CallR.or call_len_seq call_len_str) (by rfl) T.n_len bb_len h) (wa_cons (we_var (i := 3) rfl (.inl rfl)) (wa_nil))) (we_callX z_len (fun h => pe_callB (CallR.or call_len_seq call_len_str) (by rfl) T.n_len bb_len h) (wa_cons (we_var (i := 5) rfl (.inl rfl)) (wa_nil))) ((nomark _))))).wt) (wb_one (ws_ret (we_bl))) (wb_nil)) (wb_cons (ws_for PassesOwn.never rfl (wi_zip (by rfl) T.n_zip (we_var (i := 5) rfl (.inl rfl)) (we_var (i := 3) rfl (.inl rfl))) (wg_tup rfl (wgs_cons (wg_name (i := 6) nd rfl (.inl rfl)) (wgs_cons (wg_name (i := 7) nd rfl (.inl rfl)) (wgs_nil)))) (wb_one (ws_if (wt_not (wt_val (we_call (ok_p_holds_full T) (hr.mono (by decide)) hgd (by rfl) T.m_p_holds_full T.F_p_holds_full.kp T.b_p_holds_full (wa_cons (we_var (i := 0) rfl (.inr (.inl rfl))) (wa_cons (we_var (i := 4) rfl (.inl rfl)) (wa_cons (we_var (i := 6) rfl (.inl rfl)) (wa_cons (we_var (i := 7) rfl (.inl rfl)) (wa_nil)))))))) (wb_one (ws_ret (we_bl))) (wb_nil)))) (wb_one (ws_ret (we_bl))))))))
theorem ok_p_law (T : Txt K mg) : FnG P w K mg base CX0 7 T.a_p_law T.d_p_law ["_law_script"] (spOf K S_p_law) := by
  refine fn_ok T.F_p_law sc_p_law rfl (fun cdv A outer s H E hr hgd => ?_) vc_p_law
  have nd := sc_p_law.nd
  exact wb_cons (ws_set (i := 1) nd rfl (.inr rfl) (we_call (ok_f_law_deck T) (hr.mono (by decide)) hgd (by rfl) T.m_f_law_deck T.F_f_law_deck.kp T.b_f_law_deck (wa_cons (we_var (i := 0) rfl (.inl rfl)) (wa_nil)))) (wb_cons (ws_for PassesOwn.never rfl (wi_range1 (by rfl) T.n_range (wa_cons (we_int) (wa_nil))) (wg_name (i := 2) nd rfl (.inl rfl)) (wb_cons (ws_set (i := 3) nd rfl (.inr rfl) (we_call (ok_f_law_even T) (hr.mono (by decide)) hgd (by rfl) T.m_f_law_even T.F_f_law_even.kp T.b_f_law_even (wa_cons (we_var (i := 1) rfl (.inr (.inl rfl))) (wa_cons (we_ix (we_lst (m := false) (wa_cons (we_int) (wa_cons (we_int) (wa_nil)))) (we_var (i := 2) rfl (.inl rfl))) (wa_cons (we_op op_sub z_sub (we_int) (we_var (i := 2) rfl (.inl rfl))) (wa_cons (we_int) (wa_cons (we_int) (wa_nil)))))))) (wb_one (ws_if ((ww_and (wt_cmp (op_neC hr.units) z_eqB (we_ix (we_var (i := 3) rfl (.inr (.inl rfl))) (we_int)) (we_tup (wa_nil)) ((nomark _))) (ww_and1 (wt_cmp (op_leD hr.units0) z_le (we_callX z_len (fun h => pe_callB (CallR.or call_len_seq call_len_str) (by rfl) T.n_len bb_len h) (wa_cons (we_ix (we_var (i := 3) rfl (.inr (.inl rfl))) (we_int)) (wa_nil))) (we_call (ok_f_law_room T) (hr.mono (by decide)) hgd (by rfl) T.m_f_law_room T.F_f_law_room.kp T.b_f_law_room (wa_cons (we_var (i := 3) rfl (.inr (.inl rfl))) (wa_cons (we_ix (we_var (i := 3) rfl (.inr (.inl rfl))) (we_int)) (wa_nil)))) ((nomark _))))).wt) (wb_cons (ws_set (i := 4) nd rfl (.inr rfl) (we_call (ok_f_law_plans T) (hr.mono (by decide)) hgd (by rfl) T.m_f_law_plans T.F_f_law_plans.kp T.b_f_law_plans (wa_cons (we_var (i := 3) rfl (.inr (.inl rfl))) (wa_cons (we_call (ok_f_law_whole T) (hr.mono (by decide)) hgd (by rfl) T.m_f_law_whole T.F_f_law_whole.kp T.b_f_law_whole (wa_cons (we_var (i := 3) rfl (.inr (.inl rfl))) (wa_nil))) (wa_nil))))) (wb_cons (ws_set (i := 5) nd rfl (.inl rfl) (we_call (ok_p_even T) (hr.mono (by decide)) hgd (by rfl) T.m_p_even T.F_p_even.kp T.b_p_even (wa_cons (we_var (i := 3) rfl (.inr (.inl rfl))) (wa_nil)))) (wb_cons (ws_set (i := 6) nd rfl (.inr rfl) (we_call (ok_f_law_paper T) (hr.mono (by decide)) hgd (by rfl) T.m_f_law_paper T.F_f_law_paper.kp T.b_f_law_paper (wa_cons (we_var (i := 1) rfl (.inr (.inl rfl))) (wa_cons (we_var (i := 3) rfl (.inr (.inl rfl))) (wa_nil))))) (wb_cons (ws_set (i := 7) nd rfl (.inl rfl) (we_callX z_maxT (fun h => pe_callB (cr_maxT (by rfl) (hu1 hr)) (by rfl) T.n_max bb_max h) (wa_cons (we_lc (m := false) (t := (.nm 10)) (own := [("_law_plan", 10)]) rfl nd (wi_seq (we_var (i := 4) rfl (.inr (.inl rfl)))) (blkOk_by (own := [("_law_plan", 10)]) (N := N_p_law) (by kernel_rfl)) (by simp [Tg.ix]) (fun _ _ _ _ _ => pg_name (i := 10) nd rfl (.inl rfl)) (fun _ _ _ _ _ => wts_nil) (fun _ _ _ _ _ => we_call (ok_f_law_weights T) (hr.mono (by decide)) hgd (by rfl) T.m_f_law_weights T.F_f_law_weights.kp T.b_f_law_weights (wa_cons (we_var (i := 3) rfl (.inr (.inl rfl))) (wa_cons (we_var (i := 10) rfl (.inl rfl)) (wa_nil))))) (wa_nil)))) (wb_cons (ws_set (i := 8) nd rfl (.inl rfl) (we_op op_addD z_add (we_lst (m := false) (wa_cons (we_var (i := 5) rfl (.inl rfl)) (wa_cons (we_var (i := 6) rfl (.inr (.inl rfl))) (wa_nil)))) (we_lc (m := false) (t := (.nm 11)) (own := [("_law_k", 11)]) rfl nd (wi_range1 (by rfl) T.n_range (wa_cons (we_int) (wa_nil))) (blkOk_by (own := [("_law_k", 11)]) (N := N_p_law) (by kernel_rfl)) (by simp [Tg.ix]) (fun _ _ _ _ _ => pg_name (i := 11) nd rfl (.inl rfl)) (fun _ _ _ _ _ => wts_nil) (fun _ _ _ _ _ => we_call (ok_f_law_bent_paper T) (hr.mono (by decide)) hgd (by rfl) T.m_f_law_bent_paper T.F_f_law_bent_paper.kp T.b_f_law_bent_paper (wa_cons (we_var (i := 1) rfl (.inr (.inl rfl))) (wa_cons (we_var (i := 6) rfl (.inr (.inl rfl))) (wa_nil))))))) (wb_cons (ws_set (i := 8) nd rfl (.inl rfl) (we_op op_addD z_add (we_var (i := 8) rfl (.inl rfl)) (we_lc (m := false) (t := (.nm 11)) (own := [("_law_k", 11)]) rfl nd (wi_range1 (by rfl) T.n_range (wa_cons (we_int) (wa_nil))) (blkOk_by (own := [("_law_k", 11)]) (N := N_p_law) (by kernel_rfl)) (by simp [Tg.ix]) (fun _ _ _ _ _ => pg_name (i := 11) nd rfl (.inl rfl)) (fun _ _ _ _ _ => wts_nil) (fun _ _ _ _ _ => we_call (ok_f_law_any_paper T) (hr.mono (by decide)) hgd (by rfl) T.m_f_law_any_paper T.F_f_law_any_paper.kp T.b_f_law_any_paper (wa_cons (we_var (i := 1) rfl (.inr (.inl rfl))) (wa_cons (we_var (i := 3) rfl (.inr (.inl rfl))) (wa_cons (we_var (i := 4) rfl (.inr (.inl rfl))) (wa_nil)))))))) (wb_cons (ws_if (wt_cmp (op_notBl) (z_isBl (f := fun b => !b)) (we_call (ok_p_even_holds T) (hr.mono (by decide)) hgd (by rfl) T.m_p_even_holds T.F_p_even_holds.kp T.b_p_even_holds (wa_cons (we_var (i := 3) rfl (.inr (.inl rfl))) (wa_cons (we_var (i := 5) rfl (.inl rfl)) (wa_nil)))) (we_bl) ((nomark _))) (wb_one (ws_ret (we_bl))) (wb_nil)) (wb_one (ws_for PassesOwn.never rfl (wi_seq (we_var (i := 8) rfl (.inl rfl))) (wg_name (i := 9) nd rfl (.inl rfl)) (wb_one (ws_if ((ww_and (wt_cmp (op_isBl) (z_isBl (f := fun b => b)) (we_call (ok_p_even_holds T) (hr.mono (by decide)) hgd (by rfl) T.m_p_even_holds T.F_p_even_holds.kp T.b_p_even_holds (wa_cons (we_var (i := 3) rfl (.inr (.inl rfl))) (wa_cons (we_var (i := 9) rfl (.inl rfl)) (wa_nil)))) (we_bl) ((nomark _))) (ww_and1 (wt_cmp (op_neC hr.units) z_eqB (we_call (ok_f_law_weights T) (hr.mono (by decide)) hgd (by rfl) T.m_f_law_weights T.F_f_law_weights.kp T.b_f_law_weights (wa_cons (we_var (i := 3) rfl (.inr (.inl rfl))) (wa_cons (we_ix (we_var (i := 9) rfl (.inl rfl)) (we_int)) (wa_nil)))) (we_var (i := 7) rfl (.inl rfl)) ((nomark _))))).wt) (wb_one (ws_ret (we_bl))) (wb_nil)))))))))))) (wb_nil))))) (wb_one (ws_ret (we_bl))))
end
theorem all_mk {l : PySem.W.OpenLaw} {w : World} {K : PySem.W.Frag} {h : Heap} {mg : Str → Option Value} {fa : Addr} (X : K.In h) (G : h.Ns mainGlobals mg) (hfa : mg "law" = some (.ref fa))
    {C_NotEven : Addr}
    {C_NoRoom : Addr}
    {f0 : Addr} {od0 an0 : Option Addr} {sl0 : Array (Option Value)} {oc0 kV0 dc0 pm0 cd0 ct0 : Value}
    {f1 : Addr} {od1 an1 : Option Addr} {sl1 : Array (Option Value)} {oc1 kV1 dc1 pm1 cd1 ct1 : Value}
    {f2 : Addr} {od2 an2 : Option Addr} {sl2 : Array (Option Value)} {oc2 kV2 dc2 pm2 cd2 ct2 : Value}
    {f3 : Addr} {od3 an3 : Option Addr} {sl3 : Array (Option Value)} {oc3 kV3 dc3 pm3 cd3 ct3 : Value}
    {f4 : Addr} {od4 an4 : Option Addr} {sl4 : Array (Option Value)} {oc4 kV4 dc4 pm4 cd4 ct4 : Value}
    {f5 : Addr} {od5 an5 : Option Addr} {sl5 : Array (Option Value)} {oc5 kV5 dc5 pm5 cd5 ct5 : Value}
    {f6 : Addr} {od6 an6 : Option Addr} {sl6 : Array (Option Value)} {oc6 kV6 dc6 pm6 cd6 ct6 : Value}
    {f7 : Addr} {od7 an7 : Option Addr} {sl7 : Array (Option Value)} {oc7 kV7 dc7 pm7 cd7 ct7 : Value}
    {f8 : Addr} {od8 an8 : Option Addr} {sl8 : Array (Option Value)} {oc8 kV8 dc8 pm8 cd8 ct8 : Value}
    {f9 : Addr} {od9 an9 : Option Addr} {sl9 : Array (Option Value)} {oc9 kV9 dc9 pm9 cd9 ct9 : Value}
    {f10 : Addr} {od10 an10 : Option Addr} {sl10 : Array (Option Value)} {oc10 kV10 dc10 pm10 cd10 ct10 : Value}
    {f11 : Addr} {od11 an11 : Option Addr} {sl11 : Array (Option Value)} {oc11 kV11 dc11 pm11 cd11 ct11 : Value}
    {f12 : Addr} {od12 an12 : Option Addr} {sl12 : Array (Option Value)} {oc12 kV12 dc12 pm12 cd12 ct12 : Value}
    {f13 : Addr} {od13 an13 : Option Addr} {sl13 : Array (Option Value)} {oc13 kV13 dc13 pm13 cd13 ct13 : Value}
    {f14 : Addr} {od14 an14 : Option Addr} {sl14 : Array (Option Value)} {oc14 kV14 dc14 pm14 cd14 ct14 : Value}
    {f15 : Addr} {od15 an15 : Option Addr} {sl15 : Array (Option Value)} {oc15 kV15 dc15 pm15 cd15 ct15 : Value}
    {f16 : Addr} {od16 an16 : Option Addr} {sl16 : Array (Option Value)} {oc16 kV16 dc16 pm16 cd16 ct16 : Value}
    {f17 : Addr} {od17 an17 : Option Addr} {sl17 : Array (Option Value)} {oc17 kV17 dc17 pm17 cd17 ct17 : Value}
    {f18 : Addr} {od18 an18 : Option Addr} {sl18 : Array (Option Value)} {oc18 kV18 dc18 pm18 cd18 ct18 : Value}
    {f19 : Addr} {od19 an19 : Option Addr} {sl19 : Array (Option Value)} {oc19 kV19 dc19 pm19 cd19 ct19 : Value}
    {f20 : Addr} {od20 an20 : Option Addr} {sl20 : Array (Option Value)} {oc20 kV20 dc20 pm20 cd20 ct20 : Value}
    {f21 : Addr} {od21 an21 : Option Addr} {sl21 : Array (Option Value)} {oc21 kV21 dc21 pm21 cd21 ct21 : Value}
    {f22 : Addr} {od22 an22 : Option Addr} {sl22 : Array (Option Value)} {oc22 kV22 dc22 pm22 cd22 ct22 : Value}
    {f23 : Addr} {od23 an23 : Option Addr} {sl23 : Array (Option Value)} {oc23 kV23 dc23 pm23 cd23 ct23 : Value}
    {f24 : Addr} {od24 an24 : Option Addr} {sl24 : Array (Option Value)} {oc24 kV24 dc24 pm24 cd24 ct24 : Value}
    {f25 : Addr} {od25 an25 : Option Addr} {sl25 : Array (Option Value)} {oc25 kV25 dc25 pm25 cd25 ct25 : Value}
    {f26 : Addr} {od26 an26 : Option Addr} {sl26 : Array (Option Value)} {oc26 kV26 dc26 pm26 cd26 ct26 : Value}
    {f27 : Addr} {od27 an27 : Option Addr} {sl27 : Array (Option Value)} {oc27 kV27 dc27 pm27 cd27 ct27 : Value}
    {f28 : Addr} {od28 an28 : Option Addr} {sl28 : Array (Option Value)} {oc28 kV28 dc28 pm28 cd28 ct28 : Value}
    {f29 : Addr} {od29 an29 : Option Addr} {sl29 : Array (Option Value)} {oc29 kV29 dc29 pm29 cd29 ct29 : Value}
    {f30 : Addr} {od30 an30 : Option Addr} {sl30 : Array (Option Value)} {oc30 kV30 dc30 pm30 cd30 ct30 : Value}
    {f31 : Addr} {od31 an31 : Option Addr} {sl31 : Array (Option Value)} {oc31 kV31 dc31 pm31 cd31 ct31 : Value}
    {f32 : Addr} {od32 an32 : Option Addr} {sl32 : Array (Option Value)} {oc32 kV32 dc32 pm32 cd32 ct32 : Value}
    {f33 : Addr} {od33 an33 : Option Addr} {sl33 : Array (Option Value)} {oc33 kV33 dc33 pm33 cd33 ct33 : Value}
    {f34 : Addr} {od34 an34 : Option Addr} {sl34 : Array (Option Value)} {oc34 kV34 dc34 pm34 cd34 ct34 : Value}
    {f35 : Addr} {od35 an35 : Option Addr} {sl35 : Array (Option Value)} {oc35 kV35 dc35 pm35 cd35 ct35 : Value}
    {f36 : Addr} {od36 an36 : Option Addr} {sl36 : Array (Option Value)} {oc36 kV36 dc36 pm36 cd36 ct36 : Value}
    {f37 : Addr} {od37 an37 : Option Addr} {sl37 : Array (Option Value)} {oc37 kV37 dc37 pm37 cd37 ct37 : Value}
    {f38 : Addr} {od38 an38 : Option Addr} {sl38 : Array (Option Value)} {oc38 kV38 dc38 pm38 cd38 ct38 : Value}
    {f39 : Addr} {od39 an39 : Option Addr} {sl39 : Array (Option Value)} {oc39 kV39 dc39 pm39 cd39 ct39 : Value}
    {f40 : Addr} {od40 an40 : Option Addr} {sl40 : Array (Option Value)} {oc40 kV40 dc40 pm40 cd40 ct40 : Value}
    {f41 : Addr} {od41 an41 : Option Addr} {sl41 : Array (Option Value)} {oc41 kV41 dc41 pm41 cd41 ct41 : Value}
    {fI_NoRoom : Addr} {odI_NoRoom anI_NoRoom : Option Addr} {slI_NoRoom : Array (Option Value)} {ocI_NoRoom kVI_NoRoom dcI_NoRoom pmI_NoRoom cdI_NoRoom ctI_NoRoom : Value}
    {nm_NoRoom : Str} {q_NoRoom : Str} {N_NoRoom : Addr} {bs_NoRoom : List Value} {bm_NoRoom : List Value} {sn_NoRoom : List Str} {sub_NoRoom : List Value} {ab_NoRoom : Bool} {col_NoRoom : Option Bool} {dd_NoRoom : Option Addr} {k0_NoRoom : Option Value} {k1_NoRoom : Option Value} {k2_NoRoom : Option Value} {k3_NoRoom : Option Value} {k5_NoRoom : Option Value}
    (aC_NoRoom : PySem.W.nsIn K mainGlobals "NoRoom" = some (some (.ref C_NoRoom)))
    (kE_NoRoom : PySem.W.keepIn K (.ref C_NoRoom) = true) (sE_NoRoom : PySem.W.subIn K (.ref C_NoRoom) (.type "BaseException") = some true) (tE_NoRoom : PySem.W.typeIn K (.ref C_NoRoom) = some (.type "type"))
    (xL_NoRoom : K.lookup C_NoRoom = some (PySem.excClassObj nm_NoRoom q_NoRoom C_NoRoom N_NoRoom bs_NoRoom bm_NoRoom true sn_NoRoom sub_NoRoom ab_NoRoom col_NoRoom dd_NoRoom k0_NoRoom k1_NoRoom k2_NoRoom k3_NoRoom k5_NoRoom "ValueError.__new__")) (xV_NoRoom : PySem.HandSPX.refsVE bm_NoRoom = true) (xS_NoRoom : PySem.W.findIn K (.ref C_NoRoom) "__setattr__" = some (some (.builtin "object.__setattr__")))
    (xI_NoRoom : PySem.W.findIn K (.ref C_NoRoom) "__init__" = some (some (.ref fI_NoRoom))) (xT_NoRoom : PySem.W.typeIn K (.ref fI_NoRoom) = some (.type "function")) (xN_NoRoom : PySem.W.findIn K (.ref C_NoRoom) "work" = some none)
    (xF_NoRoom : K.lookup fI_NoRoom = some ⟨ocI_NoRoom, odI_NoRoom, .func (PySem.W.fnOf "__init__" "NoRoom.__init__" (defArgs (inClass (topS 21) 0)) (defBody (inClass (topS 21) 0)) (defScope (inClass (topS 21) 0)) .none kVI_NoRoom dcI_NoRoom pmI_NoRoom anI_NoRoom cdI_NoRoom ctI_NoRoom), slI_NoRoom⟩) (xC_NoRoom : PySem.W.codeIn K cdI_NoRoom "NoRoom.__init__" = true) (xK_NoRoom : PySem.W.keepIn K (.ref fI_NoRoom) = true)
    (aC_NotEven : PySem.W.nsIn K mainGlobals "NotEven" = some (some (.ref C_NotEven)))
    (kE_NotEven : PySem.W.keepIn K (.ref C_NotEven) = true) (sE_NotEven : PySem.W.subIn K (.ref C_NotEven) (.type "BaseException") = some true) (tE_NotEven : PySem.W.typeIn K (.ref C_NotEven) = some (.type "type"))
    (qE_NotEven : PySem.W.excIn K C_NotEven [.type "ValueError", .type "Exception", .type "BaseException", .type "object"] "ValueError.__new__" = true)
    (a0 : PySem.W.nsIn K mainGlobals "is_number" = some (some (.ref f0))) (l0 : K.lookup f0 = some ⟨oc0, od0, .func (PySem.W.fnOf "is_number" "is_number" (defArgs s_p_is_number) (defBody s_p_is_number) (defScope s_p_is_number) .none kV0 dc0 pm0 an0 cd0 ct0), sl0⟩) (c0 : PySem.W.codeIn K cd0 "is_number" = true) (k0 : PySem.W.keepIn K (.ref f0) = true)
    (a1 : PySem.W.nsIn K mainGlobals "end_of" = some (some (.ref f1))) (l1 : K.lookup f1 = some ⟨oc1, od1, .func (PySem.W.fnOf "end_of" "end_of" (defArgs s_p_end_of) (defBody s_p_end_of) (defScope s_p_end_of) .none kV1 dc1 pm1 an1 cd1 ct1), sl1⟩) (c1 : PySem.W.codeIn K cd1 "end_of" = true) (k1 : PySem.W.keepIn K (.ref f1) = true)
    (a2 : PySem.W.nsIn K mainGlobals "is_free" = some (some (.ref f2))) (l2 : K.lookup f2 = some ⟨oc2, od2, .func (PySem.W.fnOf "is_free" "is_free" (defArgs s_p_is_free) (defBody s_p_is_free) (defScope s_p_is_free) .none kV2 dc2 pm2 an2 cd2 ct2), sl2⟩) (c2 : PySem.W.codeIn K cd2 "is_free" = true) (k2 : PySem.W.keepIn K (.ref f2) = true)
    (a3 : PySem.W.nsIn K mainGlobals "is_even" = some (some (.ref f3))) (l3 : K.lookup f3 = some ⟨oc3, od3, .func (PySem.W.fnOf "is_even" "is_even" (defArgs s_p_is_even) (defBody s_p_is_even) (defScope s_p_is_even) .none kV3 dc3 pm3 an3 cd3 ct3), sl3⟩) (c3 : PySem.W.codeIn K cd3 "is_even" = true) (k3 : PySem.W.keepIn K (.ref f3) = true)
    (a4 : PySem.W.nsIn K mainGlobals "room_up_to" = some (some (.ref f4))) (l4 : K.lookup f4 = some ⟨oc4, od4, .func (PySem.W.fnOf "room_up_to" "room_up_to" (defArgs s_p_room_up_to) (defBody s_p_room_up_to) (defScope s_p_room_up_to) .none kV4 dc4 pm4 an4 cd4 ct4), sl4⟩) (c4 : PySem.W.codeIn K cd4 "room_up_to" = true) (k4 : PySem.W.keepIn K (.ref f4) = true)
    (a5 : PySem.W.nsIn K mainGlobals "is_kept" = some (some (.ref f5))) (l5 : K.lookup f5 = some ⟨oc5, od5, .func (PySem.W.fnOf "is_kept" "is_kept" (defArgs s_p_is_kept_evenpaper) (defBody s_p_is_kept_evenpaper) (defScope s_p_is_kept_evenpaper) .none kV5 dc5 pm5 an5 cd5 ct5), sl5⟩) (c5 : PySem.W.codeIn K cd5 "is_kept" = true) (k5 : PySem.W.keepIn K (.ref f5) = true)
    (a6 : PySem.W.nsIn K mainGlobals "is_no_lower" = some (some (.ref f6))) (l6 : K.lookup f6 = some ⟨oc6, od6, .func (PySem.W.fnOf "is_no_lower" "is_no_lower" (defArgs s_p_is_no_lower) (defBody s_p_is_no_lower) (defScope s_p_is_no_lower) .none kV6 dc6 pm6 an6 cd6 ct6), sl6⟩) (c6 : PySem.W.codeIn K cd6 "is_no_lower" = true) (k6 : PySem.W.keepIn K (.ref f6) = true)
    (a7 : PySem.W.nsIn K mainGlobals "in_blocks" = some (some (.ref f7))) (l7 : K.lookup f7 = some ⟨oc7, od7, .func (PySem.W.fnOf "in_blocks" "in_blocks" (defArgs s_p_in_blocks) (defBody s_p_in_blocks) (defScope s_p_in_blocks) .none kV7 dc7 pm7 an7 cd7 ct7), sl7⟩) (c7 : PySem.W.codeIn K cd7 "in_blocks" = true) (k7 : PySem.W.keepIn K (.ref f7) = true)
    (a8 : PySem.W.nsIn K mainGlobals "_law_deck" = some (some (.ref f8))) (l8 : K.lookup f8 = some ⟨oc8, od8, .func (PySem.W.fnOf "_law_deck" "_law_deck" (defArgs s_f_law_deck) (defBody s_f_law_deck) (defScope s_f_law_deck) .none kV8 dc8 pm8 an8 cd8 ct8), sl8⟩) (c8 : PySem.W.codeIn K cd8 "_law_deck" = true) (k8 : PySem.W.keepIn K (.ref f8) = true)
    (a9 : PySem.W.nsIn K mainGlobals "_law_next" = some (some (.ref f9))) (l9 : K.lookup f9 = some ⟨oc9, od9, .func (PySem.W.fnOf "_law_next" "_law_next" (defArgs s_f_law_next) (defBody s_f_law_next) (defScope s_f_law_next) .none kV9 dc9 pm9 an9 cd9 ct9), sl9⟩) (c9 : PySem.W.codeIn K cd9 "_law_next" = true) (k9 : PySem.W.keepIn K (.ref f9) = true)
    (a10 : PySem.W.nsIn K mainGlobals "_law_odd" = some (some (.ref f10))) (l10 : K.lookup f10 = some ⟨oc10, od10, .func (PySem.W.fnOf "_law_odd" "_law_odd" (defArgs s_f_law_odd) (defBody s_f_law_odd) (defScope s_f_law_odd) .none kV10 dc10 pm10 an10 cd10 ct10), sl10⟩) (c10 : PySem.W.codeIn K cd10 "_law_odd" = true) (k10 : PySem.W.keepIn K (.ref f10) = true)
    (a11 : PySem.W.nsIn K mainGlobals "_law_ways" = some (some (.ref f11))) (l11 : K.lookup f11 = some ⟨oc11, od11, .func (PySem.W.fnOf "_law_ways" "_law_ways" (defArgs s_f_law_ways) (defBody s_f_law_ways) (defScope s_f_law_ways) .none kV11 dc11 pm11 an11 cd11 ct11), sl11⟩) (c11 : PySem.W.codeIn K cd11 "_law_ways" = true) (k11 : PySem.W.keepIn K (.ref f11) = true)
    (a12 : PySem.W.nsIn K mainGlobals "_law_clash" = some (some (.ref f12))) (l12 : K.lookup f12 = some ⟨oc12, od12, .func (PySem.W.fnOf "_law_clash" "_law_clash" (defArgs s_f_law_clash) (defBody s_f_law_clash) (defScope s_f_law_clash) .none kV12 dc12 pm12 an12 cd12 ct12), sl12⟩) (c12 : PySem.W.codeIn K cd12 "_law_clash" = true) (k12 : PySem.W.keepIn K (.ref f12) = true)
    (a13 : PySem.W.nsIn K mainGlobals "_law_kept" = some (some (.ref f13))) (l13 : K.lookup f13 = some ⟨oc13, od13, .func (PySem.W.fnOf "_law_kept" "_law_kept" (defArgs s_f_law_kept) (defBody s_f_law_kept) (defScope s_f_law_kept) .none kV13 dc13 pm13 an13 cd13 ct13), sl13⟩) (c13 : PySem.W.codeIn K cd13 "_law_kept" = true) (k13 : PySem.W.keepIn K (.ref f13) = true)
    (a14 : PySem.W.nsIn K mainGlobals "_law_room" = some (some (.ref f14))) (l14 : K.lookup f14 = some ⟨oc14, od14, .func (PySem.W.fnOf "_law_room" "_law_room" (defArgs s_f_law_room) (defBody s_f_law_room) (defScope s_f_law_room) .none kV14 dc14 pm14 an14 cd14 ct14), sl14⟩) (c14 : PySem.W.codeIn K cd14 "_law_room" = true) (k14 : PySem.W.keepIn K (.ref f14) = true)
    (a15 : PySem.W.nsIn K mainGlobals "_law_blocks" = some (some (.ref f15))) (l15 : K.lookup f15 = some ⟨oc15, od15, .func (PySem.W.fnOf "_law_blocks" "_law_blocks" (defArgs s_f_law_blocks) (defBody s_f_law_blocks) (defScope s_f_law_blocks) .none kV15 dc15 pm15 an15 cd15 ct15), sl15⟩) (c15 : PySem.W.codeIn K cd15 "_law_blocks" = true) (k15 : PySem.W.keepIn K (.ref f15) = true)
    (a16 : PySem.W.nsIn K mainGlobals "is_from" = some (some (.ref f16))) (l16 : K.lookup f16 = some ⟨oc16, od16, .func (PySem.W.fnOf "is_from" "is_from" (defArgs s_p_is_from) (defBody s_p_is_from) (defScope s_p_is_from) .none kV16 dc16 pm16 an16 cd16 ct16), sl16⟩) (c16 : PySem.W.codeIn K cd16 "is_from" = true) (k16 : PySem.W.keepIn K (.ref f16) = true)
    (a17 : PySem.W.nsIn K mainGlobals "is_behind" = some (some (.ref f17))) (l17 : K.lookup f17 = some ⟨oc17, od17, .func (PySem.W.fnOf "is_behind" "is_behind" (defArgs s_p_is_behind) (defBody s_p_is_behind) (defScope s_p_is_behind) .none kV17 dc17 pm17 an17 cd17 ct17), sl17⟩) (c17 : PySem.W.codeIn K cd17 "is_behind" = true) (k17 : PySem.W.keepIn K (.ref f17) = true)
    (a18 : PySem.W.nsIn K mainGlobals "do_fit" = some (some (.ref f18))) (l18 : K.lookup f18 = some ⟨oc18, od18, .func (PySem.W.fnOf "do_fit" "do_fit" (defArgs s_p_do_fit) (defBody s_p_do_fit) (defScope s_p_do_fit) .none kV18 dc18 pm18 an18 cd18 ct18), sl18⟩) (c18 : PySem.W.codeIn K cd18 "do_fit" = true) (k18 : PySem.W.keepIn K (.ref f18) = true)
    (a19 : PySem.W.nsIn K mainGlobals "_law_goes" = some (some (.ref f19))) (l19 : K.lookup f19 = some ⟨oc19, od19, .func (PySem.W.fnOf "_law_goes" "_law_goes" (defArgs s_f_law_goes) (defBody s_f_law_goes) (defScope s_f_law_goes) .none kV19 dc19 pm19 an19 cd19 ct19), sl19⟩) (c19 : PySem.W.codeIn K cd19 "_law_goes" = true) (k19 : PySem.W.keepIn K (.ref f19) = true)
    (a20 : PySem.W.nsIn K mainGlobals "_law_whole" = some (some (.ref f20))) (l20 : K.lookup f20 = some ⟨oc20, od20, .func (PySem.W.fnOf "_law_whole" "_law_whole" (defArgs s_f_law_whole) (defBody s_f_law_whole) (defScope s_f_law_whole) .none kV20 dc20 pm20 an20 cd20 ct20), sl20⟩) (c20 : PySem.W.codeIn K cd20 "_law_whole" = true) (k20 : PySem.W.keepIn K (.ref f20) = true)
    (a21 : PySem.W.nsIn K mainGlobals "_law_weights" = some (some (.ref f21))) (l21 : K.lookup f21 = some ⟨oc21, od21, .func (PySem.W.fnOf "_law_weights" "_law_weights" (defArgs s_f_law_weights) (defBody s_f_law_weights) (defScope s_f_law_weights) .none kV21 dc21 pm21 an21 cd21 ct21), sl21⟩) (c21 : PySem.W.codeIn K cd21 "_law_weights" = true) (k21 : PySem.W.keepIn K (.ref f21) = true)
    (a22 : PySem.W.nsIn K mainGlobals "_law_even_wish" = some (some (.ref f22))) (l22 : K.lookup f22 = some ⟨oc22, od22, .func (PySem.W.fnOf "_law_even_wish" "_law_even_wish" (defArgs s_f_law_even_wish) (defBody s_f_law_even_wish) (defScope s_f_law_even_wish) .none kV22 dc22 pm22 an22 cd22 ct22), sl22⟩) (c22 : PySem.W.codeIn K cd22 "_law_even_wish" = true) (k22 : PySem.W.keepIn K (.ref f22) = true)
    (a23 : PySem.W.nsIn K mainGlobals "_law_may" = some (some (.ref f23))) (l23 : K.lookup f23 = some ⟨oc23, od23, .func (PySem.W.fnOf "_law_may" "_law_may" (defArgs s_f_law_may) (defBody s_f_law_may) (defScope s_f_law_may) .none kV23 dc23 pm23 an23 cd23 ct23), sl23⟩) (c23 : PySem.W.codeIn K cd23 "_law_may" = true) (k23 : PySem.W.keepIn K (.ref f23) = true)
    (a24 : PySem.W.nsIn K mainGlobals "_law_full_days" = some (some (.ref f24))) (l24 : K.lookup f24 = some ⟨oc24, od24, .func (PySem.W.fnOf "_law_full_days" "_law_full_days" (defArgs s_f_law_full_days) (defBody s_f_law_full_days) (defScope s_f_law_full_days) .none kV24 dc24 pm24 an24 cd24 ct24), sl24⟩) (c24 : PySem.W.codeIn K cd24 "_law_full_days" = true) (k24 : PySem.W.keepIn K (.ref f24) = true)
    (a25 : PySem.W.nsIn K mainGlobals "_law_bent_row" = some (some (.ref f25))) (l25 : K.lookup f25 = some ⟨oc25, od25, .func (PySem.W.fnOf "_law_bent_row" "_law_bent_row" (defArgs s_f_law_bent_row) (defBody s_f_law_bent_row) (defScope s_f_law_bent_row) .none kV25 dc25 pm25 an25 cd25 ct25), sl25⟩) (c25 : PySem.W.codeIn K cd25 "_law_bent_row" = true) (k25 : PySem.W.keepIn K (.ref f25) = true)
    (a26 : PySem.W.nsIn K mainGlobals "is_way" = some (some (.ref f26))) (l26 : K.lookup f26 = some ⟨oc26, od26, .func (PySem.W.fnOf "is_way" "is_way" (defArgs s_p_is_way) (defBody s_p_is_way) (defScope s_p_is_way) .none kV26 dc26 pm26 an26 cd26 ct26), sl26⟩) (c26 : PySem.W.codeIn K cd26 "is_way" = true) (k26 : PySem.W.keepIn K (.ref f26) = true)
    (a27 : PySem.W.nsIn K mainGlobals "clash" = some (some (.ref f27))) (l27 : K.lookup f27 = some ⟨oc27, od27, .func (PySem.W.fnOf "clash" "clash" (defArgs s_p_clash) (defBody s_p_clash) (defScope s_p_clash) .none kV27 dc27 pm27 an27 cd27 ct27), sl27⟩) (c27 : PySem.W.codeIn K cd27 "clash" = true) (k27 : PySem.W.keepIn K (.ref f27) = true)
    (a28 : PySem.W.nsIn K mainGlobals "holds_full" = some (some (.ref f28))) (l28 : K.lookup f28 = some ⟨oc28, od28, .func (PySem.W.fnOf "holds_full" "holds_full" (defArgs s_p_holds_full) (defBody s_p_holds_full) (defScope s_p_holds_full) .none kV28 dc28 pm28 an28 cd28 ct28), sl28⟩) (c28 : PySem.W.codeIn K cd28 "holds_full" = true) (k28 : PySem.W.keepIn K (.ref f28) = true)
    (a29 : PySem.W.nsIn K mainGlobals "taken_wishes" = some (some (.ref f29))) (l29 : K.lookup f29 = some ⟨oc29, od29, .func (PySem.W.fnOf "taken_wishes" "taken_wishes" (defArgs s_p_taken_wishes) (defBody s_p_taken_wishes) (defScope s_p_taken_wishes) .none kV29 dc29 pm29 an29 cd29 ct29), sl29⟩) (c29 : PySem.W.codeIn K cd29 "taken_wishes" = true) (k29 : PySem.W.keepIn K (.ref f29) = true)
    (a30 : PySem.W.nsIn K mainGlobals "_law_plans" = some (some (.ref f30))) (l30 : K.lookup f30 = some ⟨oc30, od30, .func (PySem.W.fnOf "_law_plans" "_law_plans" (defArgs s_f_law_plans) (defBody s_f_law_plans) (defScope s_f_law_plans) .none kV30 dc30 pm30 an30 cd30 ct30), sl30⟩) (c30 : PySem.W.codeIn K cd30 "_law_plans" = true) (k30 : PySem.W.keepIn K (.ref f30) = true)
    (a31 : PySem.W.nsIn K mainGlobals "_law_even" = some (some (.ref f31))) (l31 : K.lookup f31 = some ⟨oc31, od31, .func (PySem.W.fnOf "_law_even" "_law_even" (defArgs s_f_law_even) (defBody s_f_law_even) (defScope s_f_law_even) .none kV31 dc31 pm31 an31 cd31 ct31), sl31⟩) (c31 : PySem.W.codeIn K cd31 "_law_even" = true) (k31 : PySem.W.keepIn K (.ref f31) = true)
    (a32 : PySem.W.nsIn K mainGlobals "_law_taken" = some (some (.ref f32))) (l32 : K.lookup f32 = some ⟨oc32, od32, .func (PySem.W.fnOf "_law_taken" "_law_taken" (defArgs s_f_law_taken) (defBody s_f_law_taken) (defScope s_f_law_taken) .none kV32 dc32 pm32 an32 cd32 ct32), sl32⟩) (c32 : PySem.W.codeIn K cd32 "_law_taken" = true) (k32 : PySem.W.keepIn K (.ref f32) = true)
    (a33 : PySem.W.nsIn K mainGlobals "_law_bent_paper" = some (some (.ref f33))) (l33 : K.lookup f33 = some ⟨oc33, od33, .func (PySem.W.fnOf "_law_bent_paper" "_law_bent_paper" (defArgs s_f_law_bent_paper) (defBody s_f_law_bent_paper) (defScope s_f_law_bent_paper) .none kV33 dc33 pm33 an33 cd33 ct33), sl33⟩) (c33 : PySem.W.codeIn K cd33 "_law_bent_paper" = true) (k33 : PySem.W.keepIn K (.ref f33) = true)
    (a34 : PySem.W.nsIn K mainGlobals "_law_any_paper" = some (some (.ref f34))) (l34 : K.lookup f34 = some ⟨oc34, od34, .func (PySem.W.fnOf "_law_any_paper" "_law_any_paper" (defArgs s_f_law_any_paper) (defBody s_f_law_any_paper) (defScope s_f_law_any_paper) .none kV34 dc34 pm34 an34 cd34 ct34), sl34⟩) (c34 : PySem.W.codeIn K cd34 "_law_any_paper" = true) (k34 : PySem.W.keepIn K (.ref f34) = true)
    (a35 : PySem.W.nsIn K mainGlobals "goes_with" = some (some (.ref f35))) (l35 : K.lookup f35 = some ⟨oc35, od35, .func (PySem.W.fnOf "goes_with" "goes_with" (defArgs s_p_goes_with) (defBody s_p_goes_with) (defScope s_p_goes_with) .none kV35 dc35 pm35 an35 cd35 ct35), sl35⟩) (c35 : PySem.W.codeIn K cd35 "goes_with" = true) (k35 : PySem.W.keepIn K (.ref f35) = true)
    (a36 : PySem.W.nsIn K mainGlobals "full_day" = some (some (.ref f36))) (l36 : K.lookup f36 = some ⟨oc36, od36, .func (PySem.W.fnOf "full_day" "full_day" (defArgs s_p_full_day) (defBody s_p_full_day) (defScope s_p_full_day) .none kV36 dc36 pm36 an36 cd36 ct36), sl36⟩) (c36 : PySem.W.codeIn K cd36 "full_day" = true) (k36 : PySem.W.keepIn K (.ref f36) = true)
    (a37 : PySem.W.nsIn K mainGlobals "_law_paper" = some (some (.ref f37))) (l37 : K.lookup f37 = some ⟨oc37, od37, .func (PySem.W.fnOf "_law_paper" "_law_paper" (defArgs s_f_law_paper) (defBody s_f_law_paper) (defScope s_f_law_paper) .none kV37 dc37 pm37 an37 cd37 ct37), sl37⟩) (c37 : PySem.W.codeIn K cd37 "_law_paper" = true) (k37 : PySem.W.keepIn K (.ref f37) = true)
    (a38 : PySem.W.nsIn K mainGlobals "is_plan" = some (some (.ref f38))) (l38 : K.lookup f38 = some ⟨oc38, od38, .func (PySem.W.fnOf "is_plan" "is_plan" (defArgs s_p_is_plan) (defBody s_p_is_plan) (defScope s_p_is_plan) .none kV38 dc38 pm38 an38 cd38 ct38), sl38⟩) (c38 : PySem.W.codeIn K cd38 "is_plan" = true) (k38 : PySem.W.keepIn K (.ref f38) = true)
    (a39 : PySem.W.nsIn K mainGlobals "even" = some (some (.ref f39))) (l39 : K.lookup f39 = some ⟨oc39, od39, .func (PySem.W.fnOf "even" "even" (defArgs s_p_even) (defBody s_p_even) (defScope s_p_even) .none kV39 dc39 pm39 an39 cd39 ct39), sl39⟩) (c39 : PySem.W.codeIn K cd39 "even" = true) (k39 : PySem.W.keepIn K (.ref f39) = true)
    (a40 : PySem.W.nsIn K mainGlobals "even_holds" = some (some (.ref f40))) (l40 : K.lookup f40 = some ⟨oc40, od40, .func (PySem.W.fnOf "even_holds" "even_holds" (defArgs s_p_even_holds) (defBody s_p_even_holds) (defScope s_p_even_holds) .none kV40 dc40 pm40 an40 cd40 ct40), sl40⟩) (c40 : PySem.W.codeIn K cd40 "even_holds" = true) (k40 : PySem.W.keepIn K (.ref f40) = true)
    (a41 : PySem.W.nsIn K mainGlobals "law" = some (some (.ref f41))) (l41 : K.lookup f41 = some ⟨oc41, od41, .func (PySem.W.fnOf "law" "law" (defArgs s_p_law) (defBody s_p_law) (defScope s_p_law) .none kV41 dc41 pm41 an41 cd41 ct41), sl41⟩) (c41 : PySem.W.codeIn K cd41 "law" = true) (k41 : PySem.W.keepIn K (.ref f41) = true)
    (z_abs : PySem.W.nsIn K mainGlobals "abs" = some none)
    (z_any : PySem.W.nsIn K mainGlobals "any" = some none)
    (z_bool : PySem.W.nsIn K mainGlobals "bool" = some none)
    (z_enumerate : PySem.W.nsIn K mainGlobals "enumerate" = some none)
    (z_int : PySem.W.nsIn K mainGlobals "int" = some none)
    (z_isinstance : PySem.W.nsIn K mainGlobals "isinstance" = some none)
    (z_len : PySem.W.nsIn K mainGlobals "len" = some none)
    (z_list : PySem.W.nsIn K mainGlobals "list" = some none)
    (z_max : PySem.W.nsIn K mainGlobals "max" = some none)
    (z_min : PySem.W.nsIn K mainGlobals "min" = some none)
    (z_range : PySem.W.nsIn K mainGlobals "range" = some none)
    (z_set : PySem.W.nsIn K mainGlobals "set" = some none)
    (z_sorted : PySem.W.nsIn K mainGlobals "sorted" = some none)
    (z_tuple : PySem.W.nsIn K mainGlobals "tuple" = some none)
    (z_zip : PySem.W.nsIn K mainGlobals "zip" = some none) :
    ∃ fd : FuncData, (∀ (s : Shared) (v : Value), BindsTo s fd ⟨[v], []⟩ [("_law_script", v)]) ∧ ∀ base : Heap, K.In base → base.Ns mainGlobals mg → (∀ p ∈ tabCs K, LamX.TabB base mg p.1 p.2) → FnG l.prog w K mg base CX0 7 fa fd ["_law_script"] (spOf K S_p_law) := by
  have e := hfa.symm.trans (PySem.W.mg_of X G a41)
  have e2 : f41 = fa := (Value.ref.inj (Option.some.inj e)).symm
  subst e2
  let T : Txt K mg := { a_p_is_number := f0, d_p_is_number := _, F_p_is_number := fun_mk (st := s_p_is_number) l0 c0 k0, b_p_is_number := (fun_mk (st := s_p_is_number) l0 c0 k0).binds (fun _ _ _ _ _ _ us hl => match us, hl with | [_], _ => rfl), m_p_is_number := PySem.W.mg_of X G a0, a_p_end_of := f1, d_p_end_of := _, F_p_end_of := fun_mk (st := s_p_end_of) l1 c1 k1, b_p_end_of := (fun_mk (st := s_p_end_of) l1 c1 k1).binds (fun _ _ _ _ _ _ us hl => match us, hl with | [_, _, _], _ => rfl), m_p_end_of := PySem.W.mg_of X G a1, a_p_is_free := f2, d_p_is_free := _, F_p_is_free := fun_mk (st := s_p_is_free) l2 c2 k2, b_p_is_free := (fun_mk (st := s_p_is_free) l2 c2 k2).binds (fun _ _ _ _ _ _ us hl => match us, hl with | [_, _, _, _], _ => rfl), m_p_is_free := PySem.W.mg_of X G a2, a_p_is_even := f3, d_p_is_even := _, F_p_is_even := fun_mk (st := s_p_is_even) l3 c3 k3, b_p_is_even := (fun_mk (st := s_p_is_even) l3 c3 k3).binds (fun _ _ _ _ _ _ us hl => match us, hl with | [_], _ => rfl), m_p_is_even := PySem.W.mg_of X G a3, a_p_room_up_to := f4, d_p_room_up_to := _, F_p_room_up_to := fun_mk (st := s_p_room_up_to) l4 c4 k4, b_p_room_up_to := (fun_mk (st := s_p_room_up_to) l4 c4 k4).binds (fun _ _ _ _ _ _ us hl => match us, hl with | [_, _], _ => rfl), m_p_room_up_to := PySem.W.mg_of X G a4, a_p_is_kept_evenpaper := f5, d_p_is_kept_evenpaper := _, F_p_is_kept_evenpaper := fun_mk (st := s_p_is_kept_evenpaper) l5 c5 k5, b_p_is_kept_evenpaper := (fun_mk (st := s_p_is_kept_evenpaper) l5 c5 k5).binds (fun _ _ _ _ _ _ us hl => match us, hl with | [_, _, _], _ => rfl), m_p_is_kept_evenpaper := PySem.W.mg_of X G a5, a_p_is_no_lower := f6, d_p_is_no_lower := _, F_p_is_no_lower := fun_mk (st := s_p_is_no_lower) l6 c6 k6, b_p_is_no_lower := (fun_mk (st := s_p_is_no_lower) l6 c6 k6).binds (fun _ _ _ _ _ _ us hl => match us, hl with | [_, _], _ => rfl), m_p_is_no_lower := PySem.W.mg_of X G a6, a_p_in_blocks := f7, d_p_in_blocks := _, F_p_in_blocks := fun_mk (st := s_p_in_blocks) l7 c7 k7, b_p_in_blocks := (fun_mk (st := s_p_in_blocks) l7 c7 k7).binds (fun _ _ _ _ _ _ us hl => match us, hl with | [_, _], _ => rfl), m_p_in_blocks := PySem.W.mg_of X G a7, a_f_law_deck := f8, d_f_law_deck := _, F_f_law_deck := fun_mk (st := s_f_law_deck) l8 c8 k8, b_f_law_deck := (fun_mk (st := s_f_law_deck) l8 c8 k8).binds (fun _ _ _ _ _ _ us hl => match us, hl with | [_], _ => rfl), m_f_law_deck := PySem.W.mg_of X G a8, a_f_law_next := f9, d_f_law_next := _, F_f_law_next := fun_mk (st := s_f_law_next) l9 c9 k9, b_f_law_next := (fun_mk (st := s_f_law_next) l9 c9 k9).binds (fun _ _ _ _ _ _ us hl => match us, hl with | [_], _ => rfl), m_f_law_next := PySem.W.mg_of X G a9, a_f_law_odd := f10, d_f_law_odd := _, F_f_law_odd := fun_mk (st := s_f_law_odd) l10 c10 k10, b_f_law_odd := (fun_mk (st := s_f_law_odd) l10 c10 k10).binds (fun _ _ _ _ _ _ us hl => match us, hl with | [_], _ => rfl), m_f_law_odd := PySem.W.mg_of X G a10, a_f_law_ways := f11, d_f_law_ways := _, F_f_law_ways := fun_mk (st := s_f_law_ways) l11 c11 k11, b_f_law_ways := (fun_mk (st := s_f_law_ways) l11 c11 k11).binds (fun _ _ _ _ _ _ us hl => match us, hl with | [_, _], _ => rfl), m_f_law_ways := PySem.W.mg_of X G a11, a_f_law_clash := f12, d_f_law_clash := _, F_f_law_clash := fun_mk (st := s_f_law_clash) l12 c12 k12, b_f_law_clash := (fun_mk (st := s_f_law_clash) l12 c12 k12).binds (fun _ _ _ _ _ _ us hl => match us, hl with | [_, _, _, _, _], _ => rfl), m_f_law_clash := PySem.W.mg_of X G a12, a_f_law_kept := f13, d_f_law_kept := _, F_f_law_kept := fun_mk (st := s_f_law_kept) l13 c13 k13, b_f_law_kept := (fun_mk (st := s_f_law_kept) l13 c13 k13).binds (fun _ _ _ _ _ _ us hl => match us, hl with | [_, _, _], _ => rfl), m_f_law_kept := PySem.W.mg_of X G a13, a_f_law_room := f14, d_f_law_room := _, F_f_law_room := fun_mk (st := s_f_law_room) l14 c14 k14, b_f_law_room := (fun_mk (st := s_f_law_room) l14 c14 k14).binds (fun _ _ _ _ _ _ us hl => match us, hl with | [_, _], _ => rfl), m_f_law_room := PySem.W.mg_of X G a14, a_f_law_blocks := f15, d_f_law_blocks := _, F_f_law_blocks := fun_mk (st := s_f_law_blocks) l15 c15 k15, b_f_law_blocks := (fun_mk (st := s_f_law_blocks) l15 c15 k15).binds (fun _ _ _ _ _ _ us hl => match us, hl with | [_, _], _ => rfl), m_f_law_blocks := PySem.W.mg_of X G a15, a_p_is_from := f16, d_p_is_from := _, F_p_is_from := fun_mk (st := s_p_is_from) l16 c16 k16, b_p_is_from := (fun_mk (st := s_p_is_from) l16 c16 k16).binds (fun _ _ _ _ _ _ us hl => match us, hl with | [_, _, _], _ => rfl), m_p_is_from := PySem.W.mg_of X G a16, a_p_is_behind := f17, d_p_is_behind := _, F_p_is_behind := fun_mk (st := s_p_is_behind) l17 c17 k17, b_p_is_behind := (fun_mk (st := s_p_is_behind) l17 c17 k17).binds (fun _ _ _ _ _ _ us hl => match us, hl with | [_, _, _, _, _], _ => rfl), m_p_is_behind := PySem.W.mg_of X G a17, a_p_do_fit := f18, d_p_do_fit := _, F_p_do_fit := fun_mk (st := s_p_do_fit) l18 c18 k18, b_p_do_fit := (fun_mk (st := s_p_do_fit) l18 c18 k18).binds (fun _ _ _ _ _ _ us hl => match us, hl with | [_, _], _ => rfl), m_p_do_fit := PySem.W.mg_of X G a18, a_f_law_goes := f19, d_f_law_goes := _, F_f_law_goes := fun_mk (st := s_f_law_goes) l19 c19 k19, b_f_law_goes := (fun_mk (st := s_f_law_goes) l19 c19 k19).binds (fun _ _ _ _ _ _ us hl => match us, hl with | [_, _, _, _], _ => rfl), m_f_law_goes := PySem.W.mg_of X G a19, a_f_law_whole := f20, d_f_law_whole := _, F_f_law_whole := fun_mk (st := s_f_law_whole) l20 c20 k20, b_f_law_whole := (fun_mk (st := s_f_law_whole) l20 c20 k20).binds (fun _ _ _ _ _ _ us hl => match us, hl with | [_], _ => rfl), m_f_law_whole := PySem.W.mg_of X G a20, a_f_law_weights := f21, d_f_law_weights := _, F_f_law_weights := fun_mk (st := s_f_law_weights) l21 c21 k21, b_f_law_weights := (fun_mk (st := s_f_law_weights) l21 c21 k21).binds (fun _ _ _ _ _ _ us hl => match us, hl with | [_, _], _ => rfl), m_f_law_weights := PySem.W.mg_of X G a21, a_f_law_even_wish := f22, d_f_law_even_wish := _, F_f_law_even_wish := fun_mk (st := s_f_law_even_wish) l22 c22 k22, b_f_law_even_wish := (fun_mk (st := s_f_law_even_wish) l22 c22 k22).binds (fun _ _ _ _ _ _ us hl => match us, hl with | [_, _, _], _ => rfl), m_f_law_even_wish := PySem.W.mg_of X G a22, a_f_law_may := f23, d_f_law_may := _, F_f_law_may := fun_mk (st := s_f_law_may) l23 c23 k23, b_f_law_may := (fun_mk (st := s_f_law_may) l23 c23 k23).binds (fun _ _ _ _ _ _ us hl => match us, hl with | [_, _], _ => rfl), m_f_law_may := PySem.W.mg_of X G a23, a_f_law_full_days := f24, d_f_law_full_days := _, F_f_law_full_days := fun_mk (st := s_f_law_full_days) l24 c24 k24, b_f_law_full_days := (fun_mk (st := s_f_law_full_days) l24 c24 k24).binds (fun _ _ _ _ _ _ us hl => match us, hl with | [_, _, _], _ => rfl), m_f_law_full_days := PySem.W.mg_of X G a24, a_f_law_bent_row := f25, d_f_law_bent_row := _, F_f_law_bent_row := fun_mk (st := s_f_law_bent_row) l25 c25 k25, b_f_law_bent_row := (fun_mk (st := s_f_law_bent_row) l25 c25 k25).binds (fun _ _ _ _ _ _ us hl => match us, hl with | [_, _], _ => rfl), m_f_law_bent_row := PySem.W.mg_of X G a25, a_p_is_way := f26, d_p_is_way := _, F_p_is_way := fun_mk (st := s_p_is_way) l26 c26 k26, b_p_is_way := (fun_mk (st := s_p_is_way) l26 c26 k26).binds (fun _ _ _ _ _ _ us hl => match us, hl with | [_, _, _], _ => rfl), m_p_is_way := PySem.W.mg_of X G a26, a_p_clash := f27, d_p_clash := _, F_p_clash := fun_mk (st := s_p_clash) l27 c27 k27, b_p_clash := (fun_mk (st := s_p_clash) l27 c27 k27).binds (fun _ _ _ _ _ _ us hl => match us, hl with | [_, _, _, _, _], _ => rfl), m_p_clash := PySem.W.mg_of X G a27, a_p_holds_full := f28, d_p_holds_full := _, F_p_holds_full := fun_mk (st := s_p_holds_full) l28 c28 k28, b_p_holds_full := (fun_mk (st := s_p_holds_full) l28 c28 k28).binds (fun _ _ _ _ _ _ us hl => match us, hl with | [_, _, _, _], _ => rfl), m_p_holds_full := PySem.W.mg_of X G a28, a_p_taken_wishes := f29, d_p_taken_wishes := _, F_p_taken_wishes := fun_mk (st := s_p_taken_wishes) l29 c29 k29, b_p_taken_wishes := (fun_mk (st := s_p_taken_wishes) l29 c29 k29).binds (fun _ _ _ _ _ _ us hl => match us, hl with | [_], _ => rfl), m_p_taken_wishes := PySem.W.mg_of X G a29, a_f_law_plans := f30, d_f_law_plans := _, F_f_law_plans := fun_mk (st := s_f_law_plans) l30 c30 k30, b_f_law_plans := (fun_mk (st := s_f_law_plans) l30 c30 k30).binds (fun _ _ _ _ _ _ us hl => match us, hl with | [_, _], _ => rfl), m_f_law_plans := PySem.W.mg_of X G a30, a_f_law_even := f31, d_f_law_even := _, F_f_law_even := fun_mk (st := s_f_law_even) l31 c31 k31, b_f_law_even := (fun_mk (st := s_f_law_even) l31 c31 k31).binds (fun _ _ _ _ _ _ us hl => match us, hl with | [_, _, _, _, _], _ => rfl), m_f_law_even := PySem.W.mg_of X G a31, a_f_law_taken := f32, d_f_law_taken := _, F_f_law_taken := fun_mk (st := s_f_law_taken) l32 c32 k32, b_f_law_taken := (fun_mk (st := s_f_law_taken) l32 c32 k32).binds (fun _ _ _ _ _ _ us hl => match us, hl with | [_], _ => rfl), m_f_law_taken := PySem.W.mg_of X G a32, a_f_law_bent_paper := f33, d_f_law_bent_paper := _, F_f_law_bent_paper := fun_mk (st := s_f_law_bent_paper) l33 c33 k33, b_f_law_bent_paper := (fun_mk (st := s_f_law_bent_paper) l33 c33 k33).binds (fun _ _ _ _ _ _ us hl => match us, hl with | [_, _], _ => rfl), m_f_law_bent_paper := PySem.W.mg_of X G a33, a_f_law_any_paper := f34, d_f_law_any_paper := _, F_f_law_any_paper := fun_mk (st := s_f_law_any_paper) l34 c34 k34, b_f_law_any_paper := (fun_mk (st := s_f_law_any_paper) l34 c34 k34).binds (fun _ _ _ _ _ _ us hl => match us, hl with | [_, _, _], _ => rfl), m_f_law_any_paper := PySem.W.mg_of X G a34, a_p_goes_with := f35, d_p_goes_with := _, F_p_goes_with := fun_mk (st := s_p_goes_with) l35 c35 k35, b_p_goes_with := (fun_mk (st := s_p_goes_with) l35 c35 k35).binds (fun _ _ _ _ _ _ us hl => match us, hl with | [_, _, _, _], _ => rfl), m_p_goes_with := PySem.W.mg_of X G a35, a_p_full_day := f36, d_p_full_day := _, F_p_full_day := fun_mk (st := s_p_full_day) l36 c36 k36, b_p_full_day := (fun_mk (st := s_p_full_day) l36 c36 k36).binds (fun _ _ _ _ _ _ us hl => match us, hl with | [_, _, _], _ => rfl), m_p_full_day := PySem.W.mg_of X G a36, a_f_law_paper := f37, d_f_law_paper := _, F_f_law_paper := fun_mk (st := s_f_law_paper) l37 c37 k37, b_f_law_paper := (fun_mk (st := s_f_law_paper) l37 c37 k37).binds (fun _ _ _ _ _ _ us hl => match us, hl with | [_, _], _ => rfl), m_f_law_paper := PySem.W.mg_of X G a37, a_p_is_plan := f38, d_p_is_plan := _, F_p_is_plan := fun_mk (st := s_p_is_plan) l38 c38 k38, b_p_is_plan := (fun_mk (st := s_p_is_plan) l38 c38 k38).binds (fun _ _ _ _ _ _ us hl => match us, hl with | [_, _], _ => rfl), m_p_is_plan := PySem.W.mg_of X G a38, a_p_even := f39, d_p_even := _, F_p_even := fun_mk (st := s_p_even) l39 c39 k39, b_p_even := (fun_mk (st := s_p_even) l39 c39 k39).binds (fun _ _ _ _ _ _ us hl => match us, hl with | [_], _ => rfl), m_p_even := PySem.W.mg_of X G a39, a_p_even_holds := f40, d_p_even_holds := _, F_p_even_holds := fun_mk (st := s_p_even_holds) l40 c40 k40, b_p_even_holds := (fun_mk (st := s_p_even_holds) l40 c40 k40).binds (fun _ _ _ _ _ _ us hl => match us, hl with | [_, _], _ => rfl), m_p_even_holds := PySem.W.mg_of X G a40, a_p_law := f41, d_p_law := _, F_p_law := fun_mk (st := s_p_law) l41 c41 k41, b_p_law := (fun_mk (st := s_p_law) l41 c41 k41).binds (fun _ _ _ _ _ _ us hl => match us, hl with | [_], _ => rfl), m_p_law := PySem.W.mg_of X G a41, C_NoRoom := C_NoRoom, aC_NoRoom := aC_NoRoom, mC_NoRoom := PySem.W.mg_of X G aC_NoRoom, aI_NoRoom := fI_NoRoom, dI_NoRoom := _, FI_NoRoom := fun_mk (st := inClass (topS 21) 0) xF_NoRoom xC_NoRoom xK_NoRoom, bI_NoRoom := (fun_mk (st := inClass (topS 21) 0) xF_NoRoom xC_NoRoom xK_NoRoom).binds (fun _ _ _ _ _ _ us hl => match us, hl with | [_, _], _ => rfl), e_NoRoom := ⟨aC_NoRoom, ⟨⟨_, _, _, _, _, _, _, _, _, _, _, _, _, _, _, xL_NoRoom, xV_NoRoom⟩, xS_NoRoom, sE_NoRoom, tE_NoRoom, kE_NoRoom⟩, xI_NoRoom, xT_NoRoom, xN_NoRoom⟩, C_NotEven := C_NotEven, aC_NotEven := aC_NotEven, mC_NotEven := PySem.W.mg_of X G aC_NotEven, e_NotEven := ⟨aC_NotEven, qE_NotEven, kE_NotEven, sE_NotEven, tE_NotEven⟩, n_abs := PySem.W.mg_none_of X G z_abs, n_any := PySem.W.mg_none_of X G z_any, n_bool := PySem.W.mg_none_of X G z_bool, n_enumerate := PySem.W.mg_none_of X G z_enumerate, n_int := PySem.W.mg_none_of X G z_int, n_isinstance := PySem.W.mg_none_of X G z_isinstance, n_len := PySem.W.mg_none_of X G z_len, n_list := PySem.W.mg_none_of X G z_list, n_max := PySem.W.mg_none_of X G z_max, n_min := PySem.W.mg_none_of X G z_min, n_range := PySem.W.mg_none_of X G z_range, n_set := PySem.W.mg_none_of X G z_set, n_sorted := PySem.W.mg_none_of X G z_sorted, n_tuple := PySem.W.mg_none_of X G z_tuple, n_zip := PySem.W.mg_none_of X G z_zip }
  exact ⟨T.d_p_law, fun s v => .of_eq rfl, fun base _ _ _ => ok_p_law T⟩
end DL.M
namespace DL
namespace HeadF
open PySem PySem.Spec PyProof.Rows L2
theorem facts {w : World} {K : PySem.W.Frag} {h : Heap} {mg : Str → Option Value} {fa : Addr} (X : K.In h) (G : h.Ns mainGlobals mg) (hfa : mg "law" = some (.ref fa)) (c : SaysW dfs (fun K => exs.all fun f => f K) h K) :
    ∃ fd : FuncData, (∀ (s : Shared) (v : Value), BindsTo s fd ⟨[v], []⟩ [("_law_script", v)]) ∧ ∀ base : Heap, K.In base → base.Ns mainGlobals mg → (∀ p ∈ tabCs K, LamX.TabB base mg p.1 p.2) → FnG PySem.Challenge.rw_workwishes_k45_whole_none_keeps_more.prog w K mg base CX0 7 fa fd ["_law_script"] (spOf K DL.M.S_p_law) := by
  obtain ⟨_, _, _, _, _, _, _, _, _, _, _, _, _, _, _, xL_NoRoom, xV_NoRoom⟩ := oexB_ok (exs_at c.ex 4 (f := fun K => oexB K (He.ga K "NoRoom")) rfl)
  obtain ⟨_, _, _, _, _, _, _, _, _, xF_NoRoom, xC_NoRoom, xK_NoRoom⟩ := def_at c.d 42 (d := d_init_NoRoom) rfl rfl
  obtain ⟨_, _, _, _, _, _, _, _, _, l0, c0, k0⟩ := def_at c.d 0 (d := d_p_is_number) rfl rfl
  obtain ⟨_, _, _, _, _, _, _, _, _, l1, c1, k1⟩ := def_at c.d 1 (d := d_p_end_of) rfl rfl
  obtain ⟨_, _, _, _, _, _, _, _, _, l2, c2, k2⟩ := def_at c.d 2 (d := d_p_is_free) rfl rfl
  obtain ⟨_, _, _, _, _, _, _, _, _, l3, c3, k3⟩ := def_at c.d 3 (d := d_p_is_even) rfl rfl
  obtain ⟨_, _, _, _, _, _, _, _, _, l4, c4, k4⟩ := def_at c.d 4 (d := d_p_room_up_to) rfl rfl
  obtain ⟨_, _, _, _, _, _, _, _, _, l5, c5, k5⟩ := def_at c.d 5 (d := d_p_is_kept_evenpaper) rfl rfl
  obtain ⟨_, _, _, _, _, _, _, _, _, l6, c6, k6⟩ := def_at c.d 6 (d := d_p_is_no_lower) rfl rfl
  obtain ⟨_, _, _, _, _, _, _, _, _, l7, c7, k7⟩ := def_at c.d 7 (d := d_p_in_blocks) rfl rfl
  obtain ⟨_, _, _, _, _, _, _, _, _, l8, c8, k8⟩ := def_at c.d 8 (d := d_f_law_deck) rfl rfl
  obtain ⟨_, _, _, _, _, _, _, _, _, l9, c9, k9⟩ := def_at c.d 9 (d := d_f_law_next) rfl rfl
  obtain ⟨_, _, _, _, _, _, _, _, _, l10, c10, k10⟩ := def_at c.d 10 (d := d_f_law_odd) rfl rfl
  obtain ⟨_, _, _, _, _, _, _, _, _, l11, c11, k11⟩ := def_at c.d 11 (d := d_f_law_ways) rfl rfl
  obtain ⟨_, _, _, _, _, _, _, _, _, l12, c12, k12⟩ := def_at c.d 12 (d := d_f_law_clash) rfl rfl
  obtain ⟨_, _, _, _, _, _, _, _, _, l13, c13, k13⟩ := def_at c.d 13 (d := d_f_law_kept) rfl rfl
  obtain ⟨_, _, _, _, _, _, _, _, _, l14, c14, k14⟩ := def_at c.d 14 (d := d_f_law_room) rfl rfl
  obtain ⟨_, _, _, _, _, _, _, _, _, l15, c15, k15⟩ := def_at c.d 15 (d := d_f_law_blocks) rfl rfl
  obtain ⟨_, _, _, _, _, _, _, _, _, l16, c16, k16⟩ := def_at c.d 16 (d := d_p_is_from) rfl rfl
  obtain ⟨_, _, _, _, _, _, _, _, _, l17, c17, k17⟩ := def_at c.d 17 (d := d_p_is_behind) rfl rfl
  obtain ⟨_, _, _, _, _, _, _, _, _, l18, c18, k18⟩ := def_at c.d 18 (d := d_p_do_fit) rfl rfl
  obtain ⟨_, _, _, _, _, _, _, _, _, l19, c19, k19⟩ := def_at c.d 19 (d := d_f_law_goes) rfl rfl
  obtain ⟨_, _, _, _, _, _, _, _, _, l20, c20, k20⟩ := def_at c.d 20 (d := d_f_law_whole) rfl rfl
  obtain ⟨_, _, _, _, _, _, _, _, _, l21, c21, k21⟩ := def_at c.d 21 (d := d_f_law_weights) rfl rfl
  obtain ⟨_, _, _, _, _, _, _, _, _, l22, c22, k22⟩ := def_at c.d 22 (d := d_f_law_even_wish) rfl rfl
  obtain ⟨_, _, _, _, _, _, _, _, _, l23, c23, k23⟩ := def_at c.d 23 (d := d_f_law_may) rfl rfl
  obtain ⟨_, _, _, _, _, _, _, _, _, l24, c24, k24⟩ := def_at c.d 24 (d := d_f_law_full_days) rfl rfl
  obtain ⟨_, _, _, _, _, _, _, _, _, l25, c25, k25⟩ := def_at c.d 25 (d := d_f_law_bent_row) rfl rfl
  obtain ⟨_, _, _, _, _, _, _, _, _, l26, c26, k26⟩ := def_at c.d 26 (d := d_p_is_way) rfl rfl
  obtain ⟨_, _, _, _, _, _, _, _, _, l27, c27, k27⟩ := def_at c.d 27 (d := d_p_clash) rfl rfl
  obtain ⟨_, _, _, _, _, _, _, _, _, l28, c28, k28⟩ := def_at c.d 28 (d := d_p_holds_full) rfl rfl
  obtain ⟨_, _, _, _, _, _, _, _, _, l29, c29, k29⟩ := def_at c.d 29 (d := d_p_taken_wishes) rfl rfl
  obtain ⟨_, _, _, _, _, _, _, _, _, l30, c30, k30⟩ := def_at c.d 30 (d := d_f_law_plans) rfl rfl
  obtain ⟨_, _, _, _, _, _, _, _, _, l31, c31, k31⟩ := def_at c.d 31 (d := d_f_law_even) rfl rfl
  obtain ⟨_, _, _, _, _, _, _, _, _, l32, c32, k32⟩ := def_at c.d 32 (d := d_f_law_taken) rfl rfl
  obtain ⟨_, _, _, _, _, _, _, _, _, l33, c33, k33⟩ := def_at c.d 33 (d := d_f_law_bent_paper) rfl rfl
  obtain ⟨_, _, _, _, _, _, _, _, _, l34, c34, k34⟩ := def_at c.d 34 (d := d_f_law_any_paper) rfl rfl
  obtain ⟨_, _, _, _, _, _, _, _, _, l35, c35, k35⟩ := def_at c.d 35 (d := d_p_goes_with) rfl rfl
  obtain ⟨_, _, _, _, _, _, _, _, _, l36, c36, k36⟩ := def_at c.d 36 (d := d_p_full_day) rfl rfl
  obtain ⟨_, _, _, _, _, _, _, _, _, l37, c37, k37⟩ := def_at c.d 37 (d := d_f_law_paper) rfl rfl
  obtain ⟨_, _, _, _, _, _, _, _, _, l38, c38, k38⟩ := def_at c.d 38 (d := d_p_is_plan) rfl rfl
  obtain ⟨_, _, _, _, _, _, _, _, _, l39, c39, k39⟩ := def_at c.d 39 (d := d_p_even) rfl rfl
  obtain ⟨_, _, _, _, _, _, _, _, _, l40, c40, k40⟩ := def_at c.d 40 (d := d_p_even_holds) rfl rfl
  obtain ⟨_, _, _, _, _, _, _, _, _, l41, c41, k41⟩ := def_at c.d 41 (d := d_p_law) rfl rfl
  exact DL.M.all_mk (l := PySem.Challenge.rw_workwishes_k45_whole_none_keeps_more) X G hfa (of_decide_eq_true (exs_at c.ex 0 (f := fun K => decide (PySem.W.nsIn K mainGlobals "NoRoom" = some (some (.ref (He.ga K "NoRoom"))))) rfl)) (of_decide_eq_true (exs_at c.ex 1 (f := fun K => decide (PySem.W.keepIn K (.ref (He.ga K "NoRoom")) = true)) rfl)) (of_decide_eq_true (exs_at c.ex 2 (f := fun K => decide (PySem.W.subIn K (.ref (He.ga K "NoRoom")) (.type "BaseException") = some true)) rfl)) (of_decide_eq_true (exs_at c.ex 3 (f := fun K => decide (PySem.W.typeIn K (.ref (He.ga K "NoRoom")) = some (.type "type"))) rfl)) xL_NoRoom xV_NoRoom (of_decide_eq_true (exs_at c.ex 5 (f := fun K => decide (PySem.W.findIn K (.ref (He.ga K "NoRoom")) "__setattr__" = some (some (.builtin "object.__setattr__")))) rfl)) (of_decide_eq_true (exs_at c.ex 6 (f := fun K => decide (PySem.W.findIn K (.ref (He.ga K "NoRoom")) "__init__" = some (some (.ref (He.fAd K d_init_NoRoom.at_))))) rfl)) (of_decide_eq_true (exs_at c.ex 7 (f := fun K => decide (PySem.W.typeIn K (.ref (He.fAd K d_init_NoRoom.at_)) = some (.type "function"))) rfl)) (of_decide_eq_true (exs_at c.ex 8 (f := fun K => decide (PySem.W.findIn K (.ref (He.ga K "NoRoom")) "work" = some none)) rfl)) xF_NoRoom xC_NoRoom xK_NoRoom (of_decide_eq_true (exs_at c.ex 9 (f := fun K => decide (PySem.W.nsIn K mainGlobals "NotEven" = some (some (.ref (He.ga K "NotEven"))))) rfl)) (of_decide_eq_true (exs_at c.ex 10 (f := fun K => decide (PySem.W.keepIn K (.ref (He.ga K "NotEven")) = true)) rfl)) (of_decide_eq_true (exs_at c.ex 11 (f := fun K => decide (PySem.W.subIn K (.ref (He.ga K "NotEven")) (.type "BaseException") = some true)) rfl)) (of_decide_eq_true (exs_at c.ex 12 (f := fun K => decide (PySem.W.typeIn K (.ref (He.ga K "NotEven")) = some (.type "type"))) rfl)) (of_decide_eq_true (exs_at c.ex 13 (f := fun K => decide (PySem.W.excIn K (He.ga K "NotEven") [.type "ValueError", .type "Exception", .type "BaseException", .type "object"] "ValueError.__new__" = true)) rfl)) (of_decide_eq_true (exs_at c.ex 14 (f := fun K => decide (PySem.W.nsIn K mainGlobals "is_number" = some (some (.ref (He.fAd K d_p_is_number.at_))))) rfl)) l0 c0 k0 (of_decide_eq_true (exs_at c.ex 15 (f := fun K => decide (PySem.W.nsIn K mainGlobals "end_of" = some (some (.ref (He.fAd K d_p_end_of.at_))))) rfl)) l1 c1 k1 (of_decide_eq_true (exs_at c.ex 16 (f := fun K => decide (PySem.W.nsIn K mainGlobals "is_free" = some (some (.ref (He.fAd K d_p_is_free.at_))))) rfl)) l2 c2 k2 (of_decide_eq_true (exs_at c.ex 17 (f := fun K => decide (PySem.W.nsIn K mainGlobals "is_even" = some (some (.ref (He.fAd K d_p_is_even.at_))))) rfl)) l3 c3 k3 (of_decide_eq_true (exs_at c.ex 18 (f := fun K => decide (PySem.W.nsIn K mainGlobals "room_up_to" = some (some (.ref (He.fAd K d_p_room_up_to.at_))))) rfl)) l4 c4 k4 (of_decide_eq_true (exs_at c.ex 19 (f := fun K => decide (PySem.W.nsIn K mainGlobals "is_kept" = some (some (.ref (He.fAd K d_p_is_kept_evenpaper.at_))))) rfl)) l5 c5 k5 (of_decide_eq_true (exs_at c.ex 20 (f := fun K => decide (PySem.W.nsIn K mainGlobals "is_no_lower" = some (some (.ref (He.fAd K d_p_is_no_lower.at_))))) rfl)) l6 c6 k6 (of_decide_eq_true (exs_at c.ex 21 (f := fun K => decide (PySem.W.nsIn K mainGlobals "in_blocks" = some (some (.ref (He.fAd K d_p_in_blocks.at_))))) rfl)) l7 c7 k7 (of_decide_eq_true (exs_at c.ex 22 (f := fun K => decide (PySem.W.nsIn K mainGlobals "_law_deck" = some (some (.ref (He.fAd K d_f_law_deck.at_))))) rfl)) l8 c8 k8 (of_decide_eq_true (exs_at c.ex 23 (f := fun K => decide (PySem.W.nsIn K mainGlobals "_law_next" = some (some (.ref (He.fAd K d_f_law_next.at_))))) rfl)) l9 c9 k9 (of_decide_eq_true (exs_at c.ex 24 (f := fun K => decide (PySem.W.nsIn K mainGlobals "_law_odd" = some (some (.ref (He.fAd K d_f_law_odd.at_))))) rfl)) l10 c10 k10 (of_decide_eq_true (exs_at c.ex 25 (f := fun K => decide (PySem.W.nsIn K mainGlobals "_law_ways" = some (some (.ref (He.fAd K d_f_law_ways.at_))))) rfl)) l11 c11 k11 (of_decide_eq_true (exs_at c.ex 26 (f := fun K => decide (PySem.W.nsIn K mainGlobals "_law_clash" = some (some (.ref (He.fAd K d_f_law_clash.at_))))) rfl)) l12 c12 k12 (of_decide_eq_true (exs_at c.ex 27 (f := fun K => decide (PySem.W.nsIn K mainGlobals "_law_kept" = some (some (.ref (He.fAd K d_f_law_kept.at_))))) rfl)) l13 c13 k13 (of_decide_eq_true (exs_at c.ex 28 (f := fun K => decide (PySem.W.nsIn K mainGlobals "_law_room" = some (some (.ref (He.fAd K d_f_law_room.at_))))) rfl)) l14 c14 k14 (of_decide_eq_true (exs_at c.ex 29 (f := fun K => decide (PySem.W.nsIn K mainGlobals "_law_blocks" = some (some (.ref (He.fAd K d_f_law_blocks.at_))))) rfl)) l15 c15 k15 (of_decide_eq_true (exs_at c.ex 30 (f := fun K => decide (PySem.W.nsIn K mainGlobals "is_from" = some (some (.ref (He.fAd K d_p_is_from.at_))))) rfl)) l16 c16 k16 (of_decide_eq_true (exs_at c.ex 31 (f := fun K => decide (PySem.W.nsIn K mainGlobals "is_behind" = some (some (.ref (He.fAd K d_p_is_behind.at_))))) rfl)) l17 c17 k17 (of_decide_eq_true (exs_at c.ex 32 (f := fun K => decide (PySem.W.nsIn K mainGlobals "do_fit" = some (some (.ref (He.fAd K d_p_do_fit.at_))))) rfl)) l18 c18 k18 (of_decide_eq_true (exs_at c.ex 33 (f := fun K => decide (PySem.W.nsIn K mainGlobals "_law_goes" = some (some (.ref (He.fAd K d_f_law_goes.at_))))) rfl)) l19 c19 k19 (of_decide_eq_true (exs_at c.ex 34 (f := fun K => decide (PySem.W.nsIn K mainGlobals "_law_whole" = some (some (.ref (He.fAd K d_f_law_whole.at_))))) rfl)) l20 c20 k20 (of_decide_eq_true (exs_at c.ex 35 (f := fun K => decide (PySem.W.nsIn K mainGlobals "_law_weights" = some (some (.ref (He.fAd K d_f_law_weights.at_))))) rfl)) l21 c21 k21 (of_decide_eq_true (exs_at c.ex 36 (f := fun K => decide (PySem.W.nsIn K mainGlobals "_law_even_wish" = some (some (.ref (He.fAd K d_f_law_even_wish.at_))))) rfl)) l22 c22 k22 (of_decide_eq_true (exs_at c.ex 37 (f := fun K => decide (PySem.W.nsIn K mainGlobals "_law_may" = some (some (.ref (He.fAd K d_f_law_may.at_))))) rfl)) l23 c23 k23 (of_decide_eq_true (exs_at c.ex 38 (f := fun K => decide (PySem.W.nsIn K mainGlobals "_law_full_days" = some (some (.ref (He.fAd K d_f_law_full_days.at_))))) rfl)) l24 c24 k24 (of_decide_eq_true (exs_at c.ex 39 (f := fun K => decide (PySem.W.nsIn K mainGlobals "_law_bent_row" = some (some (.ref (He.fAd K d_f_law_bent_row.at_))))) rfl)) l25 c25 k25 (of_decide_eq_true (exs_at c.ex 40 (f := fun K => decide (PySem.W.nsIn K mainGlobals "is_way" = some (some (.ref (He.fAd K d_p_is_way.at_))))) rfl)) l26 c26 k26 (of_decide_eq_true (exs_at c.ex 41 (f := fun K => decide (PySem.W.nsIn K mainGlobals "clash" = some (some (.ref (He.fAd K d_p_clash.at_))))) rfl)) l27 c27 k27 (of_decide_eq_true (exs_at c.ex 42 (f := fun K => decide (PySem.W.nsIn K mainGlobals "holds_full" = some (some (.ref (He.fAd K d_p_holds_full.at_))))) rfl)) l28 c28 k28 (of_decide_eq_true (exs_at c.ex 43 (f := fun K => decide (PySem.W.nsIn K mainGlobals "taken_wishes" = some (some (.ref (He.fAd K d_p_taken_wishes.at_))))) rfl)) l29 c29 k29 (of_decide_eq_true (exs_at c.ex 44 (f := fun K => decide (PySem.W.nsIn K mainGlobals "_law_plans" = some (some (.ref (He.fAd K d_f_law_plans.at_))))) rfl)) l30 c30 k30 (of_decide_eq_true (exs_at c.ex 45 (f := fun K => decide (PySem.W.nsIn K mainGlobals "_law_even" = some (some (.ref (He.fAd K d_f_law_even.at_))))) rfl)) l31 c31 k31 (of_decide_eq_true (exs_at c.ex 46 (f := fun K => decide (PySem.W.nsIn K mainGlobals "_law_taken" = some (some (.ref (He.fAd K d_f_law_taken.at_))))) rfl)) l32 c32 k32 (of_decide_eq_true (exs_at c.ex 47 (f := fun K => decide (PySem.W.nsIn K mainGlobals "_law_bent_paper" = some (some (.ref (He.fAd K d_f_law_bent_paper.at_))))) rfl)) l33 c33 k33 (of_decide_eq_true (exs_at c.ex 48 (f := fun K => decide (PySem.W.nsIn K mainGlobals "_law_any_paper" = some (some (.ref (He.fAd K d_f_law_any_paper.at_))))) rfl)) l34 c34 k34 (of_decide_eq_true (exs_at c.ex 49 (f := fun K => decide (PySem.W.nsIn K mainGlobals "goes_with" = some (some (.ref (He.fAd K d_p_goes_with.at_))))) rfl)) l35 c35 k35 (of_decide_eq_true (exs_at c.ex 50 (f := fun K => decide (PySem.W.nsIn K mainGlobals "full_day" = some (some (.ref (He.fAd K d_p_full_day.at_))))) rfl)) l36 c36 k36 (of_decide_eq_true (exs_at c.ex 51 (f := fun K => decide (PySem.W.nsIn K mainGlobals "_law_paper" = some (some (.ref (He.fAd K d_f_law_paper.at_))))) rfl)) l37 c37 k37 (of_decide_eq_true (exs_at c.ex 52 (f := fun K => decide (PySem.W.nsIn K mainGlobals "is_plan" = some (some (.ref (He.fAd K d_p_is_plan.at_))))) rfl)) l38 c38 k38 (of_decide_eq_true (exs_at c.ex 53 (f := fun K => decide (PySem.W.nsIn K mainGlobals "even" = some (some (.ref (He.fAd K d_p_even.at_))))) rfl)) l39 c39 k39 (of_decide_eq_true (exs_at c.ex 54 (f := fun K => decide (PySem.W.nsIn K mainGlobals "even_holds" = some (some (.ref (He.fAd K d_p_even_holds.at_))))) rfl)) l40 c40 k40 (of_decide_eq_true (exs_at c.ex 55 (f := fun K => decide (PySem.W.nsIn K mainGlobals "law" = some (some (.ref (He.fAd K d_p_law.at_))))) rfl)) l41 c41 k41 (of_decide_eq_true (exs_at c.ex 56 (f := fun K => decide (PySem.W.nsIn K mainGlobals "abs" = some none)) rfl)) (of_decide_eq_true (exs_at c.ex 57 (f := fun K => decide (PySem.W.nsIn K mainGlobals "any" = some none)) rfl)) (of_decide_eq_true (exs_at c.ex 58 (f := fun K => decide (PySem.W.nsIn K mainGlobals "bool" = some none)) rfl)) (of_decide_eq_true (exs_at c.ex 59 (f := fun K => decide (PySem.W.nsIn K mainGlobals "enumerate" = some none)) rfl)) (of_decide_eq_true (exs_at c.ex 60 (f := fun K => decide (PySem.W.nsIn K mainGlobals "int" = some none)) rfl)) (of_decide_eq_true (exs_at c.ex 61 (f := fun K => decide (PySem.W.nsIn K mainGlobals "isinstance" = some none)) rfl)) (of_decide_eq_true (exs_at c.ex 62 (f := fun K => decide (PySem.W.nsIn K mainGlobals "len" = some none)) rfl)) (of_decide_eq_true (exs_at c.ex 63 (f := fun K => decide (PySem.W.nsIn K mainGlobals "list" = some none)) rfl)) (of_decide_eq_true (exs_at c.ex 64 (f := fun K => decide (PySem.W.nsIn K mainGlobals "max" = some none)) rfl)) (of_decide_eq_true (exs_at c.ex 65 (f := fun K => decide (PySem.W.nsIn K mainGlobals "min" = some none)) rfl)) (of_decide_eq_true (exs_at c.ex 66 (f := fun K => decide (PySem.W.nsIn K mainGlobals "range" = some none)) rfl)) (of_decide_eq_true (exs_at c.ex 67 (f := fun K => decide (PySem.W.nsIn K mainGlobals "set" = some none)) rfl)) (of_decide_eq_true (exs_at c.ex 68 (f := fun K => decide (PySem.W.nsIn K mainGlobals "sorted" = some none)) rfl)) (of_decide_eq_true (exs_at c.ex 69 (f := fun K => decide (PySem.W.nsIn K mainGlobals "tuple" = some none)) rfl)) (of_decide_eq_true (exs_at c.ex 70 (f := fun K => decide (PySem.W.nsIn K mainGlobals "zip" = some none)) rfl))
end HeadF
end DL
open PySem PySem.W PySem.Calls PyProof.Rows
set_option maxHeartbeats 0 in
theorem PySem.Challenge.cw_workwishes_k45_whole_none_keeps_more_holds : PySem.Challenge.rw_workwishes_k45_whole_none_keeps_more.Holds := by
  w_on; o_law
  refine HandSHeadRun.head_any (r := OpenLaw.row PySem.Challenge.rw_workwishes_k45_whole_none_keeps_more) (q := view (OpenLaw.row PySem.Challenge.rw_workwishes_k45_whole_none_keeps_more).prog [51]) (H := DL.HeadF.hk) (ob := DL.HeadF.ob) (M := 40000) (loose := DL.HeadF.loose) (d := HandSHeadRun.topDef (OpenLaw.row PySem.Challenge.rw_workwishes_k45_whole_none_keeps_more).prog 51) (kwd := []) DL.HeadF.ob_eq (by kernel_rfl) (fun s => by kernel_rfl) DL.HeadF.run (by kernel_rfl) (by kernel_rfl) (by kernel_rfl) (by rfl) (by first | assumption | decide +kernel) (by decide +kernel) ⟨rfl, rfl, rfl, rfl, rfl, by decide +kernel⟩ ?hw ?hc
  case hw => w_witness2
  case hc =>
    refine DL.walk_TE (l := PySem.Challenge.rw_workwishes_k45_whole_none_keeps_more) (n := 63) (k := 7) (x := "_law_script") (sp := fun K => DL.spOf K DL.M.S_p_law) rfl (by decide) (by kernel_rfl) ⟨rfl, by decide, by decide⟩ ?F (fun K H a ns hl hT hS => DL.law_end (S := DL.M.S_p_law) rfl (fun ns => ns) (fun _ => rfl) (fun ns h => ⟨h, rfl⟩) (fun _ _ _ _ h => h) H a ns hl hT hS)
    intro w mg fa h Y G hmg0
    obtain ⟨K, KX, c⟩ := Y
    have hmg : mg ("law" : PySem.Str) = some (.ref fa) := by
      have e : (HandSHeadRun.topDef (OpenLaw.row PySem.Challenge.rw_workwishes_k45_whole_none_keeps_more).prog 51).name = ("law" : PySem.Str) := by kernel_rfl
      rw [← e]
      exact hmg0
    exact ⟨K, KX, DL.tabs_ok KX c, DL.HeadF.facts KX G hmg c⟩
