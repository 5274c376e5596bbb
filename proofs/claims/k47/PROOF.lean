import PyProof.Rows.All
import Wide.All
import OpenK.AllK
import Wide.FinOn
import HandS.Base
import HandS.Call
import HandS.List
import HandS.Comp
import HandS.Dict
import HandS.Iter
import HandS.Ends
import HandS.Words
import HandS.Lambda
import HandS.EndTab
import HandS.Exc
import HandS.TupAny
import HandS.TupMul
import HandS.Conv
import HandS.Zip
import KE.GoesEnum
import KE.GoesMore
import KE.GoesZip
import HandS.Head0
import HandS.Head1
import HandS.Head2
import HandS.HeadHook4
import HandS.Walk
import HandS.TupLe
import HandS.Wide
import HandS.Style
import HandS.Deep
import HandS.IsInst
import HandS.Text
import HandS.RaiseMore
import PyProof.StrOps2
import HandS.Set
import HandS.SetFor
import HandS.SetTxt0
import HandS.Strs
import HandS.SortOrd
import HandS.SortRule
import HandS.SortInts
import KE.KNestM
import PyProof.Rows.IntBool
import PyProof.CallStr
import PyProof.EqKinds
import PyProof.FactsAll.dict_1
import PyProof.FactsAll.subtypes_3
import PyProof.FactsAll.subtypes_4
import PyProof.Rows.ReprOcc
import PyProof.Rows.RegStrFacts
import PySem.Challenge.RW_workwishes_k47_changes_of_anything
set_option Elab.async false
set_option linter.all false
set_option maxRecDepth 100000
set_option maxHeartbeats 4000000
namespace DL
open PySem PySem.Spec PyProof.Rows L2
inductive D where
  | non | bl (b : Bool) | int (i : Int) | str (s : Str) | tup (ds : List D) | lst (ds : List D) | scr (ds : List D) | dct (kvs : List (Key × Key)) | ref (n : Nat) | fn (a : Addr) (io : List Addr) (F : Hp) | exc (c : Str) (ns : List Str) (ds : List D)
inductive Cel where
  | lst (ds : List D) | dead | ins (C : Str) (fs : List (Str × D)) | dct (l : Option Obj) (kvs : List (Key × Key))
abbrev Sto := List Cel
abbrev En := List (Option D)
/-- a tuple whose object is known to have no dict -/
def SqE (K : PySem.W.Frag) (F : Hp) (a : Addr) (xs : List V) : Prop := (∃ o, F a = some (.frz o (.tup xs)) ∧ o.dict = none) ∨
  ∃ (o : Obj) (its : Array Value) (n : Nat), K.lookup a = some o ∧ o.cls = .type "tuple" ∧ o.data = .seq its n ∧ its.size ≤ sizeLine ∧ Vals xs its.toList ∧ o.dict = none
theorem SqE.t {K : PySem.W.Frag} {F : Hp} {a : Addr} {xs : List V} (s : SqE K F a xs) : SqT K F a xs := by
  rcases s with ⟨o, s, _⟩ | ⟨o, its, n, h1, h2, h3, h4, h5, _⟩
  · exact .inl (.inr ⟨o, s⟩)
  · exact .inr ⟨o, its, n, h1, h2, h3, h4, h5⟩
theorem SqE.mono {K : PySem.W.Frag} {F F' : Hp} {a : Addr} {xs : List V} (h : ∀ a o, F a = some o → F' a = some o) (s : SqE K F a xs) : SqE K F' a xs := by
  rcases s with ⟨o, s, d⟩ | s
  · exact .inl ⟨o, h _ _ s, d⟩
  · exact .inr s
/-- an exception's object at a, its class, its dict -/
def exV (C : Addr) (d : Option Addr) (a : Addr) : HO := .ext fun h => ∃ (oe : Obj) (vs : Array Value), h.get? a = some oe ∧ Zc (.ref C) d oe ∧ oe.data = .fields vs
def ExD (F : Hp) (d : Option Addr) (fv : List (Str × V)) : Prop := (d = none ∧ fv = []) ∨ ∃ dd, d = some dd ∧ F dd = some (.xd fv)
theorem ExD.mono {F F' : Hp} {d : Option Addr} {fv : List (Str × V)} (h : ∀ a o, F a = some o → F' a = some o) (x : ExD F d fv) : ExD F' d fv := by
  rcases x with x | ⟨dd, e, z⟩
  · exact .inl x
  · exact .inr ⟨dd, e, h _ _ z⟩
mutual
inductive Den (K : PySem.W.Frag) (io : List Addr) (F : Hp) : V → D → Prop
  | non : Den K io F .non .non
  | bl (b : Bool) : Den K io F (.bl b) (.bl b)
  | int (i : Int) : Den K io F (.int i) (.int i)
  | str (x : Str) : Den K io F (.str x) (.str x)
  | tup {a : Addr} {xs : List V} {ds : List D} : SqE K F a xs → DenL K io F xs ds → ds.length ≤ sizeLine → Den K io F (.ref a) (.tup ds)
  | lst {a : Addr} {xs : List V} {ds : List D} : F a = some (.lst xs) → DenL K io F xs ds → ds.length ≤ sizeLine → Den K io F (.ref a) (.lst ds)
  | scr {a : Addr} {xs : List V} {ds : List D} : SqL K F a xs → DenL K io F xs ds → ds.length ≤ sizeLine → Den K io F (.ref a) (.scr ds)
  | dct {a : Addr} {kvs : List (Key × Key)} : F a = some (.dK (kvs.map fun p => (p.1, kV p.2))) → Den K io F (.ref a) (.dct kvs)
  | ref {a : Addr} {n : Nat} : io[n]? = some a → Den K io F (.ref a) (.ref n)
  | fn {a : Addr} {io0 : List Addr} {F0 : Hp} : (∀ (n : Nat) b, io0[n]? = some b → io[n]? = some b) → (∀ b o, F0 b = some o → F b = some o) → Den K io F (.ref a) (.fn a io0 F0)
  | exc {a C : Addr} {c : Str} {d : Option Addr} {fv : List (Str × V)} {ns : List Str} {vs : List V} {ds : List D} : PySem.W.nsIn K mainGlobals c = some (some (.ref C)) → F a = some (exV C d a) → ExD F d fv → ns = fv.map (·.1) → vs = fv.map (·.2) → DenL K io F vs ds → Den K io F (.ref a) (.exc c ns ds)
inductive DenL (K : PySem.W.Frag) (io : List Addr) (F : Hp) : List V → List D → Prop
  | nil : DenL K io F [] []
  | cons {v : V} {vs : List V} {d : D} {ds : List D} : Den K io F v d → DenL K io F vs ds → DenL K io F (v :: vs) (d :: ds)
end
section
variable {K : PySem.W.Frag} {io io' : List Addr} {F F' : Hp}
theorem SqT_mono {a : Addr} {xs : List V} (h : ∀ a o, F a = some o → F' a = some o) (s : SqT K F a xs) : SqT K F' a xs := by
  rcases s with (s | ⟨o, s⟩) | s
  · exact .inl (.inl (h _ _ s))
  · exact .inl (.inr ⟨o, h _ _ s⟩)
  · exact .inr s
theorem SqL_mono {a : Addr} {xs : List V} (h : ∀ a o, F a = some o → F' a = some o) (s : SqL K F a xs) : SqL K F' a xs := by
  rcases s with (s | ⟨o, s⟩) | s
  · exact .inl (.inl (h _ _ s))
  · exact .inl (.inr ⟨o, h _ _ s⟩)
  · exact .inr s
mutual
theorem Den.mono (hi : ∀ (n : Nat) a, io[n]? = some a → io'[n]? = some a) (h : ∀ a o, F a = some o → F' a = some o) : ∀ {v : V} {d : D}, Den K io F v d → Den K io' F' v d
  | _, _, .non => .non
  | _, _, .bl b => .bl b
  | _, _, .int i => .int i
  | _, _, .str x => .str x
  | _, _, .tup s r z => .tup (s.mono h) (DenL.mono hi h r) z
  | _, _, .lst s r z => .lst (h _ _ s) (DenL.mono hi h r) z
  | _, _, .scr s r z => .scr (SqL_mono h s) (DenL.mono hi h r) z
  | _, _, .dct e => .dct (h _ _ e)
  | _, _, .ref e => .ref (hi _ _ e)
  | _, _, .fn a b => .fn (fun n c e => hi n c (a n c e)) (fun c o e => h c o (b c o e))
  | _, _, .exc n e x a b r => .exc n (h _ _ e) (x.mono h) a b (DenL.mono hi h r)
theorem DenL.mono (hi : ∀ (n : Nat) a, io[n]? = some a → io'[n]? = some a) (h : ∀ a o, F a = some o → F' a = some o) : ∀ {vs : List V} {ds : List D}, DenL K io F vs ds → DenL K io' F' vs ds
  | _, _, .nil => .nil
  | _, _, .cons a b => .cons (Den.mono hi h a) (DenL.mono hi h b)
end
theorem DenL.length : ∀ {vs : List V} {ds : List D}, DenL K io F vs ds → vs.length = ds.length
  | _, _, .nil => rfl
  | _, _, .cons _ r => by rw [List.length_cons, List.length_cons, r.length]
theorem DenL.get : ∀ {vs : List V} {ds : List D} {i : Nat} {d : D}, DenL K io F vs ds → ds[i]? = some d → ∃ v, vs[i]? = some v ∧ Den K io F v d
  | _, _, _, _, .nil, e => by simp at e
  | _, _, 0, _, .cons r _, e => by simp at e; subst e; exact ⟨_, rfl, r⟩
  | _, _, i + 1, d, .cons _ t, e => by
    obtain ⟨u, h1, h2⟩ := DenL.get (i := i) (d := d) t (by simpa using e)
    exact ⟨u, by simpa using h1, h2⟩
theorem DenL.append : ∀ {vs ws : List V} {ds es : List D}, DenL K io F vs ds → DenL K io F ws es → DenL K io F (vs ++ ws) (ds ++ es)
  | _, _, _, _, .nil, s => s
  | _, _, _, _, .cons r t, s => .cons r (DenL.append t s)
theorem DenL.take : ∀ {vs : List V} {ds : List D} (n : Nat), DenL K io F vs ds → DenL K io F (vs.take n) (ds.take n)
  | _, _, 0, _ => by rw [List.take_zero, List.take_zero]; exact .nil
  | _, _, _ + 1, .nil => .nil
  | _, _, n + 1, .cons r t => .cons r (DenL.take n t)
theorem DenL.drop : ∀ {vs : List V} {ds : List D} (n : Nat), DenL K io F vs ds → DenL K io F (vs.drop n) (ds.drop n)
  | _, _, 0, r => r
  | _, _, _ + 1, .nil => .nil
  | _, _, n + 1, .cons _ t => DenL.drop n t
theorem DenL.rev : ∀ {vs : List V} {ds : List D}, DenL K io F vs ds → DenL K io F vs.reverse ds.reverse
  | _, _, .nil => .nil
  | _, _, .cons r t => by rw [List.reverse_cons, List.reverse_cons]; exact (DenL.rev t).append (.cons r .nil)
theorem DenL.setAt : ∀ {vs : List V} {ds : List D} (i : Nat) {v : V} {d : D}, Den K io F v d → DenL K io F vs ds → DenL K io F (vs.set i v) (ds.set i d)
  | _, _, _, _, _, _, .nil => .nil
  | _, _, 0, _, _, q, .cons _ t => .cons q t
  | _, _, i + 1, _, _, q, .cons r t => .cons r (DenL.setAt i q t)
theorem DenL.erase : ∀ {vs : List V} {ds : List D} (i : Nat), DenL K io F vs ds → DenL K io F (vs.eraseIdx i) (ds.eraseIdx i)
  | _, _, _, .nil => .nil
  | _, _, 0, .cons _ t => t
  | _, _, i + 1, .cons r t => .cons r (DenL.erase i t)
theorem DenL.none_of {vs : List V} {ds : List D} {i : Nat} (r : DenL K io F vs ds) (e : ds[i]? = none) : vs[i]? = none := by
  have h := r.length
  have h2 := List.getElem?_eq_none_iff.mp e
  exact List.getElem?_eq_none_iff.mpr (by omega)
theorem DenL.replicate {v : V} {d : D} (h : Den K io F v d) : ∀ n : Nat, DenL K io F (List.replicate n v) (List.replicate n d)
  | 0 => .nil
  | n + 1 => by rw [List.replicate_succ, List.replicate_succ]; exact .cons h (DenL.replicate h n)
theorem DenL.flat {vs : List V} {ds : List D} (h : DenL K io F vs ds) : ∀ n : Nat, DenL K io F (List.replicate n vs).flatten (List.replicate n ds).flatten
  | 0 => .nil
  | n + 1 => by rw [List.replicate_succ, List.replicate_succ, List.flatten_cons, List.flatten_cons]; exact h.append (DenL.flat h n)
end
def lamNames : List Str := ["weights_of", "hoped_weights"]
def lamQ (x : Str) : Str := x ++ ".<locals>." ++ "<lambda>"
def tabsOf (K : PySem.W.Frag) : List (Addr × Str) := lamNames.filterMap fun x => (PySem.W.tabIn K x).map fun p => (p.2, lamQ x)
abbrev DenF (K : PySem.W.Frag) (io : List Addr) (F : Hp) : List (Str × V) → List (Str × D) → Prop := Paired fun p q => p.1 = q.1 ∧ Den K io F p.2 q.2
/-- a dict of one's own: open, or locked while it is walked -/
def DLk (l : Option Obj) (kvs : List (Key × Key)) (u : HO) : Prop := (l = none ∧ u = .dK (kvs.map fun p => (p.1, kV p.2))) ∨ ∃ o, l = some o ∧ u = .frz o (.dK (kvs.map fun p => (p.1, kV p.2)))
def CelOk (K : PySem.W.Frag) (H : Hp) (io : List Addr) (F : Hp) (a : Addr) : Cel → Prop
  | .lst ds => F a = none ∧ ds.length ≤ sizeLine ∧ ∃ vs, H a = some (.lst vs) ∧ DenL K io F vs ds
  | .dead => True
  | .ins C fs => F a = none ∧ ∃ cc dx fv, PySem.W.nsIn K mainGlobals C = some (some (.ref cc)) ∧ H a = some (.ins cc dx fv) ∧ DenF K io F fv fs
  | .dct b kvs => F a = none ∧ kvs.length ≤ sizeLine ∧ ∃ u, H a = some u ∧ DLk b kvs u
structure RelH (K : PySem.W.Frag) (H : Hp) (io : List Addr) (F : Hp) (st : Sto) : Prop where
  sub : ∀ a o, F a = some o → H a = some o
  len : io.length = st.length
  nd : io.Nodup
  there : ∀ a ∈ io, ∃ o, H a = some o
  cel : ∀ (n : Nat) c a, st[n]? = some c → io[n]? = some a → CelOk K H io F a c
  tab : ∀ p ∈ tabsOf K, F p.1 = none ∧ p.1 ∉ io ∧ ∃ ps, H p.1 = some (.tbl ps) ∧ TriplesOk ps.toList ∧ ∀ (pos : Pos) (cv : Value), codeAmong pos ps.toList = some cv → ∃ c, cv = .ref c ∧ F c = some (LamX.CodeO c p.2)
/-- from one state to a later one -/
structure Stp (H : Hp) (io : List Addr) (F H' : Hp) (io' : List Addr) (F' : Hp) : Prop where
  ext : ∃ more, io' = io ++ more ∧ ∀ a ∈ more, H a = none
  fr : ∀ a o, F a = some o → F' a = some o
  keep : ∀ a o, H a = some o → (∀ ps, o ≠ .tbl ps) → a ∉ io → H' a = some o
  dom : ∀ a o, H a = some o → ∃ o', H' a = some o'
  fnw : ∀ a o, F' a = some o → F a = some o ∨ H a = none ∨ a ∈ io
/-- whence an exception's wish looks on: the state at a def's, a try's or a suite's start -/
class Bs where
  H : Hp
  io : List Addr
  F : Hp
structure Rel [B : Bs] (K : PySem.W.Frag) (σ : L2.St) (H : Hp) (env : En) (io : List Addr) (F : Hp) (st : Sto) : Prop extends RelH K H io F st where
  sl : σ.length = env.length
  slot : ∀ (i : Nat) d, env[i]? = some (some d) → ∃ v, σ[i]? = some (some v) ∧ Den K io F v d
  bs : Stp B.H B.io B.F H io F
section
variable {K : PySem.W.Frag} {io io' io1 io2 : List Addr} {F F' F1 F2 H H' H1 H2 : Hp} {st st' : Sto} {σ : L2.St} {env : En}
theorem Stp.ix (s : Stp H io F H' io' F') (n : Nat) (a : Addr) (h : io[n]? = some a) : io'[n]? = some a := by
  obtain ⟨more, e, _⟩ := s.ext
  subst e
  rw [List.getElem?_append_left (List.getElem?_eq_some_iff.mp h).1]
  exact h
theorem Stp.den (s : Stp H io F H' io' F') {v : V} {d : D} (h : Den K io F v d) : Den K io' F' v d := h.mono s.ix s.fr
theorem Stp.denL (s : Stp H io F H' io' F') {v : List V} {d : List D} (h : DenL K io F v d) : DenL K io' F' v d := h.mono s.ix s.fr
theorem Stp.refl : Stp H io F H io F := ⟨⟨[], by simp, fun _ h => by cases h⟩, fun _ _ h => h, fun _ _ h _ _ => h, fun _ o h => ⟨o, h⟩, fun _ _ h => .inl h⟩
theorem Stp.none_of (s : Stp H io F H' io' F') {a : Addr} (h : H' a = none) : H a = none := by
  cases e : H a with
  | none => rfl
  | some o =>
    obtain ⟨o', h'⟩ := s.dom a o e
    rw [h] at h'; cases h'
theorem Stp.trans (s : Stp H io F H1 io1 F1) (t : Stp H1 io1 F1 H2 io2 F2) : Stp H io F H2 io2 F2 := by
  obtain ⟨m1, e1, n1⟩ := s.ext
  obtain ⟨m2, e2, n2⟩ := t.ext
  refine ⟨⟨m1 ++ m2, by rw [e2, e1, List.append_assoc], fun a ha => ?_⟩, fun a o h => t.fr _ _ (s.fr _ _ h), fun a o h hn ho => ?_, fun a o h => ?_, fun a o h => ?_⟩
  · rcases List.mem_append.mp ha with h | h
    · exact n1 a h
    · exact s.none_of (n2 a h)
  · have h1 := s.keep a o h hn ho
    refine t.keep a o h1 hn fun hm => ?_
    rw [e1] at hm
    rcases List.mem_append.mp hm with h2 | h2
    · exact ho h2
    · have := n1 a h2
      rw [h] at this; cases this
  · obtain ⟨o1, h1⟩ := s.dom a o h
    exact t.dom a o1 h1
  · rcases t.fnw a o h with h1 | h1 | h1
    · exact s.fnw a o h1
    · exact .inr (.inl (s.none_of h1))
    · rw [e1] at h1
      rcases List.mem_append.mp h1 with h2 | h2
      · exact .inr (.inr h2)
      · exact .inr (.inl (n1 a h2))
/-- an object beside frozen ones and the store stays beside, as it is -/
theorem Stp.beside (s : Stp H io F H' io' F') {p : Addr} {o : HO} (h : H p = some o) (hn : ∀ ps, o ≠ .tbl ps) (hF : F p = none) (hio : p ∉ io) : H' p = some o ∧ F' p = none ∧ p ∉ io' := by
  refine ⟨s.keep p o h hn hio, ?_, fun hm => ?_⟩
  · cases e : F' p with
    | none => rfl
    | some u =>
      rcases s.fnw p u e with h1 | h1 | h1
      · rw [hF] at h1; cases h1
      · rw [h] at h1; cases h1
      · exact absurd h1 hio
  · obtain ⟨more, e, n⟩ := s.ext
    rw [e] at hm
    rcases List.mem_append.mp hm with h1 | h1
    · exact hio h1
    · have := n p h1
      rw [h] at this; cases this
/-- an object that was not there at first may change -/
theorem Stp.own (s : Stp H io F H' io' F') {p : Addr} {o : HO} (h : H p = none) : Stp H io F (upd H' p o) io' F' :=
  ⟨s.ext, s.fr, fun a u e hn ho => by rw [upd_ne (fun z => by subst z; rw [h] at e; cases e)]; exact s.keep a u e hn ho, fun a u e => by
    by_cases z : a = p
    · subst z; exact ⟨o, upd_same⟩
    · rw [upd_ne z]; exact s.dom a u e, s.fnw⟩
/-- .. and be frozen -/
theorem Stp.frz (s : Stp H io F H' io' F') {p : Addr} {o : HO} (h : H p = none) (hF : F' p = none) : Stp H io F H' io' (upd F' p o) :=
  ⟨s.ext, fun a u e => by
    have := s.fr a u e
    rw [upd_ne (fun z => by subst z; rw [hF] at this; cases this)]
    exact this, s.keep, s.dom, fun a u e => by
    by_cases z : a = p
    · subst z; exact .inr (.inl h)
    · rw [upd_ne z] at e; exact s.fnw a u e⟩
/-- .. or a cell -/
theorem Stp.cell (s : Stp H io F H' io' F') {p : Addr} (h : H p = none) : Stp H io F H' (io' ++ [p]) F' := by
  obtain ⟨more, e, n⟩ := s.ext
  refine ⟨⟨more ++ [p], by rw [e, List.append_assoc], fun a ha => ?_⟩, s.fr, s.keep, s.dom, s.fnw⟩
  rcases List.mem_append.mp ha with h1 | h1
  · exact n a h1
  · simp at h1; subst h1; exact h
theorem Rel.next [Bs] (R : Rel K σ H env io F st) (s : Stp H io F H' io' F') (r : RelH K H' io' F' st') : Rel K σ H' env io' F' st' :=
  { r with sl := R.sl, bs := R.bs.trans s, slot := fun i d e => let ⟨v, h1, h2⟩ := R.slot i d e; ⟨v, h1, s.den h2⟩ }
theorem RelH.notF (R : RelH K H io F st) {a : Addr} (h : H a = none) : F a = none := by
  cases e : F a with
  | none => rfl
  | some o => have := R.sub _ _ e; rw [h] at this; cases this
theorem RelH.notIo (R : RelH K H io F st) {a : Addr} (h : H a = none) : a ∉ io := fun hm => by
  obtain ⟨o, e⟩ := R.there a hm
  rw [h] at e; cases e
theorem CelOk.next {a : Addr} {c : Cel} (s : Stp H io F H' io' F') (e : H' a = H a) (hf : F a = none → F' a = none) (h : CelOk K H io F a c) : CelOk K H' io' F' a c := by
  cases c with
  | lst ds =>
    obtain ⟨h1, h2, vs, h3, h4⟩ := h
    exact ⟨hf h1, h2, vs, by rw [e]; exact h3, s.denL h4⟩
  | dead => trivial
  | ins C fs =>
    obtain ⟨h1, cc, dx, fv, hc, h3, h4⟩ := h
    exact ⟨hf h1, cc, dx, fv, hc, by rw [e]; exact h3, Paired.mapP h4 fun p q z => ⟨z.1, s.den z.2⟩⟩
  | dct b kvs =>
    obtain ⟨h1, h2, u, h3, h4⟩ := h
    exact ⟨hf h1, h2, u, by rw [e]; exact h3, h4⟩
theorem same_upd {p : Addr} {o : HO} (h : H p = none) : ∀ a u, H a = some u → upd H p o a = some u := fun b x e => by
  rw [upd_ne (ne_of_none e h)]
  exact e
/-- a new frozen object -/
theorem Stp.laid {p : Addr} {o : HO} (h : H p = none) (hF : ∀ a o, F a = some o → H a = some o) : Stp H io F (upd H p o) io (upd F p o) :=
  ⟨⟨[], by simp, fun _ h => by cases h⟩, fun a u e => by rw [upd_ne (fun z => by subst z; have := hF _ _ e; rw [h] at this; cases this)]; exact e, fun a u e _ _ => same_upd h a u e, fun a u e => ⟨u, same_upd h a u e⟩, fun a u e => by
    by_cases z : a = p
    · subst z; exact .inr (.inl h)
    · rw [upd_ne z] at e; exact .inl e⟩
theorem RelH.laid (R : RelH K H io F st) {p : Addr} {o : HO} (h : H p = none) : RelH K (upd H p o) io (upd F p o) st := by
  refine ⟨fun a u e => ?_, R.len, R.nd, fun a ha => ?_, fun n c a h1 h2 => ?_, fun q hq => ?_⟩
  rotate_right
  · obtain ⟨t1, t2, ps, t3, t4, t5⟩ := R.tab q hq
    have ne : q.1 ≠ p := fun z => by rw [z, h] at t3; cases t3
    refine ⟨by rw [upd_ne ne]; exact t1, t2, ps, by rw [upd_ne ne]; exact t3, t4, fun pos cv hc => ?_⟩
    obtain ⟨c, e1, e2⟩ := t5 pos cv hc
    refine ⟨c, e1, ?_⟩
    rw [upd_ne (fun z => by have := R.sub _ _ e2; rw [z, h] at this; cases this)]
    exact e2
  · by_cases z : a = p
    · subst z; rw [upd_same] at e ⊢; exact e
    · rw [upd_ne z] at e ⊢; exact R.sub _ _ e
  · obtain ⟨u, e⟩ := R.there a ha
    exact ⟨u, same_upd h a u e⟩
  · have ne : a ≠ p := fun z => by subst z; exact R.notIo h (List.mem_of_getElem? h2)
    exact (R.cel n c a h1 h2).next (Stp.laid h R.sub) (upd_ne ne) fun hf => by rw [upd_ne ne]; exact hf
/-- a new tracked object that is neither frozen nor in the store -/
theorem Stp.aside {p : Addr} {o : HO} (h : H p = none) : Stp H io F (upd H p o) io F :=
  ⟨⟨[], by simp, fun _ h => by cases h⟩, fun a u e => e, fun a u e _ _ => same_upd h a u e, fun a u e => ⟨u, same_upd h a u e⟩, fun _ _ e => .inl e⟩
theorem RelH.aside (R : RelH K H io F st) {p : Addr} {o : HO} (h : H p = none) : RelH K (upd H p o) io F st := by
  refine ⟨fun a u e => same_upd h _ _ (R.sub _ _ e), R.len, R.nd, fun a ha => ?_, fun n c a h1 h2 => ?_, fun q hq => ?_⟩
  rotate_right
  · obtain ⟨t1, t2, ps, t3, t4, t5⟩ := R.tab q hq
    exact ⟨t1, t2, ps, same_upd h _ _ t3, t4, t5⟩
  · obtain ⟨u, e⟩ := R.there a ha
    exact ⟨u, same_upd h a u e⟩
  · have ne : a ≠ p := fun z => by subst z; exact R.notIo h (List.mem_of_getElem? h2)
    exact (R.cel n c a h1 h2).next (Stp.aside h) (upd_ne ne) fun hf => hf
/-- a tracked object beside the store changes -/
theorem RelH.side (R : RelH K H io F st) {p : Addr} {o o0 : HO} (hp : H p = some o0) (hn : ∀ ps, o0 ≠ .tbl ps) (hf : F p = none) (hio : p ∉ io) : RelH K (upd H p o) io F st := by
  refine ⟨fun a u e => ?_, R.len, R.nd, fun a ha => ?_, fun n c a h1 h2 => ?_, fun q hq => ?_⟩
  rotate_right
  · obtain ⟨t1, t2, ps, t3, t4, t5⟩ := R.tab q hq
    exact ⟨t1, t2, ps, by rw [upd_ne (fun z => by rw [z, hp] at t3; cases t3; exact hn _ rfl)]; exact t3, t4, t5⟩
  · rw [upd_ne (fun z => by subst z; rw [hf] at e; cases e)]
    exact R.sub _ _ e
  · rw [upd_ne (fun z => by subst z; exact hio ha)]
    exact R.there a ha
  · have ne : a ≠ p := fun z => by subst z; exact hio (List.mem_of_getElem? h2)
    have := R.cel n c a h1 h2
    cases c with
    | lst ds => obtain ⟨q1, q2, vs, q3, q4⟩ := this; exact ⟨q1, q2, vs, by rw [upd_ne ne]; exact q3, q4⟩
    | dead => trivial
    | ins C fs => obtain ⟨q1, cc, dx, fv, qc, q3, q4⟩ := this; exact ⟨q1, cc, dx, fv, qc, by rw [upd_ne ne]; exact q3, q4⟩
    | dct b kvs => obtain ⟨q1, q2, u, q3, q4⟩ := this; exact ⟨q1, q2, u, by rw [upd_ne ne]; exact q3, q4⟩
/-- a tracked object beside the store is frozen -/
theorem RelH.frz (R : RelH K H io F st) {p : Addr} {o : HO} (hp : H p = some o) (hn : ∀ ps, o ≠ .tbl ps) (hf : F p = none) (hio : p ∉ io) : RelH K H io (upd F p o) st := by
  have fr : ∀ a u, F a = some u → upd F p o a = some u := fun a u e => by
    rw [upd_ne (fun z => by subst z; rw [hf] at e; cases e)]; exact e
  refine ⟨fun a u e => ?_, R.len, R.nd, R.there, fun n c a h1 h2 => ?_, fun q hq => ?_⟩
  rotate_right
  · obtain ⟨t1, t2, ps, t3, t4, t5⟩ := R.tab q hq
    refine ⟨by rw [upd_ne (fun z => by rw [z, hp] at t3; cases t3; exact hn _ rfl)]; exact t1, t2, ps, t3, t4, fun pos cv hc => ?_⟩
    obtain ⟨c, e1, e2⟩ := t5 pos cv hc
    exact ⟨c, e1, fr _ _ e2⟩
  · by_cases z : a = p
    · subst z; rw [upd_same] at e; cases e; exact hp
    · rw [upd_ne z] at e; exact R.sub _ _ e
  · have ne : a ≠ p := fun z => by subst z; exact hio (List.mem_of_getElem? h2)
    have := R.cel n c a h1 h2
    cases c with
    | lst ds => obtain ⟨q1, q2, vs, q3, q4⟩ := this; exact ⟨by rw [upd_ne ne]; exact q1, q2, vs, q3, q4.mono (fun _ _ h => h) fr⟩
    | dead => trivial
    | ins C fs => obtain ⟨q1, cc, dx, fv, qc, q3, q4⟩ := this; exact ⟨by rw [upd_ne ne]; exact q1, cc, dx, fv, qc, q3, Paired.mapP q4 fun _ _ z => ⟨z.1, z.2.mono (fun _ _ h => h) fr⟩⟩
    | dct b kvs => obtain ⟨q1, q2, u, q3, q4⟩ := this; exact ⟨by rw [upd_ne ne]; exact q1, q2, u, q3, q4⟩
/-- .. becomes a cell -/
theorem RelH.adopt (R : RelH K H io F st) {p : Addr} {c : Cel} (hp : ∃ o, H p = some o ∧ ∀ ps, o ≠ .tbl ps) (hio : p ∉ io) (hc : CelOk K H (io ++ [p]) F p c) : RelH K H (io ++ [p]) F (st ++ [c]) := by
  have ix : ∀ (n : Nat) a, io[n]? = some a → (io ++ [p])[n]? = some a := fun n a h => by
    rw [List.getElem?_append_left (List.getElem?_eq_some_iff.mp h).1]; exact h
  refine ⟨R.sub, by rw [List.length_append, List.length_append, R.len]; rfl, List.nodup_append.mpr ⟨R.nd, by simp, fun a ha b hb => ?_⟩, fun a ha => ?_, fun n d a h1 h2 => ?_, fun q hq => ?_⟩
  rotate_right
  · obtain ⟨t1, t2, ps, t3, t4, t5⟩ := R.tab q hq
    refine ⟨t1, fun hm => ?_, ps, t3, t4, t5⟩
    rcases List.mem_append.mp hm with h | h
    · exact t2 h
    · simp at h
      obtain ⟨o, h1, h2⟩ := hp
      rw [← h, t3] at h1
      cases h1
      exact h2 _ rfl
  · simp at hb
    subst hb
    intro e
    subst e
    exact hio ha
  · rcases List.mem_append.mp ha with h | h
    · exact R.there a h
    · simp at h
      subst h
      obtain ⟨o, h1, _⟩ := hp
      exact ⟨o, h1⟩
  · by_cases hn : n < st.length
    · rw [List.getElem?_append_left hn] at h1
      rw [List.getElem?_append_left (by rw [R.len]; exact hn)] at h2
      have := R.cel n d a h1 h2
      cases d with
      | lst ds => obtain ⟨q1, q2, vs, q3, q4⟩ := this; exact ⟨q1, q2, vs, q3, q4.mono ix fun _ _ h => h⟩
      | dead => trivial
      | ins C fs => obtain ⟨q1, cc, dx, fv, qc, q3, q4⟩ := this; exact ⟨q1, cc, dx, fv, qc, q3, Paired.mapP q4 fun _ _ z => ⟨z.1, z.2.mono ix fun _ _ h => h⟩⟩
      | dct b kvs => obtain ⟨q1, q2, u, q3, q4⟩ := this; exact ⟨q1, q2, u, q3, q4⟩
    · have e : n = st.length := by
        have := (List.getElem?_eq_some_iff.mp h1).1
        rw [List.length_append, List.length_singleton] at this
        omega
      subst e
      rw [List.getElem?_append_right (Nat.le_refl _), Nat.sub_self] at h1
      rw [← R.len, List.getElem?_append_right (Nat.le_refl _), Nat.sub_self] at h2
      cases h1
      cases h2
      exact hc
theorem RelH.newRef (R : RelH K H io F st) {p : Addr} : Den K (io ++ [p]) F (.ref p) (.ref st.length) := .ref (by rw [← R.len, List.getElem?_append_right (Nat.le_refl _), Nat.sub_self]; rfl)
end
end DL
namespace DL
open PySem PySem.Spec PyProof.Rows L2
abbrev tobj (its : List Value) : Obj := { cls := .type "tuple", data := .seq its.toArray }
abbrev XtK (H : Hp) (Q : VK) (vs : List V) : Prop := ∀ (p : Addr) (o : Obj), H p = none → o.dict = none → Q (.ref p) (upd H p (.frz o (.tup vs)))
section
variable {X : Cx} {pins : List (Addr × Obj)} {σ : L2.St} {H : Hp} {s : Shared} {xs : List V} {its : List Value} {Q : VK}
theorem new_tup (I : Inv X pins σ H s) (z : xs.length ≤ sizeLine) (r : Vals xs its) (q : XtK H Q xs) : EP X pins σ Q (.ref s.heap.objs.size) { s with heap := s.heap.push (tobj its) } :=
  ⟨.ref s.heap.objs.size, upd H s.heap.objs.size (.frz (tobj its) (.tup xs)), I.laid (t' := s.toks) (fun _ _ e => Heap.get?_push_of_some _ e) (Nat.le_refl _) ⟨Heap.get?_push_size _ rfl, z, its, r, IsTup.new _ _⟩, rfl, q _ _ (I.hok.fresh (Nat.le_refl _)) rfl⟩
def tTupX (t : TA) : TE := fun σ H Q => t σ H fun xs H1 => xs.length ≤ sizeLine ∧ XtK H1 Q xs
theorem pe_tupX {es : List Expr} {t : TA} {k} {pos : Pos} (h : PA X es t) : PE X (.Tuple es k pos) (tTupX t) :=
  ⟨fun pins s σ H Q I hq => wpAny_Tuple_spliced (thn (h.run pos pins s σ H _ I hq) fun us s1 ⟨xs, H1, I1, r, z, q⟩ => ⟨by rw [← r.length]; exact z, new_tup I1 z r q⟩)⟩
def rCatX (K : PySem.W.Frag) : V → V → Hp → VK → Prop := fun x y H Q => ∃ a b xs ys, x = .ref a ∧ y = .ref b ∧ SqT K H a xs ∧ SqT K H b ys ∧ xs.length + ys.length ≤ sizeLine ∧
  (xs = [] → Q (.ref b) H) ∧ (xs ≠ [] → ys = [] → Q (.ref a) H) ∧ (xs ≠ [] → ys ≠ [] → XtK H Q (xs ++ ys))
theorem op_catX : OpR X (binaryOp .Add) (rCatX X.K) := fun pins s σ H x y v u Q I rx ry h => by
  obtain ⟨a, b, xs, ys, rfl, rfl, ha, hb, hz, q0, q1, q2⟩ := h
  cases rx; cases ry
  obtain ⟨t1, r1, p1, _⟩ := I.tuple ha; obtain ⟨t2, r2, p2, _⟩ := I.tuple hb
  cases xs with
  | nil => cases r1; exact cat_tup0 p1 p2 ⟨.ref b, H, I, rfl, q0 rfl⟩
  | cons x xs =>
    have n1 : t1 ≠ [] := fun e => nomatch (r1.nil_iff.mp e)
    refine HT.cat_tup p1 p2 n1 (fun z => ⟨.ref a, H, I, rfl, q1 (fun e => nomatch e) (r2.nil_iff.mp z)⟩) (fun z => new_tup I (by rw [List.length_append]; exact hz) (r1.append r2) (q2 (fun e => nomatch e) fun w => z (r2.nil_iff.mpr w))) ?_
    rw [← r1.length, ← r2.length]; exact hz
def rSlX (K : PySem.W.Frag) : V → Option Int → Option Int → Hp → VK → Prop := fun x lo hi H Q => ∃ a xs, x = .ref a ∧ SqT K H a xs ∧
  (HT.sIx xs.length 0 lo = 0 ∧ HT.sIx xs.length xs.length hi = xs.length → Q (.ref a) H) ∧ (¬ (HT.sIx xs.length 0 lo = 0 ∧ HT.sIx xs.length xs.length hi = xs.length) → XtK H Q (cutV xs lo hi))
theorem sl_tupX : SlR X (rSlX X.K) := fun pins s σ H x v vl vu lo hi sl Q I rx hs pl pu h => by
  obtain ⟨a, xs, rfl, hx, q1, q2⟩ := h
  cases rx
  obtain ⟨its, r, ht, hz⟩ := I.tuple hx
  have hl : its.toArray.size = xs.length := r.length.symm
  by_cases hw : HT.sIx xs.length 0 lo = 0 ∧ HT.sIx xs.length xs.length hi = xs.length
  · exact ⟨"tuple", _, PyProof.Rows.slot_tuple_getitem.lookup, ht.typeIs, getItem_tuple_whole ht hs pl pu (by rw [hl]; exact hw) ⟨.ref a, H, I, rfl, q1 hw⟩⟩
  · refine ⟨"tuple", _, PyProof.Rows.slot_tuple_getitem.lookup, ht.typeIs, HT.getItem_tuple_cut ht hs pl pu (by rw [hl]; exact hw) ?_ (by rw [hl]; exact hz)⟩
    rw [hl]
    exact new_tup I (Nat.le_trans (cutV_length xs lo hi) hz) ((r.drop (HT.sIx xs.length 0 lo)).take (HT.sIx xs.length xs.length hi - HT.sIx xs.length 0 lo)) (q2 hw)
theorem call_tupleX : CallR X (.type "tuple") (fun xs H Q => ∃ p ys, xs = [.ref p] ∧ ((SqL X.K H p ys ∧ XtK H Q ys) ∨ (SqT X.K H p ys ∧ Q (.ref p) H))) := fun pins s σ H xs us Q I r h => by
  obtain ⟨p, ys, rfl, h⟩ := h
  obtain ⟨u, rfl, rx⟩ := vals1 r
  cases rx
  rcases h with ⟨hq, q⟩ | ⟨hq, q⟩
  · obtain ⟨its, r2, pl, hz⟩ := I.list hq
    have hl := r2.length
    exact call_tuple_list pl.isList (fun h' kp => new_tup (I.kept (t' := s.toks) kp) hz r2 q) (by simp only [List.size_toArray] <;> omega)
  · obtain ⟨its, r2, pl, hz⟩ := I.tuple hq
    exact call_tuple_same pl ⟨.ref p, H, I, rfl, q⟩
end
structure SrcG (K : PySem.W.Frag) (S : Hp → Addr → List V → Prop) (Is : Heap → Addr → Array Value → Prop) (It1 : Heap → Addr → Addr → Nat → Prop) : Prop where
  get : ∀ {X : Cx} {pins : List (Addr × Obj)} {σ : L2.St} {H : Hp} {s : Shared} {a : Addr} {xs : List V}, X.K = K → Inv X pins σ H s → S H a xs → ∃ its : List Value, Vals xs its ∧ Is s.heap a its.toArray
  inj : ∀ {X : Cx} {pins : List (Addr × Obj)} {σ : L2.St} {H : Hp} {s : Shared} {a : Addr} {xs ys : List V}, X.K = K → Inv X pins σ H s → S H a xs → S H a ys → xs = ys
  dr : ∀ {prog : Program} {w : World} {A : Around} (it a : Addr) (items : Array Value), A.handled = none → a ≠ it → Draws prog w A it [it, a] items.size (fun i v => items[i]? = some v) (fun i h => It1 h it a i ∧ Is h a items)
  ob : ∀ {h : Heap} {it a : Addr} {i : Nat}, It1 h it a i → ∃ o, h.get? it = some o ∧ ∀ v, o.data ≠ .cell v
  at_ : ∀ {h h' : Heap} {it a : Addr} {i : Nat}, It1 h it a i → (∀ o, h.get? it = some o → h'.get? it = some o) → It1 h' it a i
theorem srcL (K : PySem.W.Frag) : SrcG K (SqL K) Heap.IsList Heap.IsListIter where
  get := fun e I h => by subst e; obtain ⟨its, r, p, _⟩ := I.list h; exact ⟨its, r, p.isList⟩
  inj := fun e I h h' => by subst e; exact I.list_inj h h'
  dr := fun it a items hh ne => Draws.list hh it a ne items
  ob := fun ⟨o, e, _, d⟩ => ⟨o, e, fun v q => by rw [d] at q; cases q⟩
  at_ := fun h k => h.at k
theorem srcT (K : PySem.W.Frag) : SrcG K (SqT K) Heap.IsTuple Heap.IsTupleIter where
  get := fun e I h => by subst e; obtain ⟨its, r, p, _⟩ := I.tuple h; exact ⟨its, r, p⟩
  inj := fun e I h h' => by subst e; exact I.tuple_inj h h'
  dr := fun it a items hh ne => Draws.tuple hh it a ne items
  ob := fun ⟨o, e, _, d⟩ => ⟨o, e, fun v q => by rw [d] at q; cases q⟩
  at_ := fun h k => h.at k
theorem pair_ok {P : Program} {w : World} {H : Hp} {h : Heap} {T : Addr} {x y : V} {u v : Value} (e : h.get? T = some (tobj [u, v])) (ru : RelV x u) (rv : RelV y v) : ObjOk P w H h T (.frz (tobj [u, v]) (.tup [x, y])) :=
  ⟨e, by show 2 ≤ sizeLine; decide, [u, v], .cons ru (.cons rv .nil), ⟨_, e, rfl, _, rfl⟩⟩
def ItzX (S1 S2 : Hp → Addr → List V → Prop) (a b : Addr) : It :=
  ⟨fun i H => ∃ (xs ys : List V) (x y : V), S1 H a xs ∧ S2 H b ys ∧ xs[i]? = some x ∧ ys[i]? = some y,
    fun i H v H' => ∃ T x y o, v = .ref T ∧ H T = none ∧ o.dict = none ∧ H' = upd H T (.frz o (.tup [x, y])) ∧ (∀ xs, S1 H a xs → xs[i]? = some x) ∧ ∀ ys, S2 H b ys → ys[i]? = some y,
    fun i H => ∃ xs ys : List V, S1 H a xs ∧ S2 H b ys ∧ i ≤ xs.length ∧ i ≤ ys.length ∧ (xs.length ≤ i ∨ ys.length ≤ i)⟩
/-- how a zip of two kinds goes on -/
structure ZipN (Is1 Is2 : Heap → Addr → Array Value → Prop) (J1 J2 : Heap → Addr → Addr → Nat → Prop) : Prop where
  nx : ∀ {prog : Program} {w : World} {A : Around} {E : Value → Shared → Prop} {s : Shared} {z TI TO i1 i2 l1 l2 : Addr} {k : Nat} {xs ys : Array Value} {x y a b : Value} {Q : Option Value → Shared → Prop}, A.handled = none → ZipApart z TI TO i1 i2 l1 l2 →
    IsZip s.heap z TI TO .none → IsPair s.heap TI (.ref i1) (.ref i2) → IsPair s.heap TO a b → J1 s.heap i1 l1 k → J2 s.heap i2 l2 k → Is1 s.heap l1 xs → Is2 s.heap l2 ys → xs[k]? = some x → ys[k]? = some y →
    (∀ h2 tk, IsZip h2 z TI TO (rawInt s.heap.objs.size) → IsPair h2 TO x y → J1 h2 i1 l1 (k + 1) → J2 h2 i2 l2 (k + 1) → IsPair h2 s.heap.objs.size x y →
      (∀ c o, c ≠ z → c ≠ TO → c ≠ i1 → c ≠ i2 → s.heap.get? c = some o → h2.get? c = some o) → Q (some (.ref s.heap.objs.size)) { s with heap := h2, toks := tk }) → wpAny (model prog w) A (pyNext (.ref z)) Q E s
  en : ∀ {prog : Program} {w : World} {A : Around} {E : Value → Shared → Prop} {s : Shared} {z TI TO i1 i2 l1 l2 : Addr} {k : Nat} {xs ys : Array Value} {a b : Value} {Q : Option Value → Shared → Prop}, A.handled = none → ZipApart z TI TO i1 i2 l1 l2 →
    IsZip s.heap z TI TO .none → IsPair s.heap TI (.ref i1) (.ref i2) → IsPair s.heap TO a b → J1 s.heap i1 l1 k → J2 s.heap i2 l2 k → Is1 s.heap l1 xs → Is2 s.heap l2 ys → k ≤ xs.size → k ≤ ys.size → (xs[k]? = none ∨ ys[k]? = none) →
    (∀ h2 tk, (∀ c o, c ≠ z → c ≠ TO → c ≠ i1 → c ≠ i2 → s.heap.get? c = some o → h2.get? c = some o) → Q none { s with heap := h2, toks := tk }) → wpAny (model prog w) A (pyNext (.ref z)) Q E s
theorem zipN_LL : ZipN Heap.IsList Heap.IsList Heap.IsListIter Heap.IsListIter where
  nx := fun {prog w A E s _ _ _ _ _ _ _ _ _ _ _ _ _ _ _} _ D hz hTI hTO h1 h2 p1 p2 hx hy q => wpAny_pyNext_zip_item D hz hTI hTO h1 h2 p1 p2 hx hy fun h' a b c d e _ f => q h' s.toks a b c d e f
  en := fun {prog w A E s _ _ _ _ _ _ _ _ _ _ _ _ _} hh D hz hTI hTO h1 h2 p1 p2 _ _ hx q => wpAny_pyNext_zip_end hh D hz hTI hTO h1 h2 p1 p2 hx fun h' => q h' s.toks
theorem zipN_TT : ZipN Heap.IsTuple Heap.IsTuple Heap.IsTupleIter Heap.IsTupleIter where
  nx := fun {prog w A E s _ _ _ _ _ _ _ _ _ _ _ _ _ _ _} _ D hz hTI hTO h1 h2 p1 p2 hx hy q => RZ.pyNext_zipT_item D hz hTI hTO h1 h2 p1 p2 hx hy fun h' a b c d e _ f => q h' s.toks a b c d e f
  en := fun {prog w A E s _ _ _ _ _ _ _ _ _ _ _ _ _} hh D hz hTI hTO h1 h2 p1 p2 _ _ hx q => RZ.pyNext_zipT_end hh D hz hTI hTO h1 h2 p1 p2 hx fun h' => q h' s.toks
theorem sep_of {z TI TO i1 i2 l1 l2 : Addr} (D : ZipApart z TI TO i1 i2 l1 l2) : ZipSep2 z TI TO i1 i2 [i1, l1] [i2, l2] :=
  { TIz := D.TIz, TOz := D.TOz, TITO := D.TITO, TIi1 := D.TIi1, TIi2 := D.TIi2, mem1 := by simp, mem2 := by simp, zf1 := by simp [D.i1z.symm, D.l1z.symm], zf2 := by simp [D.i2z.symm, D.l2z.symm], Tf1 := by simp [D.TOi1, D.l1TO.symm], Tf2 := by simp [D.TOi2, D.l2TO.symm], sep1_2 := by simp [D.i12, D.l2i1.symm], sep2_1 := by simp [D.i12.symm, D.l1i2.symm] }
theorem same_at {α : Type} {xs : Array α} {k : Nat} {x y : α} (h : xs[k]? = some x) (h2 : xs[k]? = some y) : y = x := Option.some.inj (h2.symm.trans h)
theorem ends_at {α : Type} {xs : Array α} {k : Nat} (h : k ≤ xs.size) (h2 : xs[k]? = none) : k = xs.size := Nat.le_antisymm h (Array.getElem?_eq_none_iff.mp h2)
/-- two kinds of iterators that are drawn from, side by side -/
theorem zipN_of {Is1 Is2 : Heap → Addr → Array Value → Prop} {J1 J2 : Heap → Addr → Addr → Nat → Prop}
    (D1 : ∀ {prog : Program} {w : World} {A : Around}, A.handled = none → ∀ (it l : Addr), l ≠ it → ∀ xs : Array Value, Draws prog w A it [it, l] xs.size (fun i v => xs[i]? = some v) (fun i h => J1 h it l i ∧ Is1 h l xs))
    (D2 : ∀ {prog : Program} {w : World} {A : Around}, A.handled = none → ∀ (it l : Addr), l ≠ it → ∀ xs : Array Value, Draws prog w A it [it, l] xs.size (fun i v => xs[i]? = some v) (fun i h => J2 h it l i ∧ Is2 h l xs)) : ZipN Is1 Is2 J1 J2 where
  nx := fun {prog w A E s z TI TO i1 i2 l1 l2 k xs ys x y a b Q} hh D hz hTI hTO h1 h2 p1 p2 hx hy q => wpAny_pyNext_zipD2_item (sep_of D) (D1 (A := A.in1) hh i1 l1 D.l1i1 xs) (D2 (A := A.in1) hh i2 l2 D.l2i2 ys) hz hTI hTO ⟨h1, p1⟩ ⟨h2, p2⟩ (Array.getElem?_eq_some_iff.mp hx).1 (Array.getElem?_eq_some_iff.mp hy).1 fun x1 x2 h' tk y1 y2 b1 b2 d1 d2 b5 _ b7 => by
    cases same_at hx y1
    cases same_at hy y2
    exact q h' tk b1 b2 d1.1 d2.1 b5 b7
  en := fun {prog w A E s z TI TO i1 i2 l1 l2 k xs ys a b Q} hh D hz hTI hTO h1 h2 p1 p2 z1 z2 hx q => wpAny_pyNext_zipD2_end (sep_of D) (D1 (A := A.in1) hh i1 l1 D.l1i1 xs) (D2 (A := A.in1) hh i2 l2 D.l2i2 ys) hz hTI hTO ⟨h1, p1⟩ ⟨h2, p2⟩ z1 z2 (hx.imp (ends_at z1) (ends_at z2)) q
theorem zipN_LT : ZipN Heap.IsList Heap.IsTuple Heap.IsListIter Heap.IsTupleIter := zipN_of (fun hh it l ne xs => Draws.list hh it l ne xs) (fun hh it l ne xs => Draws.tuple hh it l ne xs)
theorem zipN_TL : ZipN Heap.IsTuple Heap.IsList Heap.IsTupleIter Heap.IsListIter := zipN_of (fun hh it l ne xs => Draws.tuple hh it l ne xs) (fun hh it l ne xs => Draws.list hh it l ne xs)
theorem of5 {P : Addr → Prop} {a b c d e : Addr} (h1 : P a) (h2 : P b) (h3 : P c) (h4 : P d) (h5 : P e) : ∀ x ∈ [a, b, c, d, e], P x :=
  List.forall_mem_cons.mpr ⟨h1, List.forall_mem_cons.mpr ⟨h2, List.forall_mem_cons.mpr ⟨h3, List.forall_mem_cons.mpr ⟨h4, List.forall_mem_cons.mpr ⟨h5, fun _ h => nomatch h⟩⟩⟩⟩⟩
theorem turn_zipX {P : Program} {w : World} {K : PySem.W.Frag} {elts : List Expr} {kk : Nat} {tpos : Pos} {S1 S2 : Hp → Addr → List V → Prop} {Is1 Is2 : Heap → Addr → Array Value → Prop} {J1 J2 : Heap → Addr → Addr → Nat → Prop} (G1 : SrcG K S1 Is1 J1) (G2 : SrcG K S2 Is2 J2) (N : ZipN Is1 Is2 J1 J2)
    {a b z TI TO i1 i2 : Addr} (D : ZipApart z TI TO i1 i2 a b) :
    Turn P w K (.Tuple elts kk tpos) (ItzX S1 S2 a b) [z, TI, TO, i1, i2] z (fun i h => IsZip h z TI TO .none ∧ IsPair h TI (.ref i1) (.ref i2) ∧ (∃ x y, IsPair h TO x y) ∧ J1 h i1 a i ∧ J2 h i2 b i) where
  mem := List.mem_cons_self
  obj := fun i h ⟨hz, hTI, ⟨x, y, hTO⟩, h1, h2⟩ => of5 ⟨_, hz, fun v q => nomatch q⟩ ⟨_, hTI, fun v q => nomatch q⟩ ⟨_, hTO, fun v q => nomatch q⟩ (G1.ob h1) (G2.ob h2)
  keep := fun i h h' ⟨hz, hTI, ⟨x, y, hTO⟩, h1, h2⟩ k => ⟨k z (by simp) _ hz, k TI (by simp) _ hTI, ⟨x, y, k TO (by simp) _ hTO⟩, G1.at_ h1 fun o q => k i1 (by simp) o q, G2.at_ h2 fun o q => k i2 (by simp) o q⟩
  item := by
    intro X hP hw hK hc i pins s σ H E I hf st hg
    subst hP hw
    obtain ⟨hz, hTI, ⟨x0, y0, hTO⟩, h1, h2⟩ := st
    obtain ⟨xs, ys, x, y, hqx, hqy, hx, hy⟩ := hg
    obtain ⟨t1, r1, p1⟩ := G1.get hK I hqx
    obtain ⟨t2, r2, p2⟩ := G2.get hK I hqy
    obtain ⟨u, hu, ru⟩ := r1.get hx
    obtain ⟨v, hv, rv⟩ := r2.get hy
    obtain ⟨o1, e1, _⟩ := G1.ob h1
    obtain ⟨o2, e2, _⟩ := G2.ob h2
    refine N.nx (I.ok.hd hc) D hz hTI hTO h1 h2 p1 p2 (x := u) (y := v) (by simpa using hu) (by simpa using hv) fun h3 tk z3 TO3 h13 h23 hT hk => ?_
    refine ⟨_, rfl, wpAny_letOwnedTupleGo_zip (s := { s with heap := h3, toks := tk }) z3 fun h4 z4 sb => ?_⟩
    have hT4 : h4.get? s.heap.objs.size = some (tobj [u, v]) := (sb.2 _ (Nat.ne_of_gt (Heap.lt_size hz))).trans hT
    have I1 : Inv X pins σ (upd H s.heap.objs.size (.frz (tobj [u, v]) (.tup [x, y]))) { s with heap := h4, toks := tk } :=
      I.turnedNew (t' := tk) (ch := [z, TI, TO, i1, i2]) (fun c o hb q => (sb.2 c (fun e => hb (by simp [e]))).trans (hk c o (fun e => hb (by simp [e])) (fun e => hb (by simp [e])) (fun e => hb (by simp [e])) (fun e => hb (by simp [e])) q)) hf (Nat.le_refl _) (pair_ok hT4 ru rv)
    refine ⟨.ref s.heap.objs.size, _, I1, rfl, ⟨_, x, y, _, rfl, I.hok.fresh (Nat.le_refl _), rfl, rfl, fun l hl => by rw [G1.inj hK I hl hqx]; exact hx, fun l hl => by rw [G2.inj hK I hl hqy]; exact hy⟩,
      ⟨z4, (sb.2 _ D.TIz).trans (hk _ _ D.TIz D.TITO D.TIi1 D.TIi2 hTI), ⟨u, v, (sb.2 _ D.TOz).trans TO3⟩, G1.at_ h13 fun o q => (sb.2 _ D.i1z).trans q, G2.at_ h23 fun o q => (sb.2 _ D.i2z).trans q⟩, fun c hcm => ?_⟩
    have hlt : c < s.heap.objs.size := of5 (P := fun c => c < s.heap.objs.size) (Heap.lt_size hz) (Heap.lt_size hTI) (Heap.lt_size hTO) (Heap.lt_size e1) (Heap.lt_size e2) c hcm
    rw [upd_ne (Nat.ne_of_lt hlt)]; exact (hf c hcm).1
  done := by
    intro X hP hw hK hc i pins s σ H E I hf st hg
    subst hP hw
    obtain ⟨hz, hTI, ⟨x0, y0, hTO⟩, h1, h2⟩ := st
    obtain ⟨xs, ys, hqx, hqy, hle1, hle2, hend⟩ := hg
    obtain ⟨t1, r1, p1⟩ := G1.get hK I hqx
    obtain ⟨t2, r2, p2⟩ := G2.get hK I hqy
    have l1 := r1.length; have l2 := r2.length
    refine N.en (I.ok.hd hc) D hz hTI hTO h1 h2 p1 p2 (by simp; omega) (by simp; omega) ?_ fun h3 tk hk => ⟨rfl, I.turnedL (t' := tk) (ch := [z, TI, TO, i1, i2]) (fun c o hb q => hk c o (fun e => hb (by simp [e])) (fun e => hb (by simp [e])) (fun e => hb (by simp [e])) (fun e => hb (by simp [e])) q) hf⟩
    rcases hend with q | q
    · exact .inl (by simp; omega)
    · exact .inr (by simp; omega)
  self := fun A i s Q E st h => wpAny_pyIter_zip st.1 h
def iZipX (K : PySem.W.Frag) (ta : TA) : TI := fun σ H R => ta σ H fun vs H1 => ∃ a b xs ys, vs = [.ref a, .ref b] ∧ ((SqL K H1 a xs ∧ SqL K H1 b ys ∧ R (ItzX (SqL K) (SqL K) a b) H1) ∨ (SqT K H1 a xs ∧ SqT K H1 b ys ∧ R (ItzX (SqT K) (SqT K) a b) H1) ∨
  (SqL K H1 a xs ∧ SqT K H1 b ys ∧ R (ItzX (SqL K) (SqT K) a b) H1) ∨ (SqT K H1 a xs ∧ SqL K H1 b ys ∧ R (ItzX (SqT K) (SqL K) a b) H1))
theorem pi_zipX {X : Cx} {e e2 : Expr} {ta : TA} {p pos tpos : Pos} {elts : List Expr} {kk : Nat} (hg : Gl X "zip") (hm : X.mg "zip" = none) (ha : PA X [e, e2] ta)
    (hs : starEach [e, e2] X.env = (false, eval e X.env) :: starEach [e2] X.env := by rfl) (hpl : (backTo pos (starEach [e2] X.env)).any (·.1) = false := by rfl) : PI X (.Tuple elts kk tpos) (.Call (.Name "zip" p) [e, e2] [] pos) (iZipX X.K ta) := by
  refine ⟨fun pins s σ H R I h => Call_ (ld_blt I hg hm PyProof.Rows.boot_zip (PyProof.Rows.callWith_type1 (thn (ha.run pos pins s σ H _ I h) fun us s1 ⟨vs, H1, I1, r1, q1⟩ => ?_) hs hpl))⟩
  obtain ⟨a, b, xs, ys, rfl, q1⟩ := q1
  obtain ⟨u, t, rfl, ru, r2⟩ : ∃ u t, us = u :: t ∧ RelV (.ref a) u ∧ Vals [.ref b] t := by cases r1 with | cons x y => exact ⟨_, _, rfl, x, y⟩
  obtain ⟨v, rfl, rv⟩ := vals1 r2
  cases ru; cases rv
  have fr : ∀ k, FpOk X pins H1 (s1.heap.objs.size + k) := fun k => I1.fpOk (Nat.le_add_right _ _) (I1.hok.fresh (Nat.le_add_right _ _))
  have f5 := of5 (P := FpOk X pins H1) (fr 4) (fr 2) (fr 3) (fr 0) (fr 1)
  rcases q1 with ⟨hqx, hqy, q⟩ | ⟨hqx, hqy, q⟩ | ⟨hqx, hqy, q⟩ | ⟨hqx, hqy, q⟩
  · obtain ⟨t1, _, p1, _⟩ := I1.list hqx
    obtain ⟨t2, _, p2, _⟩ := I1.list hqy
    exact call_zip_2 p1.isList p2.isList fun h' hz hTI hTO h1 h2 hsz hk => wpAny_pyIter_zip hz ⟨s1.heap.objs.size + 4, [s1.heap.objs.size + 4, s1.heap.objs.size + 2, s1.heap.objs.size + 3, s1.heap.objs.size, s1.heap.objs.size + 1], _, _, H1, rfl, I1.kept (t' := s1.toks) hk, turn_zipX (srcL X.K) (srcL X.K) zipN_LL (PySem.W.ktu_apart s1.heap.objs.size a b p1.lt p2.lt), ⟨hz, hTI, ⟨_, _, hTO⟩, h1, h2⟩, f5, q⟩
  · obtain ⟨t1, _, p1, _⟩ := I1.tuple hqx
    obtain ⟨t2, _, p2, _⟩ := I1.tuple hqy
    exact RZ.call_zipT (show s1.heap.IsTuple a t1.toArray from p1) (show s1.heap.IsTuple b t2.toArray from p2) fun h' hz hTI hTO h1 h2 hsz hk => wpAny_pyIter_zip hz ⟨s1.heap.objs.size + 4, [s1.heap.objs.size + 4, s1.heap.objs.size + 2, s1.heap.objs.size + 3, s1.heap.objs.size, s1.heap.objs.size + 1], _, _, H1, rfl, I1.kept (t' := s1.toks) hk, turn_zipX (srcT X.K) (srcT X.K) zipN_TT (PySem.W.ktu_apart s1.heap.objs.size a b p1.lt p2.lt), ⟨hz, hTI, ⟨_, _, hTO⟩, h1, h2⟩, f5, q⟩
  · obtain ⟨t1, _, p1, _⟩ := I1.list hqx
    obtain ⟨t2, _, p2, _⟩ := I1.tuple hqy
    exact zip_begins2 (begins_list a t1.toArray) (begins_tuple b t2.toArray) p1.isList p2 fun h' hz hTI hTO h1 h2 hsz hk => wpAny_pyIter_zip hz ⟨s1.heap.objs.size + 4, [s1.heap.objs.size + 4, s1.heap.objs.size + 2, s1.heap.objs.size + 3, s1.heap.objs.size, s1.heap.objs.size + 1], _, _, H1, rfl, I1.kept (t' := s1.toks) hk, turn_zipX (srcL X.K) (srcT X.K) zipN_LT (PySem.W.ktu_apart s1.heap.objs.size a b p1.lt p2.lt), ⟨hz, hTI, ⟨_, _, hTO⟩, ⟨_, h1, rfl, rfl⟩, ⟨_, h2, rfl, rfl⟩⟩, f5, q⟩
  · obtain ⟨t1, _, p1, _⟩ := I1.tuple hqx
    obtain ⟨t2, _, p2, _⟩ := I1.list hqy
    exact zip_begins2 (begins_tuple a t1.toArray) (begins_list b t2.toArray) p1 p2.isList fun h' hz hTI hTO h1 h2 hsz hk => wpAny_pyIter_zip hz ⟨s1.heap.objs.size + 4, [s1.heap.objs.size + 4, s1.heap.objs.size + 2, s1.heap.objs.size + 3, s1.heap.objs.size, s1.heap.objs.size + 1], _, _, H1, rfl, I1.kept (t' := s1.toks) hk, turn_zipX (srcT X.K) (srcL X.K) zipN_TL (PySem.W.ktu_apart s1.heap.objs.size a b p1.lt p2.lt), ⟨hz, hTI, ⟨_, _, hTO⟩, ⟨_, h1, rfl, rfl⟩, ⟨_, h2, rfl, rfl⟩⟩, f5, q⟩
end DL
namespace DL
open PySem PySem.Spec PyProof.Rows L2
variable [Bs]
abbrev DK := D → Sto → Prop
abbrev BK := Bool → Sto → Prop
abbrev LK := List D → Sto → Prop
abbrev DE := En → Sto → DK → Prop
abbrev DT := En → Sto → BK → Prop
abbrev DA := En → Sto → LK → Prop
structure DEnds where
  nx : En → Sto → Prop
  rt : DK
  bk : En → Sto → Prop := fun _ _ => False
  ct : En → Sto → Prop := fun _ _ => False
abbrev DS := DEnds → En → Sto → Prop
def MoE (w : DE) : Prop := ∀ (e : En) (s : Sto) (Q Q' : DK), (∀ d s, Q d s → Q' d s) → w e s Q → w e s Q'
def MoT (w : DT) : Prop := ∀ (e : En) (s : Sto) (Q Q' : BK), (∀ d s, Q d s → Q' d s) → w e s Q → w e s Q'
def MoA (w : DA) : Prop := ∀ (e : En) (s : Sto) (Q Q' : LK), (∀ d s, Q d s → Q' d s) → w e s Q → w e s Q'
structure DEnds.le (A B : DEnds) : Prop where
  nx : ∀ e s, A.nx e s → B.nx e s
  rt : ∀ d s, A.rt d s → B.rt d s
  bk : ∀ e s, A.bk e s → B.bk e s
  ct : ∀ e s, A.ct e s → B.ct e s
def MoS (w : DS) : Prop := ∀ (A B : DEnds) (e : En) (s : Sto), A.le B → w A e s → w B e s
/-- the wishes below -/
def kE (K : PySem.W.Frag) (H : Hp) (io : List Addr) (F : Hp) (Q : VK) : DK := fun d st' => ∀ v io' F' H', Stp H io F H' io' F' → RelH K H' io' F' st' → Den K io' F' v d → Q v H'
def kT (K : PySem.W.Frag) (H : Hp) (io : List Addr) (F : Hp) (Q : Bool → Hp → Prop) : BK := fun b st' => ∀ io' F' H', Stp H io F H' io' F' → RelH K H' io' F' st' → Q b H'
def kA (K : PySem.W.Frag) (H : Hp) (io : List Addr) (F : Hp) (Q : List V → Hp → Prop) : LK := fun ds st' => ∀ vs io' F' H', Stp H io F H' io' F' → RelH K H' io' F' st' → DenL K io' F' vs ds → Q vs H'
def kN (K : PySem.W.Frag) (H : Hp) (io : List Addr) (F : Hp) (Q : L2.St → Hp → Prop) : En → Sto → Prop := fun env' st' => ∀ σ' io' F' H', Stp H io F H' io' F' → Rel K σ' H' env' io' F' st' → Q σ' H'
def kD (K : PySem.W.Frag) (H : Hp) (io : List Addr) (F : Hp) (D : Ends) : DEnds := ⟨kN K H io F D.nx, kE K H io F D.rt, kN K H io F D.bk, kN K H io F D.ct⟩
def tE (K : PySem.W.Frag) (w : DE) : TE := fun σ H Q => ∃ env io F st, Rel K σ H env io F st ∧ w env st (kE K H io F Q)
def tT (K : PySem.W.Frag) (w : DT) : TT := fun σ H Q => ∃ env io F st, Rel K σ H env io F st ∧ w env st (kT K H io F Q)
def tA (K : PySem.W.Frag) (w : DA) : TA := fun σ H Q => ∃ env io F st, Rel K σ H env io F st ∧ w env st (kA K H io F Q)
def tS (K : PySem.W.Frag) (w : DS) : TS := fun D σ H => ∃ env io F st, Rel K σ H env io F st ∧ w (kD K H io F D) env st
structure WE (X : Cx) (e : Expr) (w : DE) : Prop where
  mo : MoE w
  pe : PE X e (tE X.K w)
structure WT (X : Cx) (e : Expr) (w : DT) : Prop where
  mo : MoT w
  pe : PT X e (tT X.K w)
structure WA (X : Cx) (es : List Expr) (w : DA) : Prop where
  mo : MoA w
  pe : PA X es (tA X.K w)
structure WS (X : Cx) (s : Stmt) (w : DS) : Prop where
  mo : MoS w
  pe : PS X s (tS X.K w)
structure WB (X : Cx) (s : List Stmt) (w : DS) : Prop where
  mo : MoS w
  pe : PSs X s (tS X.K w)
theorem PE_imp {X : Cx} {e : Expr} {t t' : TE} (h : PE X e t) (i : ∀ σ H Q, t' σ H Q → t σ H Q) : PE X e t' := ⟨fun p s σ H Q I q => h.run p s σ H Q I (i σ H Q q)⟩
theorem PT_imp {X : Cx} {e : Expr} {t t' : TT} (h : PT X e t) (i : ∀ σ H Q, t' σ H Q → t σ H Q) : PT X e t' := ⟨fun p s σ H Q I q => h.run p s σ H Q I (i σ H Q q)⟩
theorem PA_imp {X : Cx} {e : List Expr} {t t' : TA} (h : PA X e t) (i : ∀ σ H Q, t' σ H Q → t σ H Q) : PA X e t' := ⟨fun pos p s σ H Q I q => h.run pos p s σ H Q I (i σ H Q q)⟩
theorem PS_imp {X : Cx} {e : Stmt} {t t' : TS} (h : PS X e t) (i : ∀ D σ H, t' D σ H → t D σ H) : PS X e t' := ⟨fun p s σ H Q I q => h.run p s σ H Q I (i Q σ H q)⟩
theorem PSs_imp {X : Cx} {e : List Stmt} {t t' : TS} (h : PSs X e t) (i : ∀ D σ H, t' D σ H → t D σ H) : PSs X e t' := ⟨fun p s σ H Q I q => h.run p s σ H Q I (i Q σ H q)⟩
section
variable {K : PySem.W.Frag} {io io' io1 : List Addr} {F F' F1 H H' H1 : Hp} {st st' : Sto} {σ : L2.St} {env : En}
/-- an expression's reading, its end as one wants -/
theorem tE_use {w : DE} (m : MoE w) {P : DK} {Q : VK} (R : Rel K σ H env io F st) (h : w env st P)
    (k : ∀ d st' v io' F' H', P d st' → Stp H io F H' io' F' → Rel K σ H' env io' F' st' → Den K io' F' v d → Q v H') : tE K w σ H Q :=
  ⟨env, io, F, st, R, m _ _ _ _ (fun d st' p v io' F' H' s r n => k d st' v io' F' H' p s (R.next s r) n) h⟩
theorem tT_use {w : DT} (m : MoT w) {P : BK} {Q : Bool → Hp → Prop} (R : Rel K σ H env io F st) (h : w env st P)
    (k : ∀ b st' io' F' H', P b st' → Stp H io F H' io' F' → Rel K σ H' env io' F' st' → Q b H') : tT K w σ H Q :=
  ⟨env, io, F, st, R, m _ _ _ _ (fun b st' p io' F' H' s r => k b st' io' F' H' p s (R.next s r)) h⟩
theorem tA_use {w : DA} (m : MoA w) {P : LK} {Q : List V → Hp → Prop} (R : Rel K σ H env io F st) (h : w env st P)
    (k : ∀ ds st' vs io' F' H', P ds st' → Stp H io F H' io' F' → Rel K σ H' env io' F' st' → DenL K io' F' vs ds → Q vs H') : tA K w σ H Q :=
  ⟨env, io, F, st, R, m _ _ _ _ (fun d st' p v io' F' H' s r n => k d st' v io' F' H' p s (R.next s r) n) h⟩
theorem kE_at {Q : VK} {d : D} {v : V} (h : kE K H io F Q d st') (s : Stp H io F H' io' F') (r : RelH K H' io' F' st') (n : Den K io' F' v d) : Q v H' := h v io' F' H' s r n
theorem kE_later {Q : VK} {d : D} {st : Sto} (s : Stp H io F H' io' F') (h : kE K H io F Q d st) : kE K H' io' F' Q d st := fun v io2 F2 H2 t r n => h v io2 F2 H2 (s.trans t) r n
theorem kN_later {Q : L2.St → Hp → Prop} {e : En} {st : Sto} (s : Stp H io F H' io' F') (h : kN K H io F Q e st) : kN K H' io' F' Q e st := fun σ2 io2 F2 H2 t r => h σ2 io2 F2 H2 (s.trans t) r
theorem kD_later {D : Ends} (s : Stp H io F H' io' F') : (kD K H io F D).le (kD K H' io' F' D) := ⟨fun _ _ h => kN_later s h, fun _ _ h => kE_later s h, fun _ _ h => kN_later s h, fun _ _ h => kN_later s h⟩
end
section
variable {X : Cx} {pos : Pos}
def wVar (i : Nat) : DE := fun env st Q => ∃ d, env[i]? = some (some d) ∧ Q d st
theorem we_var {i : Nat} {x : Str} (hN : X.N[i]? = some x) (hv : Vis X.env.scope x) (hd : (x == ("__debug__" : Str)) = false := by decide) (hcd : (x == ("__classdict__" : Str)) = false := by decide) : WE X (.Name x pos) (wVar i) := by
  refine ⟨fun e s Q Q' h ⟨d, h1, h2⟩ => ⟨d, h1, h _ _ h2⟩, PE_imp (pe_var hN hv hd hcd) fun σ H Q ⟨env, io, F, st, R, d, e, q⟩ => ?_⟩
  obtain ⟨v, h1, h2⟩ := R.slot i d e
  exact ⟨v, h1, q v io F H Stp.refl R.toRelH h2⟩
def wC (d : D) : DE := fun _ st Q => Q d st
theorem moC (d : D) : MoE (wC d) := fun _ _ _ _ h q => h _ _ q
theorem we_c {e : Expr} {v : V} {d : D} (h : PE X e (tC v)) (hd : ∀ io F, Den X.K io F v d) : WE X e (wC d) :=
  ⟨moC d, PE_imp h fun σ H Q ⟨env, io, F, st, R, q⟩ => q v io F H Stp.refl R.toRelH (hd _ _)⟩
theorem we_int {i : Int} {j} : WE X (.Constant (.int i) j pos) (wC (.int i)) := we_c pe_int fun _ _ => .int i
theorem we_bl {b : Bool} {j} : WE X (.Constant (.bool b) j pos) (wC (.bl b)) := we_c pe_bl fun _ _ => .bl b
theorem we_non {j} : WE X (.Constant .none j pos) (wC .non) := we_c pe_non fun _ _ => .non
theorem we_str {x} {j} : WE X (.Constant (.str x) j pos) (wC (.str x)) := we_c pe_str fun _ _ => .str x
theorem we_gint {x : Str} {i : Int} (hg : Gl X x) (hm : ∃ t, X.mg x = some (.int i t)) (hd : (x == ("__debug__" : Str)) = false := by decide) : WE X (.Name x pos) (wC (.int i)) := by
  obtain ⟨t, hm⟩ := hm
  exact we_c (pe_glob (v := .int i) hg hm ⟨t, rfl⟩ hd) fun _ _ => .int i
end
abbrev R2D := D → D → Sto → DK → Prop
def wOp (f : R2D) (wa wb : DE) : DE := fun env st Q => wa env st fun a s1 => wb env s1 fun b s2 => f a b s2 Q
def MoR (f : R2D) : Prop := ∀ a b s Q Q', (∀ d s, Q d s → Q' d s) → f a b s Q → f a b s Q'
/-- f is done by r -/
structure Rz (K : PySem.W.Frag) (r : R2) (f : R2D) : Prop where
  mo : MoR f
  on : ∀ {H io F st x y a b Q}, RelH K H io F st → Den K io F x a → Den K io F y b → f a b st (kE K H io F Q) → r x y H Q
theorem moOp {f : R2D} {wa wb : DE} (mf : MoR f) (ma : MoE wa) (mb : MoE wb) : MoE (wOp f wa wb) := fun e s Q Q' h q => ma _ _ _ _ (fun _ _ q => mb _ _ _ _ (fun _ _ q => mf _ _ _ _ _ h q) q) q
theorem tOp_of {X : Cx} {r : R2} {f : R2D} {a b : Expr} {wa wb : DE} (z : Rz X.K r f) (ha : WE X a wa) (hb : WE X b wb) {σ : L2.St} {H : Hp} {Q : VK} (h : tE X.K (wOp f wa wb) σ H Q) : tOp r (tE X.K wa) (tE X.K wb) σ H Q := by
  obtain ⟨env, io, F, st, R, q⟩ := h
  refine tE_use ha.mo R q fun d1 s1 v1 io1 F1 H1 q1 t1 R1 n1 => ?_
  refine tE_use hb.mo R1 q1 fun d2 s2 v2 io2 F2 H2 q2 t2 R2 n2 => ?_
  exact z.on R2.toRelH (t2.den n1) n2 (z.mo _ _ _ _ _ (fun d s => kE_later (t1.trans t2)) q2)
section
variable {X : Cx} {pos : Pos} {a b c : Expr} {wa wb wc : DE}
theorem we_op {op : Operator} {r : R2} {f : R2D} (ho : OpR X (binaryOp op) r) (z : Rz X.K r f) (ha : WE X a wa) (hb : WE X b wb) : WE X (.BinOp a op b pos) (wOp f wa wb) :=
  ⟨moOp z.mo ha.mo hb.mo, PE_imp (pe_op ho ha.pe hb.pe) fun σ H Q h => tOp_of z ha hb h⟩
theorem we_cmp {op : CmpOp} {r : R2} {f : R2D} (ho : OpR X (compareOp op) r) (z : Rz X.K r f) (ha : WE X a wa) (hb : WE X b wb) (hm : behindInMarks op b = false) : WE X (.Compare a [op] [b] pos) (wOp f wa wb) :=
  ⟨moOp z.mo ha.mo hb.mo, PE_imp (pe_cmpR ho ha.pe hb.pe hm) fun σ H Q h => tOp_of z ha hb h⟩
/-- a value that is a bool, as a test -/
def wTest (w : DE) : DT := fun env st Q => w env st fun d s => ∃ b, d = .bl b ∧ Q b s
theorem moTest {w : DE} (m : MoE w) : MoT (wTest w) := fun e s Q Q' h q => m _ _ _ _ (fun _ _ ⟨b, e, q⟩ => ⟨b, e, h _ _ q⟩) q
theorem kB {K : PySem.W.Frag} {H : Hp} {io : List Addr} {F : Hp} {Q : Bool → Hp → Prop} {d : D} {st : Sto} (h : ∃ b, d = .bl b ∧ kT K H io F Q b st) : kE K H io F (fun x H' => ∃ k, x = .bl k ∧ Q k H') d st := by
  obtain ⟨b, e, q⟩ := h
  subst e
  intro v io' F' H' s r n
  cases n
  exact ⟨b, rfl, q _ _ _ s r⟩
theorem wt_val {e : Expr} {w : DE} (h : WE X e w) (he : ∀ whole, isTrue e X.env whole = (do let v ← whole; standAt e.pos; holding [v] (truthy v)) := by intro _; rfl) : WT X e (wTest w) :=
  ⟨moTest h.mo, PT_imp (pt_val h.pe he) fun σ H Q ⟨env, io, F, st, R, q⟩ => ⟨env, io, F, st, R, h.mo _ _ _ _ (fun d s => kB) q⟩⟩
theorem wt_cmp {op : CmpOp} {r : R2} {f : R2D} (ho : OpR X (compareOp op) r) (z : Rz X.K r f) (ha : WE X a wa) (hb : WE X b wb) (hm : behindInMarks op b = false) : WT X (.Compare a [op] [b] pos) (wTest (wOp f wa wb)) :=
  ⟨moTest (moOp z.mo ha.mo hb.mo), PT_imp (pt_cmpR ho ha.pe hb.pe hm) fun σ H Q ⟨env, io, F, st, R, q⟩ =>
    tOp_of z ha hb ⟨env, io, F, st, R, moOp z.mo ha.mo hb.mo _ _ _ _ (fun d s => kB) q⟩⟩
def wChain (f f' : R2D) (wa wb wc : DE) : DE := fun env st Q => wa env st fun x s1 => wb env s1 fun y s2 => f x y s2 fun z s3 => ∃ k, z = .bl k ∧ if k = true then wc env s3 fun u s4 => f' y u s4 Q else Q (.bl false) s3
theorem moChain {f f' : R2D} (mf : MoR f) (mf' : MoR f') (ma : MoE wa) (mb : MoE wb) (mc : MoE wc) : MoE (wChain f f' wa wb wc) := fun e s Q Q' h q =>
  ma _ _ _ _ (fun _ _ q => mb _ _ _ _ (fun _ _ q => mf _ _ _ _ _ (fun _ _ ⟨k, e, q⟩ => ⟨k, e, by
    cases k with
    | true => exact mc _ _ _ _ (fun _ _ q => mf' _ _ _ _ _ h q) q
    | false => exact h _ _ q⟩) q) q) q
theorem tChain_of {r r' : R2} {f f' : R2D} (z : Rz X.K r f) (z' : Rz X.K r' f') (ha : WE X a wa) (hb : WE X b wb) (hc : WE X c wc) {σ : L2.St} {H : Hp} {Q : VK} (h : tE X.K (wChain f f' wa wb wc) σ H Q) : tChain r r' (tE X.K wa) (tE X.K wb) (tE X.K wc) σ H Q := by
  obtain ⟨env, io, F, st, R, q⟩ := h
  refine tE_use ha.mo R q fun d1 s1 v1 io1 F1 H1 q1 t1 R1 n1 => ?_
  refine tE_use hb.mo R1 q1 fun d2 s2 v2 io2 F2 H2 q2 t2 R2 n2 => ?_
  refine z.on R2.toRelH (t2.den n1) n2 (z.mo _ _ _ _ _ (fun d s3 q3 => ?_) q2)
  obtain ⟨k, e, q3⟩ := q3
  subst e
  intro v3 io3 F3 H3 t3 R3 n3
  cases n3
  refine ⟨k, rfl, ?_⟩
  cases k with
  | true =>
    rw [if_pos rfl] at q3 ⊢
    refine tE_use hc.mo (R2.next t3 R3) q3 fun d4 s4 v4 io4 F4 H4 q4 t4 R4 n4 => ?_
    exact z'.on R4.toRelH ((t3.trans t4).den n2) n4 (z'.mo _ _ _ _ _ (fun d s => kE_later (((t1.trans t2).trans t3).trans t4)) q4)
  | false =>
    rw [if_neg Bool.false_ne_true] at q3 ⊢
    exact kE_at q3 ((t1.trans t2).trans t3) R3 (.bl false)
theorem we_chain {op op' : CmpOp} {r r' : R2} {f f' : R2D} (ho : OpR X (compareOp op) r) (z : Rz X.K r f) (ho' : OpR X (compareOp op') r') (z' : Rz X.K r' f') (ha : WE X a wa) (hb : WE X b wb) (hc : WE X c wc)
    (hm : lastMarks [op, op'] [b, c] = false := by with_unfolding_all rfl) : WE X (.Compare a [op, op'] [b, c] pos) (wChain f f' wa wb wc) :=
  ⟨moChain z.mo z'.mo ha.mo hb.mo hc.mo, PE_imp (pe_chain ho ho' ha.pe hb.pe hc.pe hm) fun σ H Q h => tChain_of z z' ha hb hc h⟩
end
end DL
namespace DL
open PySem PySem.Spec PyProof.Rows L2
variable [Bs]
section
variable {X : Cx} {pos : Pos} {a b : Expr} {rest : List Expr} {wa wb : DE} {ta tb : DT}
def wAnd (ta tb : DT) : DT := fun env st Q => ta env st fun c s => if c = true then tb env s Q else Q false s
def wOr (ta tb : DT) : DT := fun env st Q => ta env st fun c s => if c = true then Q true s else tb env s Q
def wNot (ta : DT) : DT := fun env st Q => ta env st fun c s => Q (!c) s
theorem moAnd (ma : MoT ta) (mb : MoT tb) : MoT (wAnd ta tb) := fun e s Q Q' h q => ma _ _ _ _ (fun c _ q => by cases c with
  | true => exact mb _ _ _ _ h q
  | false => exact h _ _ q) q
theorem moOr (ma : MoT ta) (mb : MoT tb) : MoT (wOr ta tb) := fun e s Q Q' h q => ma _ _ _ _ (fun c _ q => by cases c with
  | true => exact h _ _ q
  | false => exact mb _ _ _ _ h q) q
/-- a test whatever its whole is -/
structure WW (X : Cx) (e : Expr) (w : DT) : Prop where
  mo : MoT w
  pe : PW X e (tT X.K w)
theorem WW.wt {e : Expr} {w : DT} (h : WW X e w) : WT X e w := ⟨h.mo, h.pe.pt⟩
theorem PW_imp {e : Expr} {t t' : TT} (h : PW X e t) (i : ∀ σ H Q, t' σ H Q → t σ H Q) : PW X e t' := ⟨fun w p s σ H Q I q => h.run w p s σ H Q I (i σ H Q q)⟩
theorem ww_and1 (h : WT X a ta) : WW X (.BoolOp .And [a] pos) ta := ⟨h.mo, pw_and1 h.pe⟩
theorem ww_or1 (h : WT X a ta) : WW X (.BoolOp .Or [a] pos) ta := ⟨h.mo, pw_or1 h.pe⟩
theorem ww_and (ha : WT X a ta) (hb : WW X (.BoolOp .And (b :: rest) pos) tb) : WW X (.BoolOp .And (a :: b :: rest) pos) (wAnd ta tb) := by
  refine ⟨moAnd ha.mo hb.mo, PW_imp (pw_and ha.pe hb.pe) fun σ H Q ⟨env, io, F, st, R, q⟩ => ?_⟩
  refine tT_use ha.mo R q fun c s1 io1 F1 H1 q1 t1 R1 => ?_
  cases c with
  | true => exact tT_use hb.mo R1 q1 fun c s2 io2 F2 H2 q2 t2 R2 => q2 _ _ _ (t1.trans t2) R2.toRelH
  | false => exact q1 _ _ _ t1 R1.toRelH
theorem ww_or (ha : WT X a ta) (hb : WW X (.BoolOp .Or (b :: rest) pos) tb) : WW X (.BoolOp .Or (a :: b :: rest) pos) (wOr ta tb) := by
  refine ⟨moOr ha.mo hb.mo, PW_imp (pw_or ha.pe hb.pe) fun σ H Q ⟨env, io, F, st, R, q⟩ => ?_⟩
  refine tT_use ha.mo R q fun c s1 io1 F1 H1 q1 t1 R1 => ?_
  cases c with
  | true => exact q1 _ _ _ t1 R1.toRelH
  | false => exact tT_use hb.mo R1 q1 fun c s2 io2 F2 H2 q2 t2 R2 => q2 _ _ _ (t1.trans t2) R2.toRelH
theorem wt_not (ha : WT X a ta) : WT X (.UnaryOp .Not a pos) (wNot ta) :=
  ⟨fun e s Q Q' h q => ha.mo _ _ _ _ (fun _ _ q => h _ _ q) q, PT_imp (pt_not ha.pe) fun σ H Q ⟨env, io, F, st, R, q⟩ => ⟨env, io, F, st, R, q⟩⟩
def wAndV (wa wb : DE) : DE := fun env st Q => wa env st fun d s => ∃ c, d = .bl c ∧ if c = true then wb env s Q else Q (.bl false) s
def wOrV (wa wb : DE) : DE := fun env st Q => wa env st fun d s => ∃ c, d = .bl c ∧ if c = true then Q (.bl true) s else wb env s Q
def wNotV (wa : DE) : DE := fun env st Q => wa env st fun d s => ∃ c, d = .bl c ∧ Q (.bl (!c)) s
theorem we_one {op} (h : WE X a wa) : WE X (.BoolOp op [a] pos) wa := ⟨h.mo, pe_one h.pe⟩
theorem we_and (ha : WE X a wa) (hb : WE X (.BoolOp .And (b :: rest) pos) wb) : WE X (.BoolOp .And (a :: b :: rest) pos) (wAndV wa wb) := by
  refine ⟨fun e s Q Q' h q => ha.mo _ _ _ _ (fun _ _ ⟨c, e, q⟩ => ⟨c, e, by
    cases c with
    | true => exact hb.mo _ _ _ _ h q
    | false => exact h _ _ q⟩) q, PE_imp (pe_and ha.pe hb.pe) fun σ H Q ⟨env, io, F, st, R, q⟩ => ?_⟩
  refine tE_use ha.mo R q fun d s1 v io1 F1 H1 q1 t1 R1 n1 => ?_
  obtain ⟨c, e, q1⟩ := q1
  subst e
  cases n1
  refine ⟨c, rfl, ?_⟩
  cases c with
  | true => exact tE_use hb.mo R1 q1 fun d s2 v2 io2 F2 H2 q2 t2 R2 n2 => kE_at q2 (t1.trans t2) R2.toRelH n2
  | false => exact kE_at q1 t1 R1.toRelH (.bl false)
theorem we_or (ha : WE X a wa) (hb : WE X (.BoolOp .Or (b :: rest) pos) wb) : WE X (.BoolOp .Or (a :: b :: rest) pos) (wOrV wa wb) := by
  refine ⟨fun e s Q Q' h q => ha.mo _ _ _ _ (fun _ _ ⟨c, e, q⟩ => ⟨c, e, by
    cases c with
    | true => exact h _ _ q
    | false => exact hb.mo _ _ _ _ h q⟩) q, PE_imp (pe_or ha.pe hb.pe) fun σ H Q ⟨env, io, F, st, R, q⟩ => ?_⟩
  refine tE_use ha.mo R q fun d s1 v io1 F1 H1 q1 t1 R1 n1 => ?_
  obtain ⟨c, e, q1⟩ := q1
  subst e
  cases n1
  refine ⟨c, rfl, ?_⟩
  cases c with
  | true => exact kE_at q1 t1 R1.toRelH (.bl true)
  | false => exact tE_use hb.mo R1 q1 fun d s2 v2 io2 F2 H2 q2 t2 R2 n2 => kE_at q2 (t1.trans t2) R2.toRelH n2
theorem we_not (ha : WE X a wa) : WE X (.UnaryOp .Not a pos) (wNotV wa) := by
  refine ⟨fun e s Q Q' h q => ha.mo _ _ _ _ (fun _ _ ⟨c, e, q⟩ => ⟨c, e, h _ _ q⟩) q, PE_imp (pe_not ha.pe) fun σ H Q ⟨env, io, F, st, R, q⟩ => ?_⟩
  refine tE_use ha.mo R q fun d s1 v io1 F1 H1 q1 t1 R1 n1 => ?_
  obtain ⟨c, e, q1⟩ := q1
  subst e
  cases n1
  exact ⟨c, rfl, kE_at q1 t1 R1.toRelH (.bl _)⟩
def wNeg (wa : DE) : DE := fun env st Q => wa env st fun d s => ∃ i, d = .int i ∧ Q (.int (-i)) s
theorem we_neg (ha : WE X a wa) : WE X (.UnaryOp .USub a pos) (wNeg wa) := by
  refine ⟨fun e s Q Q' h q => ha.mo _ _ _ _ (fun _ _ ⟨c, e, q⟩ => ⟨c, e, h _ _ q⟩) q, PE_imp (pe_un un_neg ha.pe) fun σ H Q ⟨env, io, F, st, R, q⟩ => ?_⟩
  refine tE_use ha.mo R q fun d s1 v io1 F1 H1 q1 t1 R1 n1 => ?_
  obtain ⟨c, e, q1⟩ := q1
  subst e
  cases n1
  exact ⟨c, rfl, kE_at q1 t1 R1.toRelH (.int _)⟩
def wNil : DA := fun _ st Q => Q [] st
def wCons (wa : DE) (wr : DA) : DA := fun env st Q => wa env st fun d s1 => wr env s1 fun ds s2 => Q (d :: ds) s2
theorem wa_nil : WA X [] wNil := ⟨fun _ _ _ _ h q => h _ _ q, PA_imp pa_nil fun σ H Q ⟨env, io, F, st, R, q⟩ => q [] io F H Stp.refl R.toRelH .nil⟩
theorem wa_cons {es : List Expr} {wr : DA} (ha : WE X a wa) (hr : WA X es wr) (hs : starEach (a :: es) X.env = (false, eval a X.env) :: starEach es X.env := by rfl) : WA X (a :: es) (wCons wa wr) := by
  refine ⟨fun e s Q Q' h q => ha.mo _ _ _ _ (fun _ _ q => hr.mo _ _ _ _ (fun _ _ q => h _ _ q) q) q, PA_imp (pa_cons ha.pe hr.pe hs) fun σ H Q ⟨env, io, F, st, R, q⟩ => ?_⟩
  refine tE_use ha.mo R q fun d s1 v io1 F1 H1 q1 t1 R1 n1 => ?_
  refine tA_use hr.mo R1 q1 fun ds s2 vs io2 F2 H2 q2 t2 R2 n2 => ?_
  exact q2 _ _ _ _ (t1.trans t2) R2.toRelH (.cons (t2.den n1) n2)
end
/-- a new tuple -/
theorem lay_tup {K : PySem.W.Frag} {H : Hp} {io : List Addr} {F : Hp} {st : Sto} {Q : VK} {vs : List V} {ds : List D} (R : RelH K H io F st) (n : DenL K io F vs ds) (z : ds.length ≤ sizeLine) (q : kE K H io F Q (.tup ds) st) :
    XtK H Q vs := fun p o hp hd =>
  q _ io (upd F p (.frz o (.tup vs))) _ (Stp.laid hp R.sub) (R.laid hp) (.tup (.inl ⟨o, upd_same, hd⟩) ((Stp.laid hp R.sub).denL n) z)
theorem lay_lst {K : PySem.W.Frag} {H : Hp} {io : List Addr} {F : Hp} {st : Sto} {Q : VK} {vs : List V} {ds : List D} (R : RelH K H io F st) (n : DenL K io F vs ds) (z : ds.length ≤ sizeLine) (q : kE K H io F Q (.lst ds) st) :
    ∀ p, H p = none → Q (.ref p) (upd H p (.lst vs)) := fun p hp =>
  q _ io (upd F p (.lst vs)) _ (Stp.laid hp R.sub) (R.laid hp) (.lst upd_same ((Stp.laid hp R.sub).denL n) z)
section
variable {K : PySem.W.Frag} {io io' : List Addr} {F F' H H' : Hp} {st st' : Sto}
/-- a new cell -/
theorem new_cell (R : RelH K H io F st) {p : Addr} {vs : List V} {ds : List D} (hp : H p = none) (n : DenL K io F vs ds) (z : ds.length ≤ sizeLine) :
    Stp H io F (upd H p (.lst vs)) (io ++ [p]) F ∧ RelH K (upd H p (.lst vs)) (io ++ [p]) F (st ++ [.lst ds]) ∧ Den K (io ++ [p]) F (.ref p) (.ref st.length) := by
  have s : Stp H io F (upd H p (.lst vs)) (io ++ [p]) F := (Stp.aside hp).cell hp
  exact ⟨s, (R.aside hp).adopt ⟨_, upd_same, fun _ z => nomatch z⟩ (R.notIo hp) ⟨R.notF hp, z, vs, upd_same, s.denL n⟩, R.newRef⟩
theorem lay_cell {Q : VK} {vs : List V} {ds : List D} (R : RelH K H io F st) (n : DenL K io F vs ds) (z : ds.length ≤ sizeLine) (q : kE K H io F Q (.ref st.length) (st ++ [.lst ds])) :
    ∀ p, H p = none → Q (.ref p) (upd H p (.lst vs)) := fun p hp => by
  obtain ⟨s, r, d⟩ := new_cell R hp n z
  exact q _ _ _ _ s r d
/-- a new list: kept apart (mutable) or a value -/
def newL (m : Bool) (ds : List D) (st : Sto) (Q : DK) : Prop := if m = true then Q (.ref st.length) (st ++ [.lst ds]) else Q (.lst ds) st
theorem newL_mo {m : Bool} {ds : List D} {st : Sto} {Q Q' : DK} (h : ∀ d s, Q d s → Q' d s) (q : newL m ds st Q) : newL m ds st Q' := by
  cases m with
  | true => exact h _ _ q
  | false => exact h _ _ q
theorem lay_new {m : Bool} {Q : VK} {vs : List V} {ds : List D} (R : RelH K H io F st) (n : DenL K io F vs ds) (z : ds.length ≤ sizeLine) (q : newL m ds st (kE K H io F Q)) :
    ∀ p, H p = none → Q (.ref p) (upd H p (.lst vs)) := by
  cases m with
  | true => exact lay_cell R n z q
  | false => exact lay_lst R n z q
end
section
variable {X : Cx} {pos : Pos} {es : List Expr} {wa : DA}
def wTup (wa : DA) : DE := fun env st Q => wa env st fun ds s => ds.length ≤ sizeLine ∧ Q (.tup ds) s
def wLst (m : Bool) (wa : DA) : DE := fun env st Q => wa env st fun ds s => ds.length ≤ sizeLine ∧ newL m ds s Q
theorem we_tup {k} (h : WA X es wa) : WE X (.Tuple es k pos) (wTup wa) := by
  refine ⟨fun e s Q Q' i q => h.mo _ _ _ _ (fun _ _ ⟨z, q⟩ => ⟨z, i _ _ q⟩) q, PE_imp (pe_tupX h.pe) fun σ H Q ⟨env, io, F, st, R, q⟩ => ?_⟩
  refine tA_use h.mo R q fun ds s1 vs io1 F1 H1 ⟨z, q1⟩ t1 R1 n1 => ⟨by rw [n1.length]; exact z, ?_⟩
  exact lay_tup R1.toRelH n1 z (kE_later t1 q1)
theorem we_lst {m : Bool} (h : WA X es wa) : WE X (.List es pos) (wLst m wa) := by
  refine ⟨fun e s Q Q' i q => h.mo _ _ _ _ (fun _ _ ⟨z, q⟩ => ⟨z, newL_mo i q⟩) q, PE_imp (pe_lst h.pe) fun σ H Q ⟨env, io, F, st, R, q⟩ => ?_⟩
  refine tA_use h.mo R q fun ds s1 vs io1 F1 H1 ⟨z, q1⟩ t1 R1 n1 => ⟨by rw [n1.length]; exact z, ?_⟩
  exact lay_new R1.toRelH n1 z (newL_mo (fun _ _ => kE_later t1) q1)
end
end DL
namespace DL
open PySem PySem.Spec PyProof.Rows L2
structure FnG (P : Program) (w : World) (K : PySem.W.Frag) (mg : Str → Option Value) (base : Heap) (CX : CXT) (k : Nat) (f : Addr) (fd : FuncData) (ps : List Str) (sp : Sp) : Prop where
  len : ∀ vs H Q E, sp vs H Q E → vs.length = ps.length
  run : ∀ (A : Around) (outer : List Env) (s : Shared) (H : Hp) (args : Args) (us : List Value) (vs : List V) (Q : VK) (E : XK), Room k A → A.guards = some [] → Env0 P w K mg base A outer s H → BindsTo s fd args (ps.zip us) →
    Vals vs us → sp vs H Q E → codeAny (model P w) A (.call (.ref f) args) (CR CX outer P w H s Q E) s
theorem FnG.mono {P : Program} {w : World} {K : PySem.W.Frag} {mg : Str → Option Value} {base : Heap} {CX : CXT} {j k : Nat} {f : Addr} {fd : FuncData} {ps : List Str} {sp : Sp} (F : FnG P w K mg base CX j f fd ps sp) (h : j ≤ k) :
    FnG P w K mg base CX k f fd ps sp := ⟨F.len, fun A outer s H args us vs Q E hr => F.run A outer s H args us vs Q E (hr.mono h)⟩
section
variable {X : Cx} {CX : CXT} {k : Nat} {f : Addr} {fd : FuncData} {ps : List Str} {sp : Sp} {E : XK} {x : Str} {p pos : Pos} {e : Expr} {es : List Expr} {t : TA}
theorem runG {pins : List (Addr × Obj)} {σ : L2.St} {H : Hp} {s : Shared} {Q : VK} {us : List Value} {vs : List V} (F : FnG X.prog X.w X.K X.mg X.base CX k f fd ps sp) (hr : Room k X.A) (hgd : X.A.guards = some []) (hb : Binds X.K fd ps [])
    (hx : Passes CX X E) (I : Inv X pins σ H s) (r : Vals vs us) (h : sp vs H Q E) : wpAny (model X.prog X.w) X.A (call (.ref f) us) (EP X pins σ Q) X.xe s := by
  have hlen : (us ++ []).length = ps.length := by rw [List.append_nil, ← r.length]; exact F.len _ _ _ _ h
  have hbind := hb s us I.kIn hlen
  rw [List.append_nil] at hbind
  have run := F.run X.A X.stack s H ⟨us, []⟩ us vs Q E hr hgd I.env0 hbind r h
  refine wpAny_call (codeAny_mono run fun res s' hq => ?_)
  match res, hq with
  | .error e, hq => exact hx pins σ H s e s' I hq
  | .ok (.ret u), hq => exact I.after hq
  | .ok .next, hq => exact hq.elim
  | .ok .brk, hq => exact hq.elim
  | .ok .cont, hq => exact hq.elim
theorem pe_callG (F : FnG X.prog X.w X.K X.mg X.base CX k f fd ps sp) (hr : Room k X.A) (hgd : X.A.guards = some []) (hg : Gl X x) (hm : X.mg x = some (.ref f)) (hk : PySem.W.keepIn X.K (.ref f) = true) (hb : Binds X.K fd ps []) (hx : Passes CX X E)
    (ha : PA X (e :: es) t) (hdb : (x == ("__debug__" : Str)) = false := by decide) (he : starEach (e :: es) X.env = (false, eval e X.env) :: starEach es X.env := by rfl) (hpl : (backTo pos (starEach es X.env)).any (·.1) = false := by rfl) :
    PE X (.Call (.Name x p) (e :: es) [] pos) (fun σ H Q => t σ H fun vs H1 => sp vs H1 Q E) := by
  refine ⟨fun pins s σ H Q I h => wpAny_Call_Name_kw (ld_glob I hg hm ?_ hdb)⟩
  refine PySem.W.callWith_K (h₀ := X.base) I.ok.mod.kin hk (thn (ha.run pos pins s σ H _ I h) fun us s1 h1 => ?_) he hpl
  obtain ⟨vs, H1, I1, r, q⟩ := h1
  exact ⟨I1.kIn, runG F hr hgd hb hx I1 r q⟩
end
/-- a def by its body -/
theorem fnG_of {CX : CXT} {P : Program} {w : World} {K : PySem.W.Frag} {mg : Str → Option Value} {base : Heap} {x qual : Str} {st : Stmt} {f : Addr} {fd : FuncData} {N ps : List Str} {k : Nat} {sp : Sp} (F : Fun K x qual st f fd) (S : FnScope N ps (defScope st))
    (len : ∀ vs H Q E, sp vs H Q E → vs.length = ps.length)
    (hbody : ∀ (cdv : Value) (A : Around) (outer : List Env) (s : Shared) (H : Hp) (vs : List V) (Q : VK) (E : XK), fd.code = cdv → Room k (A.deeper (envOfC qual (defScope st) s.heap.objs.size f cdv)) → A.guards = some [] → sp vs H Q E →
      ∃ t, PSs (cxOf CX P w K mg base N qual (defScope st) f cdv A outer s H E) (defBody st) t ∧ t { nx := fun _ H' => Q .non H', rt := Q } (L2.start N vs) H) : FnG P w K mg base CX (k + 1) f fd ps sp := by
  obtain ⟨oc, od, kV, doc, pm, an, cdv, ct, osl, rfl, lk, hcd⟩ := F.ex
  refine ⟨len, fun A outer s H args us vs Q E hr hgd e0 hb r hsp => ?_⟩
  have hl := len _ _ _ _ hsp
  have inK : K.In s.heap := e0.mod.kin.keeps fun b o e => (e0.bs b o e).1
  have lim : s.heap.NoLimit := e0.mod.nolimit.keeps fun b o e => (e0.bs b o e).1
  have slots : ∀ y ∈ ps.zip us, (defScope st).names.lookup y.1 = some .local ∨ ((defScope st).names.lookup y.1 = some .cell ∧ ((cellsFrom (s.heap.objs.size + 1) (defScope st).names []).lookup y.1).isSome = true) := by
    rintro ⟨n, v⟩ hy
    have q := S.par n (List.of_mem_zip hy).1
    exact q.elim .inl fun q => .inr ⟨q, PySem.W.cellsFrom_some _ _ _ (.inl q)⟩
  refine codeAny_call_function hr.depth (inK _ _ lk) rfl S.co S.gen rfl (PySem.W.codeRec_of inK hcd) (hb _ _ _ _ ?_)
  refine wpAny_newFunctionEnv_cells S.kind slots fun env he s1 entry => ?_
  subst he
  obtain ⟨t, ht, hq⟩ := hbody cdv A outer s H vs Q E rfl (hr.deeper _) hgd hsp
  have I : Inv (cxOf CX P w K mg base N qual (defScope st) f cdv A outer s H E) [] (L2.start N vs) H s1 := inv_start S hr.hd e0 hl r entry
  refine ⟨lim.keeps entry.toInCall.keep, codeAny_func (wpAny_mono (ht.run [] s1 _ H _ I hq) (fun fl s' hs => ?_) fun e s' hs => hs)⟩
  match fl, hs with
  | .ret u, ⟨v, _, H', J, rv, q⟩ => exact ⟨v, H', J.os, J.bare, J.base, J.hok, rv, q⟩
  | .next, ⟨_, H', J, q⟩ => exact ⟨.non, H', J.os, J.bare, J.base, J.hok, rfl, q⟩
  | .brk, ⟨_, _, _, q⟩ => exact q.elim
  | .cont, ⟨_, _, _, q⟩ => exact q.elim
/-- the code objects and tables of the defs that make lambdas -/
def tabCs (K : PySem.W.Frag) : List (Addr × Addr) := lamNames.filterMap fun x => PySem.W.tabIn K x
theorem tabs_cs {K : PySem.W.Frag} {p : Addr × Str} (h : p ∈ tabsOf K) : ∃ c, (c, p.1) ∈ tabCs K := by
  obtain ⟨x, hx, e⟩ := List.mem_filterMap.mp h
  cases q : PySem.W.tabIn K x with
  | none => rw [q] at e; cases e
  | some r =>
    rw [q] at e
    cases e
    exact ⟨r.1, List.mem_filterMap.mpr ⟨x, hx, q⟩⟩
/-- the law's call -/
theorem law_callT {P : Program} {w : World} {K : PySem.W.Frag} {mg mb : Str → Option Value} {k : Nat} {fa a : Addr} {fd : FuncData} {x : Str} {sp : Sp} {s₁ : Shared} {vs : List Value} {ns : List Int}
    (KX : K.In s₁.heap) (hns : s₁.heap.Ns mainGlobals mg) (hb : s₁.heap.Ns builtinsNs mb) (hbb : ∀ x : Str, x ≠ "__name__" → mb x = bootBuiltins x) (hlim : s₁.heap.NoLimit) (hg : s₁.gens = #[])
    (tE : ∀ p ∈ tabCs K, PySem.W.CodeHd s₁.heap p.1 p.2 ∧ s₁.heap.get? p.2 = some { cls := .none, data := .fields #[] }) (tN : ∀ p ∈ tabCs K, K.lookup p.2 = none)
    (tB : ∃ (bm : Addr) (ob : Obj), mg "__builtins__" = some (.ref bm) ∧ bm ≠ builtinsNs ∧ s₁.heap.get? bm = some ob ∧ ob.cls = .type "module" ∧ ob.dict = some builtinsNs ∧ ob.data = .plain)
    (ha : s₁.heap.get? a = some { cls := .type "list", data := .seq vs.toArray }) (hi : IntsAre vs ns) (hl : ns.length ≤ sizeLine) (hr : Room k callerA)
    (F : ∀ base : Heap, K.In base → base.Ns mainGlobals mg → (∀ p ∈ tabCs K, LamX.TabB base mg p.1 p.2) → FnG P w K mg base CX0 k fa fd [x] sp) (hbind : ∀ (s : Shared) (u : Value), BindsTo s fd ⟨[u], []⟩ [(x, u)])
    (hsp : ∀ H : Hp, (∀ p ∈ tabCs K, H p.2 = some (.tbl #[])) → SqL K H a (ns.map V.int) → sp [.ref a] H (fun v _ => v = .bl true) fun _ _ _ => False) :
    codeAny (model P w) callerA (.call (.ref fa) ⟨[.ref a], []⟩) (fun r s' => r = .ok (.ret (.bool true)) ∧ OldK s₁.heap s'.heap ∧ s'.os = s₁.os ∧ AllBare s'.gens) s₁ := by
  have rv := vals_ints hi
  have lenV := hi.length
  let obj : Obj := { cls := .type "list", data := .seq vs.toArray }
  let Ps : List Addr := (tabCs K).map (·.2)
  have tabP : ∀ b ∈ Ps, s₁.heap.get? b = some { cls := .none, data := .fields #[] } ∧ K.lookup b = none := fun b hb => by
    obtain ⟨p, hp, rfl⟩ := List.mem_map.mp hb
    exact ⟨(tE p hp).2, tN p hp⟩
  have inP : ∀ p ∈ tabCs K, p.2 ∈ Ps := fun p hp => List.mem_map.mpr ⟨p, hp, rfl⟩
  have aP : a ∉ Ps := fun h => by
    have := (tabP a h).1
    rw [ha] at this
    cases this
  -- the abstract heap: the script, unless the module itself has it, and the tables
  let H0 : Hp := fun b => if b ∈ Ps then some (.tbl #[]) else if b = a ∧ K.lookup a = none then some (.frz obj (.lst (ns.map V.int))) else none
  have h0t : ∀ b ∈ Ps, H0 b = some (.tbl #[]) := fun b hb => by show (if b ∈ Ps then _ else _) = _; rw [if_pos hb]
  have h0n : ∀ b, b ∉ Ps → H0 b = if b = a ∧ K.lookup a = none then some (.frz obj (.lst (ns.map V.int))) else none := fun b hb => by show (if b ∈ Ps then _ else _) = _; rw [if_neg hb]
  have at_a : ∀ b o, H0 b = some o → (b ∈ Ps ∧ o = .tbl #[]) ∨ (b ∉ Ps ∧ b = a ∧ K.lookup a = none ∧ o = .frz obj (.lst (ns.map V.int))) := fun b o e => by
    by_cases hb : b ∈ Ps
    · rw [h0t b hb] at e
      exact .inl ⟨hb, (Option.some.inj e).symm⟩
    · rw [h0n b hb] at e
      by_cases q : b = a ∧ K.lookup a = none
      · rw [if_pos q] at e
        exact .inr ⟨hb, q.1, q.2, (Option.some.inj e).symm⟩
      · rw [if_neg q] at e
        cases e
  have hS : SqL K H0 a (ns.map V.int) := by
    cases q : K.lookup a with
    | none => exact .inl (.inr ⟨obj, by rw [h0n a aP, if_pos ⟨rfl, q⟩]⟩)
    | some o =>
      have e := KX a o q
      rw [ha] at e
      cases e
      exact .inr ⟨_, vs.toArray, _, q, rfl, rfl, rfl, by rw [List.size_toArray, lenV]; exact hl, by simpa using rv⟩
  have hok : HOk P w H0 s₁.heap := fun b o e => by
    rcases at_a b o e with ⟨hb, rfl⟩ | ⟨_, rfl, _, rfl⟩
    · exact (tabP b hb).1
    · exact ⟨ha, by rw [List.length_map]; exact hl, vs, _, rv, ha⟩
  have free_of : ∀ {b : Addr} {o : Obj}, s₁.heap.get? b = some o → (∀ xs n, o.data ≠ .seq xs n) → o.data ≠ .fields #[] → H0 b = none := fun {b o} e d d2 => by
    cases q : H0 b with
    | none => rfl
    | some u =>
      rcases at_a b u q with ⟨hb, _⟩ | ⟨_, rfl, _, _⟩
      · rw [(tabP b hb).1] at e
        cases e
        exact absurd rfl d2
      · rw [ha] at e
        cases e
        exact absurd rfl (d _ _)
  have nsOf : ∀ {b : Addr} {m : Str → Option Value}, s₁.heap.Ns b m → (hidT s₁.heap H0).Ns b m := fun {b m} ⟨o, es, ep, e, d, r⟩ =>
    ⟨o, es, ep, hidT_get e (free_of e (fun xs n z => by rw [d] at z; cases z) (fun z => by rw [d] at z; cases z)), d, r⟩
  have inB : K.In (hidT s₁.heap H0) := fun b o e => hidT_get (KX b o e) (by
    cases q : H0 b with
    | none => rfl
    | some u =>
      rcases at_a b u q with ⟨hb, _⟩ | ⟨_, rfl, q2, _⟩
      · rw [(tabP b hb).2] at e; cases e
      · rw [q2] at e; cases e)
  have hM : Mod K mg (hidT s₁.heap H0) := ⟨inB, nsOf hns, ⟨mb, nsOf hb, hbb⟩, let ⟨mc, h1, h2⟩ := hlim; ⟨mc, nsOf h1, h2⟩⟩
  have hTB : ∀ p ∈ tabCs K, LamX.TabB (hidT s₁.heap H0) mg p.1 p.2 := fun p hp => by
    have hPp := (tE p hp).2
    constructor
    · obtain ⟨o, us, f1, f2, f3, f4, f5, f6, f7, g1, g2, g3, g4, gr⟩ := (tE p hp).1
      have : H0 p.1 = none := free_of g1 (fun xs n z => by rw [g3] at z; cases z) fun z => by
        rw [g3] at z
        cases z
        simp at g4
      exact ⟨o, us, f1, f2, f3, f4, f5, f6, f7, hidT_get g1 this, g2, g3, g4, gr⟩
    · obtain ⟨bm, ob, b1, b2, b3, b4, b5, b6⟩ := tB
      have n1 : bm ≠ mainGlobals := fun q => by
        obtain ⟨o, es, ep, e, d, _⟩ := hns
        rw [q, e] at b3
        cases b3
        rw [d] at b6; cases b6
      have n2 : bm ≠ p.2 := fun q => by
        rw [q, hPp] at b3
        cases b3; cases b6
      have : H0 bm = none := free_of b3 (fun xs n z => by rw [b6] at z; cases z) fun z => by rw [b6] at z; cases z
      exact ⟨bm, ob, b1, b2, n1, n2, hidT_get b3 this, b4, b5, b6⟩
    · intro q
      obtain ⟨o, es, ep, e, d, _⟩ := hns
      rw [q, hPp] at e
      cases e; cases d
  have e0 : Env0 P w K mg (hidT s₁.heap H0) callerA [] s₁ H0 := ⟨rfl, hM, fun b o e => of_hidT e, Nat.le_of_eq (hidT_size _ _), trivial, fun b hb => absurd (show b ∈ ([] : List Addr) from hb) (by simp), hok, .of_eq hg⟩
  refine codeAny_mono ((F _ inB (nsOf hns) hTB).run callerA [] s₁ H0 ⟨[.ref a], []⟩ [.ref a] [.ref a] _ _ hr rfl e0 (hbind s₁ (.ref a)) (.cons rfl .nil) (hsp H0 (fun p hp => h0t _ (inP p hp)) hS)) fun r s' h => ?_
  match r, h with
  | .error e, h => exact h.elim
  | .ok .next, h => exact h.elim
  | .ok .brk, h => exact h.elim
  | .ok .cont, h => exact h.elim
  | .ok (.ret u), h =>
    obtain ⟨v, H', os, bare, un, hok', r', q⟩ := h
    subst q
    obtain rfl : u = Value.bool true := r'
    have stay : ∀ b o, b ∉ Ps → s₁.heap.get? b = some o → s'.heap.get? b = some o := fun b o nb e => by
      cases q : H0 b with
      | none => exact un.keep b o e q (by intro z; exact absurd (show b ∈ ([] : List Addr) from z) (by simp)) (by simp)
      | some u =>
        rcases at_a b u q with ⟨hb, _⟩ | ⟨_, rfl, _, rfl⟩
        · exact absurd hb nb
        · have e2 := hok' _ _ (un.frzs _ obj _ q)
          rw [ha] at e
          cases e
          exact e2.1
    have grew : ∀ p ∈ tabCs K, ∃ more : Array Value, s'.heap.get? p.2 = some { cls := .none, data := .fields more } := fun p hp => by
      obtain ⟨more, z⟩ := un.tbls p.2 #[] (h0t _ (inP p hp))
      exact ⟨_, hok' _ _ z⟩
    refine ⟨rfl, ⟨fun b o e => ?_, fun b o e => ?_⟩, os, bare⟩
    all_goals by_cases hm : b ∈ Ps
    · obtain ⟨p, hp, rfl⟩ := List.mem_map.mp hm
      obtain ⟨more, z⟩ := grew p hp
      rw [(tE p hp).2] at e
      cases e
      refine .inr (.inl ⟨((tE p hp).1.tab (tE p hp).2).isCodeTable, rfl, #[], more, rfl, ?_⟩)
      rw [Array.empty_append]
      exact z
    · exact .inl (stay b o hm e)
    · obtain ⟨p, hp, rfl⟩ := List.mem_map.mp hm
      obtain ⟨more, z⟩ := grew p hp
      exact ⟨_, z⟩
    · exact ⟨o, stay b o hm e⟩
end DL
namespace DL
open PySem PySem.Spec PyProof.Rows L2
def tabsW (g : Addr → Option Obj) (K : PySem.W.Frag) : Bool := (tabCs K).all fun p => PySem.W.codeHdIn K p.1 p.2 && (match g p.2 with
  | some o => He.emptyTab o
  | none => false)
def wOf (fn : List He.DefD) (ex : PySem.W.Frag → Bool) (g : Addr → Option Obj) (K : PySem.W.Frag) : He.AlD := ((fn.all fun d => d.ok K) && (ex K && tabsW g K), fn.map fun d => He.fnW K d.at_)
/-- the objects looked at: the module's, the classes' namespaces and methods, the defs' code -/
def refE (o : Obj) : List Addr := match o.data with
  | .dict es _ => es.toList.flatMap fun e => He.refV e.val
  | _ => []
def refC (o : Obj) : List Addr := match o.data with
  | .func fd => He.refV fd.code
  | .cls cd => [cd.ns]
  | _ => []
def lev (f : Obj → List Addr) (g : Addr → Option Obj) (as : List Addr) : List Addr := as.flatMap fun a => match g a with
  | some o => f o
  | none => []
def asW3 (g : Addr → Option Obj) (l1 l2 l3 : List Addr) : List Addr := mainGlobals :: (l1 ++ (l2 ++ (l3 ++ (lev refC g l3 ++ [cStatics, sysModules]))))
def asW2 (g : Addr → Option Obj) (l1 l2 : List Addr) : List Addr := asW3 g l1 l2 (lev refE g l2)
def asW1 (g : Addr → Option Obj) (l1 : List Addr) : List Addr := asW2 g l1 (lev refC g l1)
def asW (g : Addr → Option Obj) : List Addr := asW1 g (lev refE g [mainGlobals])
def obsW (fn : List He.DefD) (ex : PySem.W.Frag → Bool) (g : Addr → Option Obj) : He.AlD := wOf fn ex g (He.frT g (asW g))
structure SaysW (fn : List He.DefD) (ex : PySem.W.Frag → Bool) (h : Heap) (K : PySem.W.Frag) : Prop where
  d : He.SaysD [] fn K
  ex : ex K = true
  tabs : ∀ p ∈ tabCs K, (PySem.W.codeHdIn K p.1 p.2 = true ∧ h.get? p.2 = some { cls := .none, data := .fields #[] }) ∧ K.lookup p.2 = none
theorem saysW_of {fn : List He.DefD} {ex : PySem.W.Frag → Bool} {h : Heap} (e : obsW fn ex h.get? = He.valD fn) : SaysW fn ex h (He.frT h.get? (asW h.get?)) := by
  have e1 : ((fn.all fun d => d.ok (He.frT h.get? (asW h.get?))) && (ex (He.frT h.get? (asW h.get?)) && tabsW h.get? (He.frT h.get? (asW h.get?)))) = true := congrArg (fun z : He.AlD => z.1) e
  have e2 : fn.map (fun d => He.fnW (He.frT h.get? (asW h.get?)) d.at_) = fn.map He.DefD.val := congrArg (fun z : He.AlD => z.2) e
  obtain ⟨h1, h2⟩ := He.ba e1
  obtain ⟨h3, h4⟩ := He.ba h2
  refine ⟨?_, h3, fun p hp => ?_⟩
  · show ((([] : List He.Fa).all fun f => f.ok _) && fn.all fun d => d.ok _, fn.map fun d => He.fnW _ d.at_) = (true, fn.map He.DefD.val)
    rw [e2, h1]
    rfl
  · obtain ⟨h5, h6⟩ := He.ba (List.all_eq_true.mp h4 p hp)
    cases q : h.get? p.2 with
    | none => rw [q] at h6; cases h6
    | some o =>
      rw [q] at h6
      exact ⟨⟨h5, by rw [He.emptyTab_eq h6]⟩, He.frT_none q h6⟩
def hookW (fn : List He.DefD) (ex : PySem.W.Frag → Bool) : PySem.W.Hook where
  α := He.AlD
  obs := fun s => obsW fn ex s.heap.get?
  val := fun _ => He.valD fn
  says := fun _ h => ∃ K : PySem.W.Frag, K.In h ∧ SaysW fn ex h K
  of := fun _ _ e => ⟨_, He.frT_in, saysW_of e⟩
  keeps := fun _ _ _ ⟨K, hK, c⟩ k => ⟨K, PySem.W.Frag.In.keeps hK k, ⟨c.d, c.ex, fun p hp => ⟨⟨(c.tabs p hp).1.1, k _ _ (c.tabs p hp).1.2⟩, (c.tabs p hp).2⟩⟩⟩
theorem obsW_eq {fn : List He.DefD} {ex : PySem.W.Frag → Bool} {g : Addr → Option Obj} {s : Shared} (h : ∀ a, g a = s.heap.get? a) : obsW fn ex g = (hookW fn ex).obs s := by
  have e : g = s.heap.get? := funext h
  rw [e] <;> rfl
section
variable {fn : List He.DefD} {K : PySem.W.Frag} {h : Heap}
/-- a def's object -/
theorem def_at {fa : List He.Fa} (c : He.SaysD fa fn K) (i : Nat) {d : He.DefD} (hi : fn[i]? = some d) (e1 : d.dfl = []) : ∃ (oc : Value) (od an : Option Addr) (sl : Array (Option Value)) (kV dc pm cd ct : Value),
    K.lookup (He.fAd K d.at_) = some ⟨oc, od, .func (PySem.W.fnOf d.name d.qual d.params d.body d.scope .none kV dc pm an cd ct), sl⟩ ∧ PySem.W.codeIn K cd d.qual = true ∧ PySem.W.keepIn K (.ref (He.fAd K d.at_)) = true := by
  obtain ⟨fd, F⟩ := c.def_ i hi
  obtain ⟨⟨oc, od, dV, kV, doc, pm, an, cdv, ct, osl, rfl, lk, hc, hd, _⟩, kp⟩ := F
  have hdv : d.dvs K = [] := by unfold He.DefD.dvs; rw [e1]; rfl
  rw [hdv] at hd
  rcases hd with ⟨_, rfl⟩ | ⟨z, _⟩
  · exact ⟨_, _, _, _, _, _, _, _, _, lk, hc, kp⟩
  · exact absurd rfl z
/-- sys.modules' object is a dict -/
def smB (K : PySem.W.Frag) : Bool := match K.lookup sysModules with
  | some ⟨.type c, _, _, _⟩ => decide (c = "dict")
  | _ => false
theorem smB_ok {K : PySem.W.Frag} (q : smB K = true) : ∃ o, K.lookup sysModules = some o ∧ o.cls = .type "dict" := by
  unfold smB at q
  split at q
  · rename_i c d e s h
    have e := of_decide_eq_true q
    subst e
    exact ⟨_, h, rfl⟩
  · cases q
def intB (K : PySem.W.Frag) (x : Str) (i : Int) : Bool := match PySem.W.nsIn K mainGlobals x with
  | some (some (.int j _)) => decide (j = i)
  | _ => false
theorem intB_ok {x : Str} {i : Int} (q : intB K x i = true) : ∃ t, PySem.W.nsIn K mainGlobals x = some (some (.int i t)) := by
  unfold intB at q
  split at q
  · rename_i j t hh
    have e := of_decide_eq_true q
    subst e
    exact ⟨t, hh⟩
  · cases q
theorem exs_at {exs : List (PySem.W.Frag → Bool)} (c : (exs.all fun f => f K) = true) (i : Nat) {f : PySem.W.Frag → Bool} (h : exs[i]? = some f) : f K = true := List.all_eq_true.mp c f (List.mem_of_getElem? h)
theorem walk_TE {l : PySem.W.OpenLaw} {n k : Nat} {q : Program} {loose : List Str} {XP : (Str → Option Value) → Heap → Prop} {YP : World → Heap → Prop} {d : DefRec} {sp : PySem.W.Frag → Sp} {x : Str}
    (hn : l.most = some n) (hn2 : n ≤ sizeLine) (hdf : d.params.defaults = []) (hr : Room k callerA)
    (F : ∀ (w : World) (mg : Str → Option Value) (fa : Addr) (h : Heap), YP w h → h.Ns mainGlobals mg → mg d.name = some (.ref fa) →
      ∃ K : PySem.W.Frag, K.In h ∧ (∀ p ∈ tabCs K, (PySem.W.CodeHd h p.1 p.2 ∧ h.get? p.2 = some { cls := .none, data := .fields #[] }) ∧ K.lookup p.2 = none) ∧
        ∃ fd : FuncData, (∀ (s : Shared) (u : Value), BindsTo s fd ⟨[u], []⟩ [(x, u)]) ∧ ∀ base : Heap, K.In base → base.Ns mainGlobals mg → (∀ p ∈ tabCs K, LamX.TabB base mg p.1 p.2) → FnG l.prog w K mg base CX0 k fa fd [x] (sp K))
    (hsp : ∀ (K : PySem.W.Frag) (H : Hp) (a : Addr) (ns : List Int), ns.length ≤ n → (∀ p ∈ tabCs K, H p.2 = some (.tbl #[])) → SqL K H a (ns.map V.int) → sp K [.ref a] H (fun v _ => v = .bl true) fun _ _ _ => False) :
    PySem.W.WalkO q loose XP YP l.row.toRowW d [] (fun f vs => PySem.call f vs) := by
  refine Att.attach_call hn hdf fun w s₀ s₁ mg mb fa o pm cd doc a vs ns G Y ho hd hcd hmg hobj hints hlen hg => ?_
  obtain ⟨K, KX, both, fd, hb, hF⟩ := F w mg fa _ Y G.T.g hmg
  exact law_callT KX G.T.g G.T.b G.T.builtins G.T.nolimit hg (fun p hp => (both p hp).1) (fun p hp => (both p hp).2) G.T.bmain hobj hints (Nat.le_trans hlen hn2) hr hF hb fun H h1 hS => hsp K H a ns hlen h1 hS
theorem tabs_ok {ex : PySem.W.Frag → Bool} (X : K.In h) (c : SaysW fn ex h K) : ∀ p ∈ tabCs K, (PySem.W.CodeHd h p.1 p.2 ∧ h.get? p.2 = some { cls := .none, data := .fields #[] }) ∧ K.lookup p.2 = none := fun p hp =>
  ⟨⟨PySem.W.codeHd_of_K X (c.tabs p hp).1.1, (c.tabs p hp).1.2⟩, (c.tabs p hp).2⟩
end
end DL
namespace DL.M
open PySem PySem.Spec PyProof.Rows L2
def topS (i : Nat) : Stmt := PySem.Challenge.pw_workwishes_k47_changes_of_anything.main.body.getD i (.Pass ⟨0, 0, 0, 0⟩)
abbrev s_p_is_number : Stmt := topS 1
abbrev s_f_law_deck : Stmt := topS 22
abbrev s_f_law_next : Stmt := topS 23
abbrev s_f_law_says : Stmt := topS 24
abbrev s_f_law_is_from : Stmt := topS 25
abbrev s_f_law_odd : Stmt := topS 27
abbrev s_p_is_from : Stmt := topS 2
abbrev s_f_law_is_rising : Stmt := topS 26
abbrev s_f_law_rows_of : Stmt := topS 28
abbrev s_f_law_wish : Stmt := topS 30
abbrev s_f_law_is_wish : Stmt := topS 33
abbrev s_p_is_rising : Stmt := topS 3
abbrev s_p_is_wish : Stmt := topS 12
abbrev s_p_is_place : Stmt := topS 15
abbrev s_p_is_longer : Stmt := topS 17
abbrev s_p_is_away : Stmt := topS 18
abbrev s_f_law_work : Stmt := topS 29
abbrev s_f_law_is_work : Stmt := topS 32
abbrev s_p_is_work : Stmt := topS 11
abbrev s_p_is_wish_more : Stmt := topS 14
abbrev s_p_is_hand_more : Stmt := topS 19
abbrev s_f_law_system : Stmt := topS 31
abbrev s_f_law_is_changem : Stmt := topS 35
abbrev s_f_law_changem : Stmt := topS 36
abbrev s_p_is_work_more : Stmt := topS 16
abbrev s_f_law_any_system : Stmt := topS 34
abbrev s_p_is_change : Stmt := topS 20
abbrev s_f_law_nearm : Stmt := topS 37
abbrev s_f_law_bentm : Stmt := topS 38
abbrev s_p_law : Stmt := topS 39
end DL.M
namespace DL
open PySem PySem.Spec PyProof.Rows L2
namespace HeadF
open PySem PySem.Spec PyProof.Rows L2
def d_p_is_number : He.DefD := ⟨("is_number", none), "is_number", "is_number", defArgs (DL.M.s_p_is_number), defBody (DL.M.s_p_is_number), defScope (DL.M.s_p_is_number), [], []⟩
def d_f_law_deck : He.DefD := ⟨("_law_deck", none), "_law_deck", "_law_deck", defArgs (DL.M.s_f_law_deck), defBody (DL.M.s_f_law_deck), defScope (DL.M.s_f_law_deck), [], []⟩
def d_f_law_next : He.DefD := ⟨("_law_next", none), "_law_next", "_law_next", defArgs (DL.M.s_f_law_next), defBody (DL.M.s_f_law_next), defScope (DL.M.s_f_law_next), [], []⟩
def d_f_law_says : He.DefD := ⟨("_law_says", none), "_law_says", "_law_says", defArgs (DL.M.s_f_law_says), defBody (DL.M.s_f_law_says), defScope (DL.M.s_f_law_says), [], []⟩
def d_f_law_is_from : He.DefD := ⟨("_law_is_from", none), "_law_is_from", "_law_is_from", defArgs (DL.M.s_f_law_is_from), defBody (DL.M.s_f_law_is_from), defScope (DL.M.s_f_law_is_from), [], []⟩
def d_f_law_odd : He.DefD := ⟨("_law_odd", none), "_law_odd", "_law_odd", defArgs (DL.M.s_f_law_odd), defBody (DL.M.s_f_law_odd), defScope (DL.M.s_f_law_odd), [], []⟩
def d_p_is_from : He.DefD := ⟨("is_from", none), "is_from", "is_from", defArgs (DL.M.s_p_is_from), defBody (DL.M.s_p_is_from), defScope (DL.M.s_p_is_from), [], []⟩
def d_f_law_is_rising : He.DefD := ⟨("_law_is_rising", none), "_law_is_rising", "_law_is_rising", defArgs (DL.M.s_f_law_is_rising), defBody (DL.M.s_f_law_is_rising), defScope (DL.M.s_f_law_is_rising), [], []⟩
def d_f_law_rows_of : He.DefD := ⟨("_law_rows_of", none), "_law_rows_of", "_law_rows_of", defArgs (DL.M.s_f_law_rows_of), defBody (DL.M.s_f_law_rows_of), defScope (DL.M.s_f_law_rows_of), [], []⟩
def d_f_law_wish : He.DefD := ⟨("_law_wish", none), "_law_wish", "_law_wish", defArgs (DL.M.s_f_law_wish), defBody (DL.M.s_f_law_wish), defScope (DL.M.s_f_law_wish), [], []⟩
def d_f_law_is_wish : He.DefD := ⟨("_law_is_wish", none), "_law_is_wish", "_law_is_wish", defArgs (DL.M.s_f_law_is_wish), defBody (DL.M.s_f_law_is_wish), defScope (DL.M.s_f_law_is_wish), [], []⟩
def d_p_is_rising : He.DefD := ⟨("is_rising", none), "is_rising", "is_rising", defArgs (DL.M.s_p_is_rising), defBody (DL.M.s_p_is_rising), defScope (DL.M.s_p_is_rising), [], []⟩
def d_p_is_wish : He.DefD := ⟨("is_wish", none), "is_wish", "is_wish", defArgs (DL.M.s_p_is_wish), defBody (DL.M.s_p_is_wish), defScope (DL.M.s_p_is_wish), [], []⟩
def d_p_is_place : He.DefD := ⟨("is_place", none), "is_place", "is_place", defArgs (DL.M.s_p_is_place), defBody (DL.M.s_p_is_place), defScope (DL.M.s_p_is_place), [], []⟩
def d_p_is_longer : He.DefD := ⟨("is_longer", none), "is_longer", "is_longer", defArgs (DL.M.s_p_is_longer), defBody (DL.M.s_p_is_longer), defScope (DL.M.s_p_is_longer), [], []⟩
def d_p_is_away : He.DefD := ⟨("is_away", none), "is_away", "is_away", defArgs (DL.M.s_p_is_away), defBody (DL.M.s_p_is_away), defScope (DL.M.s_p_is_away), [], []⟩
def d_f_law_work : He.DefD := ⟨("_law_work", none), "_law_work", "_law_work", defArgs (DL.M.s_f_law_work), defBody (DL.M.s_f_law_work), defScope (DL.M.s_f_law_work), [], []⟩
def d_f_law_is_work : He.DefD := ⟨("_law_is_work", none), "_law_is_work", "_law_is_work", defArgs (DL.M.s_f_law_is_work), defBody (DL.M.s_f_law_is_work), defScope (DL.M.s_f_law_is_work), [], []⟩
def d_p_is_work : He.DefD := ⟨("is_work", none), "is_work", "is_work", defArgs (DL.M.s_p_is_work), defBody (DL.M.s_p_is_work), defScope (DL.M.s_p_is_work), [], []⟩
def d_p_is_wish_more : He.DefD := ⟨("is_wish_more", none), "is_wish_more", "is_wish_more", defArgs (DL.M.s_p_is_wish_more), defBody (DL.M.s_p_is_wish_more), defScope (DL.M.s_p_is_wish_more), [], []⟩
def d_p_is_hand_more : He.DefD := ⟨("is_hand_more", none), "is_hand_more", "is_hand_more", defArgs (DL.M.s_p_is_hand_more), defBody (DL.M.s_p_is_hand_more), defScope (DL.M.s_p_is_hand_more), [], []⟩
def d_f_law_system : He.DefD := ⟨("_law_system", none), "_law_system", "_law_system", defArgs (DL.M.s_f_law_system), defBody (DL.M.s_f_law_system), defScope (DL.M.s_f_law_system), [], []⟩
def d_f_law_is_changem : He.DefD := ⟨("_law_is_change", none), "_law_is_change", "_law_is_change", defArgs (DL.M.s_f_law_is_changem), defBody (DL.M.s_f_law_is_changem), defScope (DL.M.s_f_law_is_changem), [], []⟩
def d_f_law_changem : He.DefD := ⟨("_law_change", none), "_law_change", "_law_change", defArgs (DL.M.s_f_law_changem), defBody (DL.M.s_f_law_changem), defScope (DL.M.s_f_law_changem), [], []⟩
def d_p_is_work_more : He.DefD := ⟨("is_work_more", none), "is_work_more", "is_work_more", defArgs (DL.M.s_p_is_work_more), defBody (DL.M.s_p_is_work_more), defScope (DL.M.s_p_is_work_more), [], []⟩
def d_f_law_any_system : He.DefD := ⟨("_law_any_system", none), "_law_any_system", "_law_any_system", defArgs (DL.M.s_f_law_any_system), defBody (DL.M.s_f_law_any_system), defScope (DL.M.s_f_law_any_system), [], []⟩
def d_p_is_change : He.DefD := ⟨("is_change", none), "is_change", "is_change", defArgs (DL.M.s_p_is_change), defBody (DL.M.s_p_is_change), defScope (DL.M.s_p_is_change), [], []⟩
def d_f_law_nearm : He.DefD := ⟨("_law_near", none), "_law_near", "_law_near", defArgs (DL.M.s_f_law_nearm), defBody (DL.M.s_f_law_nearm), defScope (DL.M.s_f_law_nearm), [], []⟩
def d_f_law_bentm : He.DefD := ⟨("_law_bent", none), "_law_bent", "_law_bent", defArgs (DL.M.s_f_law_bentm), defBody (DL.M.s_f_law_bentm), defScope (DL.M.s_f_law_bentm), [], []⟩
def d_p_law : He.DefD := ⟨("law", none), "law", "law", defArgs (DL.M.s_p_law), defBody (DL.M.s_p_law), defScope (DL.M.s_p_law), [], []⟩
def dfs_0 : List (He.DefD) := [d_p_is_number, d_f_law_deck, d_f_law_next, d_f_law_says, d_f_law_is_from, d_f_law_odd, d_p_is_from, d_f_law_is_rising, d_f_law_rows_of, d_f_law_wish, d_f_law_is_wish, d_p_is_rising, d_p_is_wish, d_p_is_place, d_p_is_longer, d_p_is_away, d_f_law_work, d_f_law_is_work, d_p_is_work, d_p_is_wish_more, d_p_is_hand_more, d_f_law_system, d_f_law_is_changem, d_f_law_changem, d_p_is_work_more, d_f_law_any_system, d_p_is_change, d_f_law_nearm, d_f_law_bentm, d_p_law]
def dfs : List (He.DefD) := dfs_0
def exs_0 : List (PySem.W.Frag → Bool) := [fun K => decide (PySem.W.nsIn K mainGlobals "is_number" = some (some (.ref (He.fAd K d_p_is_number.at_)))), fun K => decide (PySem.W.nsIn K mainGlobals "_law_deck" = some (some (.ref (He.fAd K d_f_law_deck.at_)))), fun K => decide (PySem.W.nsIn K mainGlobals "_law_next" = some (some (.ref (He.fAd K d_f_law_next.at_)))), fun K => decide (PySem.W.nsIn K mainGlobals "_law_says" = some (some (.ref (He.fAd K d_f_law_says.at_)))), fun K => decide (PySem.W.nsIn K mainGlobals "_law_is_from" = some (some (.ref (He.fAd K d_f_law_is_from.at_)))), fun K => decide (PySem.W.nsIn K mainGlobals "_law_odd" = some (some (.ref (He.fAd K d_f_law_odd.at_)))), fun K => decide (PySem.W.nsIn K mainGlobals "is_from" = some (some (.ref (He.fAd K d_p_is_from.at_)))), fun K => decide (PySem.W.nsIn K mainGlobals "_law_is_rising" = some (some (.ref (He.fAd K d_f_law_is_rising.at_)))), fun K => decide (PySem.W.nsIn K mainGlobals "_law_rows_of" = some (some (.ref (He.fAd K d_f_law_rows_of.at_)))), fun K => decide (PySem.W.nsIn K mainGlobals "_law_wish" = some (some (.ref (He.fAd K d_f_law_wish.at_)))), fun K => decide (PySem.W.nsIn K mainGlobals "_law_is_wish" = some (some (.ref (He.fAd K d_f_law_is_wish.at_)))), fun K => decide (PySem.W.nsIn K mainGlobals "is_rising" = some (some (.ref (He.fAd K d_p_is_rising.at_)))), fun K => decide (PySem.W.nsIn K mainGlobals "is_wish" = some (some (.ref (He.fAd K d_p_is_wish.at_)))), fun K => decide (PySem.W.nsIn K mainGlobals "is_place" = some (some (.ref (He.fAd K d_p_is_place.at_)))), fun K => decide (PySem.W.nsIn K mainGlobals "is_longer" = some (some (.ref (He.fAd K d_p_is_longer.at_)))), fun K => decide (PySem.W.nsIn K mainGlobals "is_away" = some (some (.ref (He.fAd K d_p_is_away.at_)))), fun K => decide (PySem.W.nsIn K mainGlobals "_law_work" = some (some (.ref (He.fAd K d_f_law_work.at_)))), fun K => decide (PySem.W.nsIn K mainGlobals "_law_is_work" = some (some (.ref (He.fAd K d_f_law_is_work.at_)))), fun K => decide (PySem.W.nsIn K mainGlobals "is_work" = some (some (.ref (He.fAd K d_p_is_work.at_)))), fun K => decide (PySem.W.nsIn K mainGlobals "is_wish_more" = some (some (.ref (He.fAd K d_p_is_wish_more.at_)))), fun K => decide (PySem.W.nsIn K mainGlobals "is_hand_more" = some (some (.ref (He.fAd K d_p_is_hand_more.at_)))), fun K => decide (PySem.W.nsIn K mainGlobals "_law_system" = some (some (.ref (He.fAd K d_f_law_system.at_)))), fun K => decide (PySem.W.nsIn K mainGlobals "_law_is_change" = some (some (.ref (He.fAd K d_f_law_is_changem.at_)))), fun K => decide (PySem.W.nsIn K mainGlobals "_law_change" = some (some (.ref (He.fAd K d_f_law_changem.at_)))), fun K => decide (PySem.W.nsIn K mainGlobals "is_work_more" = some (some (.ref (He.fAd K d_p_is_work_more.at_)))), fun K => decide (PySem.W.nsIn K mainGlobals "_law_any_system" = some (some (.ref (He.fAd K d_f_law_any_system.at_)))), fun K => decide (PySem.W.nsIn K mainGlobals "is_change" = some (some (.ref (He.fAd K d_p_is_change.at_)))), fun K => decide (PySem.W.nsIn K mainGlobals "_law_near" = some (some (.ref (He.fAd K d_f_law_nearm.at_)))), fun K => decide (PySem.W.nsIn K mainGlobals "_law_bent" = some (some (.ref (He.fAd K d_f_law_bentm.at_)))), fun K => decide (PySem.W.nsIn K mainGlobals "law" = some (some (.ref (He.fAd K d_p_law.at_))))]
def exs_1 : List (PySem.W.Frag → Bool) := [fun K => decide (smB K = true), fun K => decide (PySem.W.nsIn K mainGlobals "abs" = some none), fun K => decide (PySem.W.nsIn K mainGlobals "all" = some none), fun K => decide (PySem.W.nsIn K mainGlobals "bool" = some none), fun K => decide (PySem.W.nsIn K mainGlobals "int" = some none), fun K => decide (PySem.W.nsIn K mainGlobals "isinstance" = some none), fun K => decide (PySem.W.nsIn K mainGlobals "len" = some none), fun K => decide (PySem.W.nsIn K mainGlobals "list" = some none), fun K => decide (PySem.W.nsIn K mainGlobals "max" = some none), fun K => decide (PySem.W.nsIn K mainGlobals "min" = some none), fun K => decide (PySem.W.nsIn K mainGlobals "range" = some none), fun K => decide (PySem.W.nsIn K mainGlobals "repr" = some none), fun K => decide (PySem.W.nsIn K mainGlobals "str" = some none), fun K => decide (PySem.W.nsIn K mainGlobals "tuple" = some none), fun K => decide (PySem.W.nsIn K mainGlobals "zip" = some none), fun K => intB K "MOST_HANDS" 5, fun K => intB K "MOST_LENGTH" 10, fun K => intB K "MOST_WEIGHT" 100, fun K => intB K "MOST_WISHES" 24, fun K => intB K "MOST_WORKS" 12, fun K => intB K "RANKS" 4]
def exs : List (PySem.W.Frag → Bool) := exs_0 ++ exs_1
def loose_0 : List (PySem.Str) := ["is_number", "is_from", "is_rising", "MOST_HANDS", "MOST_WORKS", "MOST_LENGTH", "MOST_WISHES", "MOST_WEIGHT", "RANKS", "is_work", "is_wish", "is_wish_more", "is_place", "is_work_more", "is_longer", "is_away", "is_hand_more", "is_change", "_law_deck", "_law_next", "_law_says", "_law_is_from", "_law_is_rising", "_law_odd", "_law_rows_of", "_law_work", "_law_wish", "_law_system", "_law_is_work", "_law_is_wish"]
def loose_1 : List (PySem.Str) := ["_law_any_system", "_law_is_change", "_law_change", "_law_near", "_law_bent"]
def loose : List (PySem.Str) := loose_0 ++ loose_1
abbrev R : PySem.W.OpenRow := PySem.W.OpenLaw.row PySem.Challenge.rw_workwishes_k47_changes_of_anything
abbrev hk : PySem.W.Hook := hookW dfs (fun K => exs.all fun f => f K)
def ob (s : PySem.W.SharedT) : He.AlD := obsW dfs (fun K => exs.all fun f => f K) (HandSHeadRun.getT s)
theorem ob_eq (s : PySem.W.SharedT) : ob s = hk.obs s.abs := obsW_eq (HandSHeadRun.getT_eq s)
theorem run (w : World) : HandSHeadRun.RunEq R (PySem.W.view R.prog [39]) hk ob 40000 loose w := by
  intro os
  kernel_rfl
end HeadF
end DL
namespace DL
open PySem PySem.Spec PyProof.Rows L2
variable [Bs]
structure Spec where
  n : Nat
  G : Type
  args : G → List D
  pre : G → Sto → Prop
  post : G → Sto → D → Sto → Prop
def spOf (K : PySem.W.Frag) (S : Spec) : Sp := fun vs H Q _ => ∃ g io F st, (S.args g).length = S.n ∧ RelH K H io F st ∧ DenL K io F vs (S.args g) ∧ S.pre g st ∧ ∀ d st', S.post g st d st' → kE K H io F Q d st'
def wCall (S : Spec) (wa : DA) : DE := fun env st Q => wa env st fun ds s1 => ∃ g, ds = S.args g ∧ (S.args g).length = S.n ∧ S.pre g s1 ∧ ∀ d s2, S.post g s1 d s2 → Q d s2
section
variable {X : Cx} {pos p : Pos} {e : Expr} {es : List Expr} {wa : DA} {k : Nat} {f : Addr} {fd : FuncData} {ps : List Str} {x : Str}
theorem moCall {S : Spec} {wa : DA} (m : MoA wa) : MoE (wCall S wa) := fun _ _ _ _ i q => m _ _ _ _ (fun _ _ ⟨g, e, z, p, q⟩ => ⟨g, e, z, p, fun d s h => i _ _ (q d s h)⟩) q
theorem we_call {S : Spec} (F : FnG X.prog X.w X.K X.mg X.base CX0 k f fd ps (spOf X.K S)) (hr : Room k X.A) (hgd : X.A.guards = some []) (hg : Gl X x) (hm : X.mg x = some (.ref f)) (hk : PySem.W.keepIn X.K (.ref f) = true) (hb : Binds X.K fd ps [])
    (ha : WA X (e :: es) wa) (hdb : (x == ("__debug__" : Str)) = false := by decide) (he : starEach (e :: es) X.env = (false, eval e X.env) :: starEach es X.env := by rfl) (hpl : (backTo pos (starEach es X.env)).any (·.1) = false := by rfl) :
    WE X (.Call (.Name x p) (e :: es) [] pos) (wCall S wa) := by
  refine ⟨moCall ha.mo, PE_imp (pe_callG F hr hgd hg hm hk hb pass0 ha.pe hdb he hpl) fun σ H Q ⟨env, io, F, st, R, q⟩ => ?_⟩
  refine tA_use ha.mo R q fun ds s1 vs io1 F1 H1 ⟨g, eg, z, p1, q1⟩ t1 R1 n1 => ?_
  subst eg
  exact ⟨g, io1, F1, s1, z, R1.toRelH, n1, p1, fun d s2 h => kE_later t1 (q1 d s2 h)⟩
abbrev RLD := List D → Sto → DK → Prop
structure RzL (K : PySem.W.Frag) (r : List V → Hp → VK → Prop) (f : RLD) : Prop where
  mo : ∀ ds s Q Q', (∀ d s, Q d s → Q' d s) → f ds s Q → f ds s Q'
  on : ∀ {H io F st vs ds Q}, RelH K H io F st → DenL K io F vs ds → f ds st (kE K H io F Q) → r vs H Q
def wCB (f : RLD) (wa : DA) : DE := fun env st Q => wa env st fun ds s1 => f ds s1 Q
theorem we_callX {r : List V → Hp → VK → Prop} {f : RLD} (z : RzL X.K r f) {e0 : Expr} (pe : ∀ {t : TA}, PA X es t → PE X e0 (tCB r t)) (ha : WA X es wa) : WE X e0 (wCB f wa) := by
  refine ⟨fun _ _ _ _ i q => ha.mo _ _ _ _ (fun _ _ q => z.mo _ _ _ _ i q) q, PE_imp (pe ha.pe) fun σ H Q ⟨env, io, F, st, R, q⟩ => ?_⟩
  refine tA_use ha.mo R q fun ds s1 vs io1 F1 H1 q1 t1 R1 n1 => ?_
  exact z.on R1.toRelH n1 (z.mo _ _ _ _ (fun _ _ => kE_later t1) q1)
end
section
variable {X : Cx} {pos pos' : Pos} {e : Expr} {we : DE} {ss rest : Stmt} {sts : List Stmt} {ws wr : DS}
theorem wb_nil : WB X [] (fun D env st => D.nx env st) := ⟨fun _ _ _ _ l q => l.nx _ _ q, PSs_imp pss_nil fun D σ H ⟨env, io, F, st, R, q⟩ => q σ io F H Stp.refl R⟩
def wSeq (a b : DS) : DS := fun D env st => a { D with nx := fun e s => b D e s } env st
theorem kD_seq {K : PySem.W.Frag} {H : Hp} {io : List Addr} {F : Hp} {D : Ends} {b : DS} (mb : MoS b) : DEnds.le { kD K H io F D with nx := fun e s => b (kD K H io F D) e s } (kD K H io F { D with nx := tS K b D }) :=
  ⟨fun e s h σ' io' F' H' t R => ⟨e, io', F', s, R, mb _ _ _ _ (kD_later t) h⟩, fun _ _ h => h, fun _ _ h => h, fun _ _ h => h⟩
theorem wb_cons (h1 : WS X ss ws) (h2 : WB X sts wr) : WB X (ss :: sts) (wSeq ws wr) := by
  refine ⟨fun A B e s l q => h1.mo { A with nx := fun e s => wr A e s } _ _ _ ⟨fun e s q => h2.mo A B _ _ l q, l.rt, l.bk, l.ct⟩ q, PSs_imp (pss_cons h1.pe h2.pe) fun D σ H ⟨env, io, F, st, R, q⟩ => ?_⟩
  exact ⟨env, io, F, st, R, h1.mo _ _ _ _ (kD_seq h2.mo) q⟩
theorem wb_one (h1 : WS X ss ws) : WB X [ss] ws := ⟨h1.mo, pss_one h1.pe⟩
def wDrop (we : DE) : DS := fun D env st => we env st fun _ s => D.nx env s
theorem ws_expr (he : WE X e we) (hs : swapsWith e none pos.line X.env = pure false := by rfl) : WS X (.Expr e pos) (wDrop we) := by
  refine ⟨fun _ _ _ _ l q => he.mo _ _ _ _ (fun _ _ q => l.nx _ _ q) q, PS_imp (ps_expr he.pe hs) fun D σ H ⟨env, io, F, st, R, q⟩ => ?_⟩
  exact tE_use he.mo R q fun d s1 v io1 F1 H1 q1 t1 R1 n1 => q1 σ _ _ _ t1 R1
def wRet (we : DE) : DS := fun D env st => we env st D.rt
theorem ws_ret (he : WE X e we) : WS X (.Return (some e) pos) (wRet we) := by
  refine ⟨fun _ _ _ _ l q => he.mo _ _ _ _ (fun _ _ q => l.rt _ _ q) q, PS_imp (ps_ret he.pe) fun D σ H ⟨env, io, F, st, R, q⟩ => ?_⟩
  exact tE_use he.mo R q fun d s1 v io1 F1 H1 q1 t1 R1 n1 => kE_at q1 t1 R1.toRelH n1
def wIf (c : DT) (a b : DS) : DS := fun D env st => c env st fun k s => if k = true then a D env s else b D env s
theorem ws_if {c : Expr} {a b : List Stmt} {wc : DT} {wa wb : DS} (hc : WT X c wc) (ha : WB X a wa) (hb : WB X b wb) : WS X (.If c a b pos) (wIf wc wa wb) := by
  refine ⟨fun _ _ _ _ l q => hc.mo _ _ _ _ (fun k _ q => by
    cases k with
    | true => exact ha.mo _ _ _ _ l q
    | false => exact hb.mo _ _ _ _ l q) q, PS_imp (ps_if hc.pe ha.pe hb.pe) fun D σ H ⟨env, io, F, st, R, q⟩ => ?_⟩
  refine tT_use hc.mo R q fun k s1 io1 F1 H1 q1 t1 R1 => ?_
  cases k with
  | true => exact ⟨env, io1, F1, s1, R1, ha.mo _ _ _ _ (kD_later t1) q1⟩
  | false => exact ⟨env, io1, F1, s1, R1, hb.mo _ _ _ _ (kD_later t1) q1⟩
abbrev DG := D → En → Sto → (En → Sto → Prop) → Prop
def MoG (g : DG) : Prop := ∀ d e s (Q Q' : En → Sto → Prop), (∀ e s, Q e s → Q' e s) → g d e s Q → g d e s Q'
def tG (K : PySem.W.Frag) (g : DG) : TG := fun v σ H Q => ∃ d env io F st, Rel K σ H env io F st ∧ Den K io F v d ∧ g d env st (kN K H io F Q)
structure WG (X : Cx) (e : Expr) (g : DG) : Prop where
  mo : MoG g
  pe : PG X e (tG X.K g)
abbrev DGs := List D → En → Sto → (En → Sto → Prop) → Prop
def MoGs (g : DGs) : Prop := ∀ d e s (Q Q' : En → Sto → Prop), (∀ e s, Q e s → Q' e s) → g d e s Q → g d e s Q'
def tGs (K : PySem.W.Frag) (g : DGs) : TGs := fun vs σ H Q => ∃ ds env io F st, Rel K σ H env io F st ∧ DenL K io F vs ds ∧ g ds env st (kN K H io F Q)
structure WGs (X : Cx) (es : List Expr) (g : DGs) : Prop where
  mo : MoGs g
  pe : PGs X es (tGs X.K g)
theorem PG_imp {t t' : TG} (h : PG X e t) (i : ∀ v σ H Q, t' v σ H Q → t v σ H Q) : PG X e t' := ⟨fun p s σ H v u Q I r q => h.run p s σ H v u Q I r (i v σ H Q q)⟩
theorem PGs_imp {es : List Expr} {t t' : TGs} (h : PGs X es t) (i : ∀ v σ H Q, t' v σ H Q → t v σ H Q) : PGs X es t' := ⟨fun p s σ H v u Q I r q => h.run p s σ H v u Q I r (i v σ H Q q)⟩
theorem Rel.set {K : PySem.W.Frag} {σ : L2.St} {H : Hp} {env : En} {io : List Addr} {F : Hp} {st : Sto} {i : Nat} {v : V} {d : D} (R : Rel K σ H env io F st) (n : Den K io F v d) : Rel K (σ.set i (some v)) H (env.set i (some d)) io F st :=
  { R.toRelH with
    bs := R.bs
    sl := by rw [List.length_set, List.length_set]; exact R.sl
    slot := fun j d' e => by
      by_cases hj : i = j
      · subst hj
        by_cases hl : i < env.length
        · rw [List.getElem?_set_self hl] at e
          cases e
          exact ⟨v, List.getElem?_set_self (by rw [R.sl]; exact hl), n⟩
        · rw [List.getElem?_eq_none (by rw [List.length_set]; omega)] at e
          cases e
      · rw [List.getElem?_set_ne hj] at e ⊢
        exact R.slot j d' e }
def gNm (i : Nat) : DG := fun d env st Q => Q (env.set i (some d)) st
theorem wg_name {i : Nat} {x : Str} (hN : X.N.Nodup) (hi : X.N[i]? = some x) (hx : Loc X.env.scope x) (hf : X.fn x = true ∨ X.env.scope.names.lookup x = some .local := by first | exact .inl rfl | exact .inr rfl | assumption) : WG X (.Name x pos) (gNm i) :=
  ⟨fun _ _ _ _ _ h q => h _ _ q, PG_imp (pg_name hN hi hx hf) fun v σ H Q ⟨d, env, io, F, st, R, n, q⟩ => q _ _ _ _ Stp.refl (R.set n)⟩
def gNl : DGs := fun ds env st Q => ds = [] ∧ Q env st
def gCn (g : DG) (r : DGs) : DGs := fun ds env st Q => ∃ d ds', ds = d :: ds' ∧ g d env st fun e s => r ds' e s Q
theorem wgs_nil : WGs X [] gNl := ⟨fun _ _ _ _ _ h ⟨a, q⟩ => ⟨a, h _ _ q⟩, PGs_imp pgs_nil fun v σ H Q ⟨d, env, io, F, st, R, n, e, q⟩ => by
  subst e
  cases n
  exact ⟨rfl, q _ _ _ _ Stp.refl R⟩⟩
theorem wgs_cons {es : List Expr} {g : DG} {r : DGs} (h1 : WG X e g) (h2 : WGs X es r) (hs : (assignEach (e :: es) X.env).map (·.2) = assign e X.env :: (assignEach es X.env).map (·.2) := by rfl) : WGs X (e :: es) (gCn g r) := by
  refine ⟨fun _ _ _ _ _ h ⟨d, ds', e, q⟩ => ⟨d, ds', e, h1.mo _ _ _ _ _ (fun _ _ q => h2.mo _ _ _ _ _ h q) q⟩, PGs_imp (pgs_cons h1.pe h2.pe hs) fun v σ H Q ⟨ds, env, io, F, st, R, n, q⟩ => ?_⟩
  obtain ⟨d, ds', e, q⟩ := q
  subst e
  cases n with
  | cons n1 n2 =>
    refine ⟨_, _, rfl, d, env, io, F, st, R, n1, h1.mo _ _ _ _ _ (fun e1 s1 q1 => ?_) q⟩
    intro σ' io' F' H' t R'
    exact ⟨ds', e1, io', F', s1, R', t.denL n2, h2.mo _ _ _ _ _ (fun e2 s2 q2 => kN_later t q2) q1⟩
def gTp (n : Nat) (g : DGs) : DG := fun d env st Q => ∃ ds, d = .tup ds ∧ ds.length = n ∧ g ds env st Q
theorem wg_tup {es : List Expr} {k n : Nat} {g : DGs} (hc : X.calm = true) (h : WGs X es g) (hn : (assignEach es X.env).length = n := by rfl) (hst : (assignEach es X.env).findIdx? (·.1) = none := by rfl) : WG X (.Tuple es k pos) (gTp n g) := by
  refine ⟨fun _ _ _ _ _ i ⟨ds, e, z, q⟩ => ⟨ds, e, z, h.mo _ _ _ _ _ i q⟩, PG_imp (pg_tup hc h.pe hn hst) fun v σ H Q ⟨d, env, io, F, st, R, n1, q⟩ => ?_⟩
  obtain ⟨ds, e, z, q⟩ := q
  subst e
  cases n1 with
  | tup s r _ => exact ⟨_, _, rfl, SqT_mono R.sub s.t, by rw [r.length]; exact z, ds, env, io, F, st, R, r, q⟩
def wAsg (we : DE) (g : DG) : DS := fun D env st => we env st fun d s => g d env s D.nx
theorem ws_asg {tg : Expr} {g : DG} (he : WE X e we) (hg : WG X tg g) (hs : swapsWithSole [tg] e pos.line X.env = pure false := by rfl) (hw : swappedStores [tg] e X.env = pure none := by rfl)
    (h1 : (assignEach [tg] X.env).map (·.2) = [assign tg X.env] := by rfl) : WS X (.Assign [tg] e pos) (wAsg we g) := by
  refine ⟨fun _ _ _ _ l q => he.mo _ _ _ _ (fun _ _ q => hg.mo _ _ _ _ _ l.nx q) q, PS_imp (ps_asg he.pe hg.pe hs hw h1) fun D σ H ⟨env, io, F, st, R, q⟩ => ?_⟩
  exact tE_use he.mo R q fun d s1 v io1 F1 H1 q1 t1 R1 n1 => ⟨d, env, io1, F1, s1, R1, n1, hg.mo _ _ _ _ _ (fun e s q => kN_later t1 q) q1⟩
theorem ws_set {i : Nat} {x : Str} (hN : X.N.Nodup) (hi : X.N[i]? = some x) (hx : Loc X.env.scope x) (he : WE X e we) (hs : swapsWith e (some (.Name x pos')) pos.line X.env = pure false := by rfl)
    (hf : X.fn x = true ∨ X.env.scope.names.lookup x = some .local := by first | exact .inl rfl | exact .inr rfl | assumption) : WS X (.Assign [.Name x pos'] e pos) (wAsg we (gNm i)) := by
  refine ⟨fun _ _ _ _ l q => he.mo _ _ _ _ (fun _ _ q => l.nx _ _ q) q, PS_imp (ps_set hN hi hx he.pe hs hf) fun D σ H ⟨env, io, F, st, R, q⟩ => ?_⟩
  exact tE_use he.mo R q fun d s1 v io1 F1 H1 q1 t1 R1 n1 => q1 _ _ _ _ t1 (R1.set n1)
end
end DL
namespace DL
open PySem PySem.Spec PyProof.Rows L2
variable [Bs]
abbrev GK := List D → (Sto → Prop) → Sto → Prop
abbrev DI := En → Sto → GK → Prop
def MoI (w : DI) : Prop := ∀ (e : En) (s : Sto) (Q Q' : GK), (∀ d g s, Q d g s → Q' d g s) → w e s Q → w e s Q'
structure WalkD (K : PySem.W.Frag) (J : It) (H : Hp) (io : List Addr) (F : Hp) (ds : List D) (G : Sto → Prop) : Prop where
  go : ∀ {H2 io2 F2 st2} (i : Nat), Stp H io F H2 io2 F2 → RelH K H2 io2 F2 st2 → G st2 → i < ds.length → J.go i H2
  stop : ∀ {H2 io2 F2 st2}, Stp H io F H2 io2 F2 → RelH K H2 io2 F2 st2 → G st2 → J.stop ds.length H2
  yld : ∀ {H2 io2 F2 st2} (i : Nat) (x : V) (H3 : Hp), Stp H io F H2 io2 F2 → RelH K H2 io2 F2 st2 → G st2 → i < ds.length → J.yld i H2 x H3 →
    ∃ F3 d, Stp H2 io2 F2 H3 io2 F3 ∧ RelH K H3 io2 F3 st2 ∧ ds[i]? = some d ∧ Den K io2 F3 x d
def kI (K : PySem.W.Frag) (H : Hp) (io : List Addr) (F : Hp) (R : It → Hp → Prop) : GK := fun ds G st' => ∀ io' F' H' J, Stp H io F H' io' F' → RelH K H' io' F' st' → WalkD K J H' io' F' ds G → R J H'
def tI (K : PySem.W.Frag) (w : DI) : TI := fun σ H R => ∃ env io F st, Rel K σ H env io F st ∧ w env st (kI K H io F R)
structure WI (X : Cx) (tg iter : Expr) (w : DI) : Prop where
  mo : MoI w
  pe : PI X tg iter (tI X.K w)
theorem PI_imp {X : Cx} {tg iter : Expr} {t t' : TI} (h : PI X tg iter t) (i : ∀ σ H R, t' σ H R → t σ H R) : PI X tg iter t' := ⟨fun p s σ H R I q => h.run p s σ H R I (i σ H R q)⟩
def wForL (G : Sto → Prop) (g : DG) (b : DS) (A : DEnds) : List D → En → Sto → Prop
  | [], env, st => G st ∧ A.nx env st
  | d :: r, env, st => G st ∧ g d env st fun e s => b { nx := wForL G g b A r, rt := A.rt, bk := A.nx, ct := wForL G g b A r } e s
def wFor (wi : DI) (g : DG) (b : DS) : DS := fun D env st => wi env st fun ds G s => wForL G g b D ds env s
theorem moForL {G : Sto → Prop} {g : DG} {b : DS} (mg : MoG g) (mb : MoS b) {A B : DEnds} (l : A.le B) : ∀ (ds : List D) (env : En) (st : Sto), wForL G g b A ds env st → wForL G g b B ds env st
  | [], _, _, ⟨h, q⟩ => ⟨h, l.nx _ _ q⟩
  | d :: r, env, st, ⟨h, q⟩ => ⟨h, mg _ _ _ _ _ (fun e s q => mb { nx := wForL G g b A r, rt := A.rt, bk := A.nx, ct := wForL G g b A r } { nx := wForL G g b B r, rt := B.rt, bk := B.nx, ct := wForL G g b B r } _ _ ⟨moForL mg mb l r, l.rt, l.nx, moForL mg mb l r⟩ q) q⟩
section
variable {X : Cx} {pos : Pos} {tg iter : Expr} {body : List Stmt} {wi : DI} {g : DG} {b : DS}
theorem ws_for (hp : PassesOwn (model X.prog X.w) X.A X.env X.xe) (hc : X.calm = true) (hi : WI X tg iter wi) (hg : WG X tg g) (hb : WB X body b)
    (hs : ∀ x, foldedSetIterable iter X.env x = pure x := by intro _; rfl) : WS X (.For tg iter body [] pos) (wFor wi g b) := by
  refine ⟨fun A B e s l q => hi.mo _ _ _ _ (fun ds G s q => moForL hg.mo hb.mo l ds e s q) q, PS_imp (ps_for hp hc hi.pe hg.pe hb.pe hs) fun D σ H ⟨env, io, F, st, R, q⟩ => ?_⟩
  refine ⟨env, io, F, st, R, hi.mo _ _ _ _ (fun ds G s1 q1 => ?_) q⟩
  intro io1 F1 H1 J t1 R1 W
  let Pv : Nat → L2.St → Hp → Prop := fun i σ' H' => ∃ env' io' F' st', Stp H1 io1 F1 H' io' F' ∧ Rel X.K σ' H' env' io' F' st' ∧ wForL G g b (kD X.K H io F D) (ds.drop i) env' st'
  refine ⟨fun i m σ' H' => m = ds.length - i ∧ i ≤ ds.length ∧ Pv i σ' H', ⟨ds.length, by omega, Nat.zero_le _, env, io1, F1, s1, Stp.refl, R.next t1 R1, by rw [List.drop_zero]; exact q1⟩, ?_⟩
  rintro i m σ2 H2 ⟨rfl, hi2, env2, io2, F2, st2, t2, R2, q2⟩
  by_cases hlt : i < ds.length
  · have hd : ds.drop i = ds[i] :: ds.drop (i + 1) := List.drop_eq_getElem_cons hlt
    rw [hd] at q2
    obtain ⟨hG, q2⟩ := q2
    refine .inr ⟨W.go i t2 R2.toRelH hG hlt, Pv (i + 1), fun σ' H' p => ⟨ds.length - (i + 1), by omega, rfl, hlt, p⟩, fun x H3 y => ?_⟩
    obtain ⟨F3, d, t3, R3, e3, n3⟩ := W.yld i x H3 t2 R2.toRelH hG hlt y
    have ed : d = ds[i] := by rw [List.getElem?_eq_getElem hlt] at e3; exact (Option.some.inj e3).symm
    subst ed
    refine ⟨_, env2, io2, F3, st2, R2.next t3 R3, n3, hg.mo _ _ _ _ _ (fun e4 s4 q4 => ?_) q2⟩
    intro σ4 io4 F4 H4 t4 R4
    refine ⟨e4, io4, F4, s4, R4, hb.mo _ _ _ _ ?_ q4⟩
    have tt := (t2.trans t3).trans t4
    refine ⟨fun e5 s5 q5 => ?_, fun d5 s5 q5 => ?_, fun e5 s5 q5 => ?_, fun e5 s5 q5 => ?_⟩
    · exact fun σ5 io5 F5 H5 t5 R5 => ⟨e5, io5, F5, s5, tt.trans t5, R5, q5⟩
    · exact kE_later (t1.trans tt) q5
    · exact kN_later (t1.trans tt) q5
    · exact fun σ5 io5 F5 H5 t5 R5 => ⟨e5, io5, F5, s5, tt.trans t5, R5, q5⟩
  · have e : i = ds.length := by omega
    subst e
    rw [List.drop_length] at q2
    obtain ⟨hG, q2⟩ := q2
    exact .inl ⟨W.stop t2 R2.toRelH hG, q2 _ _ _ _ (t1.trans t2) R2⟩
def wWhile (c : DT) (b : DS) : DS := fun D env st => ∃ I : Nat → En → Sto → Prop, (∃ m, I m env st) ∧ ∀ m env st, I m env st → c env st fun k s => if k = true then b { nx := fun e s => ∃ m', m' < m ∧ I m' e s, rt := D.rt, bk := D.nx, ct := fun e s => ∃ m', m' < m ∧ I m' e s } env s else D.nx env s
theorem ws_while {c : Expr} {wc : DT} (hp : PassesOwn (model X.prog X.w) X.A X.env X.xe) (hc : WT X c wc) (hb : WB X body b) : WS X (.While c body [] pos) (wWhile wc b) := by
  refine ⟨fun A B e s l ⟨I, i0, q⟩ => ⟨I, i0, fun m e s hI => hc.mo _ _ _ _ (fun k s q => ?_) (q m e s hI)⟩, PS_imp (ps_while hp hc.pe hb.pe) fun D σ H ⟨env, io, F, st, R, I, ⟨m0, i0⟩, q⟩ => ?_⟩
  · cases k with
    | true => exact hb.mo { nx := fun e s => ∃ m', m' < m ∧ I m' e s, rt := A.rt, bk := A.nx, ct := fun e s => ∃ m', m' < m ∧ I m' e s } _ _ _ ⟨fun _ _ h => h, fun _ _ h => l.rt _ _ h, fun _ _ h => l.nx _ _ h, fun _ _ h => h⟩ q
    | false => exact l.nx _ _ q
  · refine ⟨fun m σ' H' => ∃ env' io' F' st', Stp H io F H' io' F' ∧ Rel X.K σ' H' env' io' F' st' ∧ I m env' st', ⟨m0, env, io, F, st, Stp.refl, R, i0⟩, ?_⟩
    rintro m σ1 H1 ⟨env1, io1, F1, st1, t1, R1, i1⟩
    refine tT_use hc.mo R1 (q m env1 st1 i1) fun k s2 io2 F2 H2 q2 t2 R2 => ?_
    cases k with
    | true =>
      rw [if_pos rfl] at q2 ⊢
      refine ⟨fun σ' H' => ∃ m', m' < m ∧ ∃ env' io' F' st', Stp H io F H' io' F' ∧ Rel X.K σ' H' env' io' F' st' ∧ I m' env' st', fun σ' H' h => h, env1, io2, F2, s2, R2, hb.mo _ _ _ _ ?_ q2⟩
      refine ⟨fun e5 s5 ⟨m', hm, q5⟩ => ?_, fun d5 s5 q5 => ?_, fun e5 s5 q5 => ?_, fun e5 s5 ⟨m', hm, q5⟩ => ?_⟩
      · exact fun σ5 io5 F5 H5 t5 R5 => ⟨m', hm, e5, io5, F5, s5, (t1.trans t2).trans t5, R5, q5⟩
      · exact kE_later (t1.trans t2) q5
      · exact kN_later (t1.trans t2) q5
      · exact fun σ5 io5 F5 H5 t5 R5 => ⟨m', hm, e5, io5, F5, s5, (t1.trans t2).trans t5, R5, q5⟩
    | false =>
      rw [if_neg Bool.false_ne_true] at q2 ⊢
      exact q2 _ _ _ _ (t1.trans t2) R2
end
def wipeE (env : En) : List Nat → En
  | [] => env
  | v :: vs => (wipeE env vs).set v none
theorem wipe_rel {K : PySem.W.Frag} {σ : L2.St} {H : Hp} {env : En} {io : List Addr} {F : Hp} {st : Sto} (R : Rel K σ H env io F st) : ∀ vs : List Nat, Rel K (wipe σ vs) H (wipeE env vs) io F st
  | [] => R
  | v :: vs => by
    have ih := wipe_rel R vs
    refine { ih.toRelH with sl := ?_, bs := ih.bs, slot := fun j d e => ?_ }
    · show ((wipe σ vs).set v none).length = ((wipeE env vs).set v none).length
      rw [List.length_set, List.length_set]; exact ih.sl
    · replace e : ((wipeE env vs).set v none)[j]? = some (some d) := e
      show ∃ x, ((wipe σ vs).set v none)[j]? = some (some x) ∧ _
      by_cases hj : v = j
      · subst hj
        by_cases hl : v < (wipeE env vs).length
        · rw [List.getElem?_set_self hl] at e; cases e
        · rw [List.getElem?_eq_none (by rw [List.length_set]; omega)] at e; cases e
      · rw [List.getElem?_set_ne hj] at e ⊢
        exact ih.slot j d e
/-- targets in a comprehension: plain slots -/
inductive Tg where
  | nm (i : Nat) | tp (is : List Nat)
def Tg.dg : Tg → DG
  | .nm i => gNm i
  | .tp is => gTp is.length (is.foldr (fun i r => gCn (gNm i) r) gNl)
def Tg.tg (K : PySem.W.Frag) : Tg → TG
  | .nm i => gName i
  | .tp is => gTup K is.length (is.foldr (fun i r => gCons (gName i) r) gNil)
def Tg.ix : Tg → List Nat
  | .nm i => [i]
  | .tp is => is
theorem wipe_set {σ : L2.St} {x : Option V} {i : Nat} : ∀ {vs : List Nat}, i ∈ vs → wipe (σ.set i x) vs = wipe σ vs
  | v :: vs, h => by
    unfold wipe
    by_cases e : i ∈ vs
    · rw [wipe_set e]
    · have ev : i = v := by rcases List.mem_cons.mp h with z | z; exact z; exact absurd z e
      subst ev
      have : ∀ (vs : List Nat) (σ : L2.St), i ∉ vs → wipe (σ.set i x) vs = (wipe σ vs).set i x := fun vs => by
        induction vs with
        | nil => intro σ _; rfl
        | cons w ws ih =>
          intro σ hn
          unfold wipe
          have h1 : w ≠ i := fun z => hn (by rw [z]; exact List.mem_cons_self)
          rw [ih σ (fun z => hn (List.mem_cons_of_mem _ z)), List.set_comm _ _ h1.symm]
      rw [this vs σ e, List.set_set]
/-- running a target: the slots besides stay -/
theorem Tg.run {K : PySem.W.Frag} {H : Hp} {io : List Addr} {F : Hp} {st : Sto} {vs : List Nat} : ∀ (t : Tg) (hv : ∀ i ∈ t.ix, i ∈ vs) {σ : L2.St} {env : En} {v : V} {d : D} {Q : L2.St → Hp → Prop} {P : En → Sto → Prop}, Rel K σ H env io F st → Den K io F v d → t.dg d env st P →
    (∀ σ' env', P env' st → Rel K σ' H env' io F st → wipe σ' vs = wipe σ vs → Q σ' H) → t.tg K v σ H Q
  | .nm i, hv, σ, env, v, d, Q, P, R, n, q, k => k _ _ q (R.set n) (wipe_set (hv i (by simp [Tg.ix])))
  | .tp is, hv, σ, env, v, d, Q, P, R, n, q, k => by
    obtain ⟨ds, e, z, q⟩ := q
    subst e
    cases n with
    | @tup a xs _ s r _ =>
      refine ⟨a, xs, rfl, SqT_mono R.sub s.t, by rw [r.length]; exact z, ?_⟩
      clear s z
      replace hv : ∀ i ∈ is, i ∈ vs := hv
      suffices ∀ (is : List Nat) (hv : ∀ i ∈ is, i ∈ vs) (xs : List V) (ds : List D) (σ' : L2.St) (env' : En), Rel K σ' H env' io F st → wipe σ' vs = wipe σ vs → DenL K io F xs ds →
          is.foldr (fun i r => gCn (gNm i) r) gNl ds env' st P → is.foldr (fun i r => gCons (gName i) r) gNil xs σ' H Q from this is hv xs ds σ env R rfl r q
      intro is
      induction is with
      | nil =>
        intro hv xs ds σ' env' R' w' r' q'
        obtain ⟨e, q'⟩ := q'
        subst e
        cases r'
        exact ⟨rfl, k _ _ q' R' w'⟩
      | cons i is ih =>
        intro hv xs ds σ' env' R' w' r' q'
        obtain ⟨d1, ds', e, q'⟩ := q'
        subst e
        cases r' with
        | @cons v1 vs1 _ _ n1 n2 =>
          exact ⟨v1, vs1, rfl, ih (fun j hj => hv j (List.mem_cons_of_mem _ hj)) vs1 ds' _ _ (R'.set n1) ((wipe_set (hv i List.mem_cons_self)).trans w') n2 q'⟩
theorem moFold {Q Q' : En → Sto → Prop} (h : ∀ e s, Q e s → Q' e s) {s : Sto} : ∀ (is : List Nat) (ds : List D) (e : En), is.foldr (fun i r => gCn (gNm i) r) gNl ds e s Q → is.foldr (fun i r => gCn (gNm i) r) gNl ds e s Q'
  | [], _, _, ⟨a, q⟩ => ⟨a, h _ _ q⟩
  | i :: is, _, _, ⟨d1, ds', e2, q⟩ => ⟨d1, ds', e2, moFold h is _ _ q⟩
theorem Tg.mo : ∀ t : Tg, MoG t.dg
  | .nm i => fun _ _ _ _ _ h q => h _ _ q
  | .tp is => fun d e s Q Q' h ⟨ds, e1, z, q⟩ => ⟨ds, e1, z, moFold h is ds e q⟩
def wCompL (G : Sto → Prop) (t : Tg) (c : DT) (w : DE) (env : En) : List D → Sto → List D → LK → Prop
  | [], st, acc, Q => G st ∧ Q acc st
  | d :: r, st, acc, Q => G st ∧ t.dg d env st fun e s => c e s fun k s1 => if k = true then w e s1 fun x s2 => wCompL G t c w env r s2 (acc ++ [x]) Q else wCompL G t c w env r s1 acc Q
def wComp (m : Bool) (wi : DI) (t : Tg) (c : DT) (w : DE) (vs : List Nat) : DE := fun env st Q => wi env st fun ds G s => ds.length ≤ sizeLine ∧ wCompL G t c w (wipeE env vs) ds s [] fun acc s' => newL m acc s' Q
theorem moCompL {G : Sto → Prop} {t : Tg} {c : DT} {w : DE} (mc : MoT c) (mw : MoE w) {Q Q' : LK} (h : ∀ d s, Q d s → Q' d s) {env : En} : ∀ (ds : List D) (st : Sto) (acc : List D), wCompL G t c w env ds st acc Q → wCompL G t c w env ds st acc Q'
  | [], _, _, ⟨g, q⟩ => ⟨g, h _ _ q⟩
  | d :: r, st, acc, ⟨g, q⟩ => ⟨g, t.mo _ _ _ _ _ (fun e s q => mc _ _ _ _ (fun k s1 q => by
    cases k with
    | true => exact mw _ _ _ _ (fun x s2 q => moCompL mc mw h r s2 _ q) q
    | false => exact moCompL mc mw h r s1 acc q) q) q⟩
def wYes : DT := fun _ st Q => Q true st
/-- a clause's tests -/
structure WTs (X : Cx) (ifs : List Expr) (w : DT) : Prop where
  mo : MoT w
  pe : PTs X ifs (tT X.K w)
theorem PTs_imp {X : Cx} {e : List Expr} {t t' : TT} (h : PTs X e t) (i : ∀ σ H Q, t' σ H Q → t σ H Q) : PTs X e t' := ⟨fun p s σ H Q I q => h.run p s σ H Q I (i σ H Q q)⟩
theorem wts_nil {X : Cx} : WTs X [] wYes := ⟨fun _ _ _ _ h q => h _ _ q, PTs_imp pts_nil fun σ H Q ⟨env, io, F, st, R, q⟩ => q io F H Stp.refl R.toRelH⟩
theorem wts_one {X : Cx} {c : Expr} {w : DT} (h : WT X c w) : WTs X [c] w := ⟨h.mo, pts_one h.pe⟩
/-- the reading of a comprehension -/
theorem tLc_of {K : PySem.W.Frag} {wi : DI} {t : Tg} {c : DT} {w : DE} {vs : List Nat} {m : Bool} {Q : VK} {σ : L2.St} {H : Hp} (mi : MoI wi) (mc : MoT c) (mw : MoE w) (hv : ∀ i ∈ t.ix, i ∈ vs) (h : tE K (wComp m wi t c w vs) σ H Q) :
    tLc (tI K wi) (t.tg K) (tT K c) (tE K w) vs σ H Q := by
  obtain ⟨env, io, F, st, R, q⟩ := h
  refine ⟨env, io, F, st, R, mi _ _ _ _ (fun ds G s1 ⟨hz, q1⟩ => ?_) q⟩
  intro io1 F1 H1 J t1 R1 W Dl hD
  have R1' : Rel K σ H1 env io1 F1 s1 := R.next t1 R1
  have hio := R1.notIo hD
  have hF := R1.notF hD
  have hHD : H Dl = none := t1.none_of hD
  let Pv : Nat → Hp → Prop := fun i H' => ∃ io' F' st' acc vs', Stp H1 io1 F1 H' io' F' ∧ RelH K H' io' F' st' ∧ H' Dl = some (.lst vs') ∧ F' Dl = none ∧ Dl ∉ io' ∧ DenL K io' F' vs' acc ∧ acc.length ≤ i ∧
    wCompL G t c w (wipeE env vs) (ds.drop i) st' acc (fun acc s' => newL m acc s' (kE K H io F Q))
  refine ⟨fun i k H' => k = ds.length - i ∧ i ≤ ds.length ∧ Pv i H', ⟨ds.length, by omega, Nat.zero_le _, io1, F1, s1, [], [], Stp.refl.own hD, R1.aside hD, upd_same, hF, hio, .nil, Nat.le_refl _, by rw [List.drop_zero]; exact q1⟩, ?_⟩
  rintro i k H2 ⟨rfl, hi2, io2, F2, st2, acc, vs2, t2, R2, e2, f2, o2, n2, l2, q2⟩
  by_cases hlt : i < ds.length
  · have hd : ds.drop i = ds[i] :: ds.drop (i + 1) := List.drop_eq_getElem_cons hlt
    rw [hd] at q2
    obtain ⟨hG, q2⟩ := q2
    refine .inr ⟨W.go i t2 R2 hG hlt, Pv (i + 1), fun H' p => ⟨ds.length - (i + 1), by omega, rfl, hlt, p⟩, fun x H3 y => ?_⟩
    obtain ⟨F3, d, t3, R3, e3, n3⟩ := W.yld i x H3 t2 R2 hG hlt y
    have ed : d = ds[i] := by rw [List.getElem?_eq_getElem hlt] at e3; exact (Option.some.inj e3).symm
    subst ed
    have Rs : Rel K (wipe σ vs) H3 (wipeE env vs) io2 F3 st2 := wipe_rel (R1'.next (t2.trans t3) R3) vs
    refine t.run hv Rs n3 q2 fun σ4 env4 q4 R4 w4 => ⟨?_, ?_⟩
    · rw [w4]
      have : ∀ (vs ws : List Nat), (∀ i ∈ vs, i ∈ ws) → wipe (wipe σ ws) vs = wipe σ ws := fun vs ws => by
        induction vs with
        | nil => intro _; rfl
        | cons v vs ih =>
          intro hh
          show (wipe (wipe σ ws) vs).set v none = _
          rw [ih fun i hi => hh i (List.mem_cons_of_mem _ hi)]
          have hv' := hh v List.mem_cons_self
          clear ih hh
          induction ws with
          | nil => cases hv'
          | cons u us ih2 =>
            show ((wipe σ us).set u none).set v none = (wipe σ us).set u none
            by_cases e : v = u
            · subst e; rw [List.set_set]
            · rcases List.mem_cons.mp hv' with z | z
              · exact absurd z e
              · rw [List.set_comm _ _ (Ne.symm e), ih2 z]
      exact this vs vs fun _ h => h
    refine tT_use mc R4 q4 fun b s5 io5 F5 H5 q5 t5 R5 => ?_
    have b5 := (t3.trans t5).beside e2 (fun _ z => nomatch z) f2 o2
    cases b with
    | true =>
      rw [if_pos rfl] at q5 ⊢
      refine tE_use mw R5 q5 fun d6 s6 v6 io6 F6 H6 q6 t6 R6 n6 => ?_
      have b6 := ((t3.trans t5).trans t6).beside e2 (fun _ z => nomatch z) f2 o2
      have lz : acc.length < sizeLine := by omega
      refine ⟨vs2, b6.1, by rw [n2.length]; exact lz, io6, F6, s6, acc ++ [d6], vs2 ++ [v6], (((t2.trans t3).trans t5).trans t6).own hD, R6.toRelH.side b6.1 (fun _ z => nomatch z) b6.2.1 b6.2.2, upd_same, b6.2.1, b6.2.2,
        ((((t3.trans t5).trans t6).denL n2).append (.cons n6 .nil)), by rw [List.length_append, List.length_singleton]; omega, q6⟩
    | false =>
      rw [if_neg Bool.false_ne_true] at q5 ⊢
      exact ⟨io5, F5, s5, acc, vs2, ((t2.trans t3).trans t5), R5.toRelH, b5.1, b5.2.1, b5.2.2, (t3.trans t5).denL n2, by omega, q5⟩
  · have e : i = ds.length := by omega
    subst e
    rw [List.drop_length] at q2
    obtain ⟨hG, q2⟩ := q2
    refine .inl ⟨W.stop t2 R2 hG, ?_⟩
    have lz : acc.length ≤ sizeLine := by omega
    cases m with
    | true =>
      have s : Stp H2 io2 F2 H2 (io2 ++ [Dl]) F2 → True := fun _ => trivial
      have ix : ∀ (n : Nat) a, io2[n]? = some a → (io2 ++ [Dl])[n]? = some a := fun n a h => by
        rw [List.getElem?_append_left (List.getElem?_eq_some_iff.mp h).1]; exact h
      exact kE_at (show kE K H io F Q (.ref st2.length) (st2 ++ [.lst acc]) from q2) ((t1.trans t2).cell hHD) (R2.adopt ⟨_, e2, fun _ z => nomatch z⟩ o2 ⟨f2, lz, vs2, e2, n2.mono ix fun _ _ h => h⟩) R2.newRef
    | false =>
      have fr : ∀ a u, F2 a = some u → upd F2 Dl (.lst vs2) a = some u := fun a u e => by
        rw [upd_ne (fun z => by subst z; rw [f2] at e; cases e)]; exact e
      exact kE_at (show kE K H io F Q (.lst acc) st2 from q2) ((t1.trans t2).frz hHD f2) (R2.frz e2 (fun _ z => nomatch z) f2 o2) (.lst upd_same (n2.mono (fun _ _ h => h) fr) lz)
end DL
namespace DL
open PySem PySem.Spec PyProof.Rows L2
variable [Bs]
theorem pi_seq {X : Cx} {tg l : Expr} {tl : TE} (hl : PE X l tl) : PI X tg l (fun σ H R => tl σ H fun x H1 => (∃ a xs, x = .ref a ∧ ((SqL X.K H1 a xs ∧ R (Itl X.K a) H1) ∨ (SqT X.K H1 a xs ∧ R (Itt X.K a) H1))) ∨ ∃ z, x = .str z ∧ R (Its z) H1) := by
  refine ⟨fun pins s σ H R I h => ?_⟩
  have h1 : ∀ {t : TE}, (∀ σ H Q, t σ H Q → tl σ H Q) → PE X l t := fun i => PE_imp hl i
  refine thn (hl.run pins s σ H _ I h) fun v s1 ⟨x, H1, I1, r1, q1⟩ => ?_
  rcases q1 with ⟨a, xs, e, q⟩ | ⟨z, e, q⟩
  · subst e
    cases r1
    rcases q with ⟨hq, q⟩ | ⟨hq, q⟩
    · obtain ⟨its, rv, p, hz⟩ := I1.list hq
      refine wpAny_pyIter_list p.isList ?_
      refine ⟨s1.heap.objs.size, [s1.heap.objs.size], _, _, H1, rfl, I1.kept (t' := s1.toks) fun b o e => Heap.get?_push_of_some _ e, turn_list a _, ⟨_, Heap.get?_push_size _ rfl, rfl, rfl⟩, fun b hb => ?_, q⟩
      have e : b = s1.heap.objs.size := by simpa using hb
      subst e
      exact I1.fpOk (Nat.le_refl _) (I1.hok.fresh (Nat.le_refl _))
    · obtain ⟨its, rv, p, hz⟩ := I1.tuple hq
      refine wpAny_pyIter_tuple (show s1.heap.IsTuple a its.toArray from p) ?_
      refine ⟨s1.heap.objs.size, [s1.heap.objs.size], _, _, H1, rfl, I1.kept (t' := s1.toks) fun b o e => Heap.get?_push_of_some _ e, turn_tuple a _, ⟨_, Heap.get?_push_size _ rfl, rfl, rfl⟩, fun b hb => ?_, q⟩
      have e : b = s1.heap.objs.size := by simpa using hb
      subst e
      exact I1.fpOk (Nat.le_refl _) (I1.hok.fresh (Nat.le_refl _))
  · subst e
    obtain ⟨t, rfl⟩ := r1
    cases ha : z.cps.all (· < 128)
    · exact wpAny_pyIter_wide ha (pi_one (tk := s1.toks) I1 _ (turn_str _ z t "str_iterator" (.inr rfl)) ⟨_, Heap.get?_push_size _ rfl, rfl, rfl⟩ q)
    · exact wpAny_pyIter_ascii ha (pi_one (tk := s1.toks) I1 _ (turn_str _ z t "str_ascii_iterator" (.inl rfl)) ⟨_, Heap.get?_push_size _ rfl, rfl, rfl⟩ q)
end DL
namespace DL
open PySem PySem.Spec PyProof.Rows L2
variable [Bs]
/-- a cell's list as a list -/
def rd (st : Sto) : D → D
  | .ref n => match st[n]? with
    | some (.lst ds) => .lst ds
    | _ => .ref n
  | d => d
section
variable {K : PySem.W.Frag} {io : List Addr} {F H : Hp} {st : Sto} {v : V} {d : D} {ds : List D}
/-- what stands behind a value read as a list -/
theorem rd_lst (R : RelH K H io F st) (n : Den K io F v d) (e : rd st d = .lst ds) : ∃ a xs, v = .ref a ∧ H a = some (.lst xs) ∧ DenL K io F xs ds ∧ ds.length ≤ sizeLine := by
  cases d with
  | lst es =>
    cases e
    cases n with
    | lst h r z => exact ⟨_, _, rfl, R.sub _ _ h, r, z⟩
  | ref k =>
    cases n with
    | ref h =>
      unfold rd at e
      cases q : st[k]? with
      | none => simp [q] at e
      | some c =>
        cases c with
        | lst es =>
          simp [q] at e
          subst e
          obtain ⟨h1, h2, vs, h3, h4⟩ := R.cel _ _ _ q h
          exact ⟨_, _, rfl, h3, h4, h2⟩
        | dead => simp [q] at e
        | ins C fs => simp [q] at e
        | dct b kvs => simp [q] at e
  | non => cases e
  | bl b => cases e
  | int i => cases e
  | str s => cases e
  | tup es => cases e
  | scr es => cases e
  | dct es => cases e
  | fn _ _ _ => cases e
  | exc => cases e
theorem rd_not (e : ∀ ds, rd st d ≠ .lst ds) (e2 : ∀ n, rd st d ≠ .ref n) : rd st d = d := by
  cases d with
  | ref n =>
    unfold rd at e e2 ⊢
    cases q : st[n]? with
    | none => simp [q] at e2
    | some c => cases c <;> simp [q] at e e2
  | _ => rfl
end
/-- what may be walked: with what must stay -/
def seqI (d : D) (s : Sto) (R : GK) : Prop :=
  match d with
  | .tup ds => R ds (fun _ => True) s
  | .lst ds => R ds (fun _ => True) s
  | .scr ds => R ds (fun _ => True) s
  | .str z => R (z.cps.toList.map fun c => .str ⟨#[c]⟩) (fun _ => True) s
  | .ref n => ∃ ds, s[n]? = some (.lst ds) ∧ R ds (fun s' => s'[n]? = some (.lst ds)) s
  | _ => False
theorem seqI_mo {d : D} {s : Sto} {R R' : GK} (h : ∀ ds G s, R ds G s → R' ds G s) (q : seqI d s R) : seqI d s R' := by
  cases d with
  | ref n => obtain ⟨ds, e, q⟩ := q; exact ⟨ds, e, h _ _ _ q⟩
  | tup _ => exact h _ _ _ q
  | lst _ => exact h _ _ _ q
  | scr _ => exact h _ _ _ q
  | str _ => exact h _ _ _ q
  | non => exact q
  | bl _ => exact q
  | int _ => exact q
  | dct _ => exact q
  | fn _ _ _ => exact q
  | exc => exact q
def iSeq (we : DE) : DI := fun env st R => we env st fun d s => seqI d s R
section
variable {K : PySem.W.Frag} {io : List Addr} {F H : Hp} {a : Addr} {xs : List V} {ds : List D}
theorem walkD_list {G : Sto → Prop} (r : DenL K io F xs ds) (h : ∀ {H2 io2 F2 st2}, Stp H io F H2 io2 F2 → RelH K H2 io2 F2 st2 → G st2 → ∃ ys, SqL K H2 a ys ∧ DenL K io2 F2 ys ds) : WalkD K (Itl K a) H io F ds G where
  go := fun i t R g hi => by
    obtain ⟨ys, s, r2⟩ := h t R g
    obtain ⟨v, e, _⟩ := r2.get (List.getElem?_eq_getElem hi)
    exact ⟨ys, v, s, e⟩
  stop := fun t R g => by
    obtain ⟨ys, s, r2⟩ := h t R g
    exact ⟨ys, s, Nat.le_of_eq r2.length⟩
  yld := fun {H2 io2 F2 st2} i x H3 t R g hi y => by
    obtain ⟨ys, s, r2⟩ := h t R g
    obtain ⟨v, e, n⟩ := r2.get (List.getElem?_eq_getElem hi)
    obtain ⟨e1, e2⟩ := y
    subst e1
    have := e2 ys s
    rw [e] at this
    cases this
    exact ⟨F2, _, Stp.refl, R, List.getElem?_eq_getElem hi, n⟩
theorem walkD_tup (s0 : SqT K F a xs) (r : DenL K io F xs ds) : WalkD K (Itt K a) H io F ds (fun _ => True) where
  go := fun i t R _ hi => by
    obtain ⟨v, e, _⟩ := (t.denL r).get (List.getElem?_eq_getElem hi)
    exact ⟨xs, v, SqT_mono R.sub (SqT_mono t.fr s0), e⟩
  stop := fun t R _ => ⟨xs, SqT_mono R.sub (SqT_mono t.fr s0), Nat.le_of_eq r.length⟩
  yld := fun {H2 io2 F2 st2} i x H3 t R _ hi y => by
    obtain ⟨v, e, n⟩ := (t.denL r).get (List.getElem?_eq_getElem hi)
    obtain ⟨e1, e2⟩ := y
    subst e1
    have := e2 xs (SqT_mono R.sub (SqT_mono t.fr s0))
    rw [e] at this
    cases this
    exact ⟨F2, _, Stp.refl, R, List.getElem?_eq_getElem hi, n⟩
theorem walkD_str {z : Str} : WalkD K (Its z) H io F (z.cps.toList.map fun c => .str ⟨#[c]⟩) (fun _ => True) where
  go := fun i t R _ hi => by
    have : i < z.cps.size := by simpa using hi
    exact this
  stop := fun t R _ => by
    have e : (z.cps.toList.map fun c => D.str ⟨#[c]⟩).length = z.cps.size := by simp
    rw [e]
    exact (walk_str (z := z)).stops _ trivial
  yld := fun {H2 io2 F2 st2} i x H3 t R _ hi y => by
    have hi' : i < z.cps.size := by simpa using hi
    obtain ⟨e1, c, e2, e3⟩ := (walk_str (z := z)).yields i H2 x H3 hi' trivial y
    subst e1
    subst e3
    refine ⟨F2, .str ⟨#[c]⟩, Stp.refl, R, ?_, .str _⟩
    simp [e2]
end
section
variable {X : Cx} {pos p : Pos} {tg e e2 : Expr} {we we2 : DE}
theorem wi_seq (he : WE X e we) : WI X tg e (iSeq we) := by
  refine ⟨fun _ _ _ _ h q => he.mo _ _ _ _ (fun _ _ q => seqI_mo h q) q, PI_imp (pi_seq he.pe) fun σ H R ⟨env, io, F, st, Rl, q⟩ => ?_⟩
  refine tE_use he.mo Rl q fun d s1 v io1 F1 H1 q1 t1 R1 n1 => ?_
  cases n1 with
  | tup s r z => exact .inl ⟨_, _, rfl, .inr ⟨SqT_mono R1.sub s.t, q1 _ _ _ _ t1 R1.toRelH (walkD_tup s.t r)⟩⟩
  | lst s r z => exact .inl ⟨_, _, rfl, .inl ⟨SqL.of (R1.sub _ _ s), q1 _ _ _ _ t1 R1.toRelH (walkD_list r fun t R _ => ⟨_, SqL.of (R.sub _ _ (t.fr _ _ s)), t.denL r⟩)⟩⟩
  | scr s r z => exact .inl ⟨_, _, rfl, .inl ⟨SqL_mono R1.sub s, q1 _ _ _ _ t1 R1.toRelH (walkD_list r fun t R _ => ⟨_, SqL_mono R.sub (SqL_mono t.fr s), t.denL r⟩)⟩⟩
  | @ref a n h =>
    obtain ⟨ds, e, q1⟩ := q1
    obtain ⟨h1, h2, vs, h3, h4⟩ := R1.cel _ _ _ e h
    refine .inl ⟨_, vs, rfl, .inl ⟨SqL.of h3, q1 _ _ _ _ t1 R1.toRelH (walkD_list h4 fun t R g => ?_)⟩⟩
    obtain ⟨_, _, ws, h5, h6⟩ := R.cel _ _ _ g (t.ix _ _ h)
    exact ⟨ws, SqL.of h5, h6⟩
  | str z => exact .inr ⟨_, rfl, q1 _ _ _ _ t1 R1.toRelH walkD_str⟩
  | non => exact q1.elim
  | bl _ => exact q1.elim
  | int _ => exact q1.elim
  | dct _ => exact q1.elim
  | fn _ _ => exact q1.elim
  | exc => exact q1.elim
def rangeD (lo : Int) (n : Nat) : List D := (List.range n).map fun (i : Nat) => .int (lo + i)
theorem walkD_range {K : PySem.W.Frag} {io : List Addr} {F H : Hp} {lo : Int} {n : Nat} : WalkD K (Itr lo n) H io F (rangeD lo n) (fun _ => True) where
  go := fun i t R _ hi => by show i < n; simpa [rangeD] using hi
  stop := fun t R _ => by show n ≤ (rangeD lo n).length; simp [rangeD]
  yld := fun {H2 io2 F2 st2} i x H3 t R _ hi y => by
    obtain ⟨e1, e2⟩ := y
    subst e1
    subst e2
    have hi' : i < n := by simpa [rangeD] using hi
    exact ⟨F2, .int (lo + i), Stp.refl, R, by simp [rangeD, hi'], .int _⟩
def iRange1 (wa : DA) : DI := fun env st R => wa env st fun ds s => ∃ j, ds = [.int j] ∧ -(2 ^ 62) ≤ j ∧ j < 2 ^ 62 ∧ R (rangeD 0 j.toNat) (fun _ => True) s
def iRange2 (wa : DA) : DI := fun env st R => wa env st fun ds s => ∃ i j, ds = [.int i, .int j] ∧ (-(2 ^ 62) ≤ i ∧ i < 2 ^ 62 ∧ -(2 ^ 62) ≤ j ∧ j < 2 ^ 62) ∧ R (rangeD i (j - i).toNat) (fun _ => True) s
theorem wi_range1 {wa : DA} (hg : Gl X "range") (hm : X.mg "range" = none) (ha : WA X [e] wa) (hs : starEach [e] X.env = [(false, eval e X.env)] := by rfl) : WI X tg (.Call (.Name "range" p) [e] [] pos) (iRange1 wa) := by
  refine ⟨fun _ _ _ _ h q => ha.mo _ _ _ _ (fun _ _ ⟨j, e, h1, h2, q⟩ => ⟨j, e, h1, h2, h _ _ _ q⟩) q, PI_imp (pi_range1 hg hm ha.pe hs) fun σ H R ⟨env, io, F, st, Rl, q⟩ => ?_⟩
  refine tA_use ha.mo Rl q fun ds s1 vs io1 F1 H1 ⟨j, ed, h1, h2, q1⟩ t1 R1 n1 => ?_
  subst ed
  cases n1 with
  | cons n1 n2 =>
    cases n1
    cases n2
    exact ⟨j, rfl, h1, h2, q1 _ _ _ _ t1 R1.toRelH walkD_range⟩
def enumD (ds : List D) : List D := ds.zipIdx.map fun p => .tup [.int (p.2 : Nat), p.1]
def zipD (ds es : List D) : List D := List.zipWith (fun x y => .tup [x, y]) ds es
theorem lay_pair {K : PySem.W.Frag} {io : List Addr} {F H : Hp} {st : Sto} {T : Addr} {o : Obj} {x y : V} {d e : D} (R : RelH K H io F st) (hT : H T = none) (ho : o.dict = none) (n1 : Den K io F x d) (n2 : Den K io F y e) :
    ∃ F3, Stp H io F (upd H T (.frz o (.tup [x, y]))) io F3 ∧ RelH K (upd H T (.frz o (.tup [x, y]))) io F3 st ∧ Den K io F3 (.ref T) (.tup [d, e]) :=
  ⟨upd F T (.frz o (.tup [x, y])), Stp.laid hT R.sub, R.laid hT, .tup (.inl ⟨o, upd_same, ho⟩) ((Stp.laid hT R.sub).denL (.cons n1 (.cons n2 .nil))) (by show 2 ≤ sizeLine; decide)⟩
/-- a sequence, no text -/
def seqJ (d : D) (s : Sto) (R : GK) : Prop :=
  match d with
  | .str _ => False
  | d => seqI d s R
def iEnum (we : DE) : DI := fun env st R => we env st fun d s => seqJ d s fun ds G s => R (enumD ds) G s
end
end DL
namespace DL
open PySem PySem.Spec PyProof.Rows L2
variable [Bs]
section
variable {st : Sto} {d : D}
theorem rd_is {e : D} (h : rd st d = e) (h1 : ∀ ds, e ≠ .lst ds) (h2 : ∀ n, e ≠ .ref n) : d = e := by
  subst h
  exact (rd_not (fun ds q => h1 ds q) (fun n q => h2 n q)).symm
theorem rd_int {i : Int} (h : rd st d = .int i) : d = .int i := rd_is h (fun _ q => nomatch q) (fun _ q => nomatch q)
theorem rd_bl {i : Bool} (h : rd st d = .bl i) : d = .bl i := rd_is h (fun _ q => nomatch q) (fun _ q => nomatch q)
theorem rd_str {i : Str} (h : rd st d = .str i) : d = .str i := rd_is h (fun _ q => nomatch q) (fun _ q => nomatch q)
theorem rd_tup {i : List D} (h : rd st d = .tup i) : d = .tup i := rd_is h (fun _ q => nomatch q) (fun _ q => nomatch q)
theorem rd_scr {i : List D} (h : rd st d = .scr i) : d = .scr i := rd_is h (fun _ q => nomatch q) (fun _ q => nomatch q)
theorem rd_non (h : rd st d = .non) : d = .non := rd_is h (fun _ q => nomatch q) (fun _ q => nomatch q)
end
def dI (C : Int → Int → Prop) (g : Int → Int → D) : R2D := fun a b st Q => ∃ i j, a = .int i ∧ b = .int j ∧ C i j ∧ Q (g i j) st
theorem moI {C : Int → Int → Prop} {g : Int → Int → D} : MoR (dI C g) := fun _ _ _ _ _ h ⟨i, j, e1, e2, c, q⟩ => ⟨i, j, e1, e2, c, h _ _ q⟩
section
variable {K : PySem.W.Frag} {H : Hp} {io : List Addr} {F : Hp} {st : Sto} {Q : VK} {x y : V} {a b : D}
theorem kE_now {d : D} {v : V} (R : RelH K H io F st) (n : Den K io F v d) (q : kE K H io F Q d st) : Q v H := q v io F H Stp.refl R n
theorem z_I {C : Int → Int → Prop} {g : Int → Int → V} {g' : Int → Int → D} (hg : ∀ i j io F, Den K io F (g i j) (g' i j)) : Rz K (rI C g) (dI C g') where
  mo := moI
  on := fun R n1 n2 ⟨i, j, e1, e2, c, q⟩ => by
    subst e1 e2
    cases n1
    cases n2
    exact ⟨i, j, rfl, rfl, c, kE_now R (hg _ _ _ _) q⟩
theorem z_I0 {g : Int → Int → V} {g' : Int → Int → D} (hg : ∀ i j io F, Den K io F (g i j) (g' i j)) : Rz K (rI0 g) (dI (fun _ _ => True) g') where
  mo := moI
  on := fun R n1 n2 ⟨i, j, e1, e2, c, q⟩ => by
    subst e1 e2
    cases n1
    cases n2
    exact ⟨i, j, rfl, rfl, kE_now R (hg _ _ _ _) q⟩
end
section
variable {X : Cx}
abbrev T2 : Int → Int → Prop := fun _ _ => True
def dSub : R2D := dI T2 fun i j => .int (i - j)
def dMod : R2D := dI (fun _ j => 0 < j) fun i j => .int (i % j)
def CDv : Int → Int → Prop := fun _ j => 0 < j ∧ j < 2 ^ 62
def dFdiv : R2D := dI CDv fun i j => .int (i / j)
def dPow : R2D := dI CPow fun i j => .int (i ^ j.toNat)
theorem z_sub : Rz X.K (rI0 fun i j => .int (i - j)) dSub := z_I0 fun _ _ _ _ => .int _
theorem z_mod : Rz X.K (rI (fun _ j => 0 < j) fun i j => .int (i % j)) dMod := z_I fun _ _ _ _ => .int _
theorem z_pow : Rz X.K (rI CPow fun i j => .int (i ^ j.toNat)) dPow := z_I fun _ _ _ _ => .int _
theorem cdv {i j : Int} (h : CDv i j) : CDivW i j := by
  refine ⟨h.1, ?_⟩
  have h2 : j.natAbs < 2 ^ 62 := by have := h.2; have := h.1; omega
  have : j.natAbs.log2 < 62 := by
    rw [Nat.log2_lt (by have := h.1; omega)]
    exact h2
  omega
theorem z_fdiv : Rz X.K (rI CDivW fun i j => .int (i / j)) dFdiv where
  mo := moI
  on := fun R n1 n2 ⟨i, j, e1, e2, c, q⟩ => by
    subst e1 e2
    cases n1
    cases n2
    exact ⟨i, j, rfl, rfl, cdv c, kE_now R (.int _) q⟩
end
def dAdd : R2D := fun a b st Q => match rd st a, rd st b with
  | .int i, .int j => Q (.int (i + j)) st
  | .tup x, .tup y => x.length + y.length ≤ sizeLine ∧ Q (.tup (x ++ y)) st
  | .lst x, .lst y => x.length + y.length ≤ sizeLine ∧ Q (.lst (x ++ y)) st
  | .str x, .str y => x.length + y.length ≤ sizeLine ∧ Q (.str (x ++ y)) st
  | _, _ => False
def rAddD (K : PySem.W.Frag) : R2 := fun x y H Q => rI0 (fun i j => .int (i + j)) x y H Q ∨ rCatX K x y H Q ∨ rCat x y H Q ∨ (∃ i j, x = .str i ∧ y = .str j ∧ i.length + j.length ≤ sizeLine ∧ Q (.str (i ++ j)) H)
theorem op_addD {X : Cx} : OpR X (binaryOp .Add) (rAddD X.K) := op_add.or (op_catX.or (op_cat.or op_add_str))
theorem z_add {X : Cx} : Rz X.K (rAddD X.K) dAdd where
  mo := fun a b s Q Q' h q => by
    unfold dAdd at q ⊢
    split at q
    · exact h _ _ q
    · exact ⟨q.1, h _ _ q.2⟩
    · exact ⟨q.1, h _ _ q.2⟩
    · exact ⟨q.1, h _ _ q.2⟩
    · exact q
  on := fun {H io F st x y a b Q} R n1 n2 q => by
    unfold dAdd at q
    split at q
    · rename_i i j e1 e2
      cases rd_int e1
      cases rd_int e2
      cases n1
      cases n2
      exact .inl ⟨i, j, rfl, rfl, kE_now R (.int _) q⟩
    · rename_i i j e1 e2
      cases rd_tup e1
      cases rd_tup e2
      cases n1 with
      | tup s1 r1 z1 =>
        cases n2 with
        | tup s2 r2 z2 =>
          refine .inr (.inl ⟨_, _, _, _, rfl, rfl, SqT_mono R.sub s1.t, SqT_mono R.sub s2.t, by rw [r1.length, r2.length]; exact q.1, fun e => ?_, fun h1 e => ?_, fun _ _ => ?_⟩)
          · subst e
            cases r1
            exact kE_now R (.tup s2 r2 z2) q.2
          · subst e
            cases r2
            rw [List.append_nil] at q
            exact kE_now R (.tup s1 r1 z1) q.2
          · exact lay_tup R (r1.append r2) (by rw [List.length_append]; exact q.1) q.2
    · rename_i i j e1 e2
      obtain ⟨p1, xs, rfl, h1, r1, z1⟩ := rd_lst R n1 e1
      obtain ⟨p2, ys, rfl, h2, r2, z2⟩ := rd_lst R n2 e2
      exact .inr (.inr (.inl ⟨_, _, _, _, rfl, rfl, h1, h2, by rw [r1.length, r2.length]; exact q.1, lay_lst R (r1.append r2) (by rw [List.length_append]; exact q.1) q.2⟩))
    · rename_i i j e1 e2
      cases rd_str e1
      cases rd_str e2
      cases n1
      cases n2
      exact .inr (.inr (.inr ⟨i, j, rfl, rfl, q.1, kE_now R (.str _) q.2⟩))
    · exact q.elim
def kPy : Key → PyData
  | .inl i => .int i
  | .inr x => .str x
mutual
def D.py : D → PyData
  | .non => .none
  | .bl b => .bool b
  | .int i => .int i
  | .str s => .str s
  | .tup ds => .tuple (D.pyL ds)
  | .lst ds => .list (D.pyL ds)
  | .scr ds => .list (D.pyL ds)
  | .dct kvs => .dict (kvs.map fun p => (kPy p.1, kPy p.2))
  | .ref _ => .none
  | .fn _ _ _ => .none
  | .exc _ _ _ => .none
def D.pyL : List D → List PyData
  | [] => []
  | d :: r => d.py :: D.pyL r
end
mutual
/-- may be compared: no dict, no cell within, texts of right signs -/
def D.ok : D → Bool
  | .non => true
  | .bl _ => true
  | .int _ => true
  | .str s => PyData.canLay0 (.str s)
  | .tup ds => D.okL ds
  | .lst ds => D.okL ds
  | .scr _ => false
  | .dct _ => false
  | .ref _ => false
  | .fn _ _ _ => false
  | .exc _ _ _ => false
def D.okL : List D → Bool
  | [] => true
  | d :: r => d.ok && D.okL r
end
mutual
def D.dep : D → Nat
  | .tup ds => D.depL ds + 1
  | .lst ds => D.depL ds + 1
  | .scr ds => D.depL ds + 1
  | .non => 0
  | .bl _ => 0
  | .int _ => 0
  | .str _ => 0
  | .dct kvs => (PyData.dict (kvs.map fun p => (kPy p.1, kPy p.2))).depth
  | .ref _ => 0
  | .fn _ _ _ => 0
  | .exc _ _ _ => 0
def D.depL : List D → Nat
  | [] => 0
  | d :: r => max d.dep (D.depL r)
end
mutual
/-- Python's == -/
def D.eqv : D → D → Bool
  | .non, .non => true
  | .bl a, .bl b => a == b
  | .bl a, .int j => (if a then 1 else 0) == j
  | .int i, .bl b => i == (if b then 1 else 0)
  | .int i, .int j => i == j
  | .str x, .str y => x == y
  | .tup xs, .tup ys => D.eqvL xs ys
  | .lst xs, .lst ys => D.eqvL xs ys
  | _, _ => false
def D.eqvL : List D → List D → Bool
  | [], [] => true
  | x :: xs, y :: ys => D.eqv x y && D.eqvL xs ys
  | _, _ => false
end
mutual
theorem py_ok : ∀ d : D, d.ok = true → d.py.canLay0 = true
  | .non, _ => rfl
  | .bl _, _ => rfl
  | .int _, _ => rfl
  | .str s, h => h
  | .tup ds, h => by simp only [D.py, PyData.canLay0]; exact pyL_ok ds (by simpa only [D.ok] using h)
  | .lst ds, h => by simp only [D.py, PyData.canLay0]; exact pyL_ok ds (by simpa only [D.ok] using h)
  | .scr _, h => by simp [D.ok] at h
  | .dct _, h => by simp [D.ok] at h
  | .ref _, h => by simp [D.ok] at h
theorem pyL_ok : ∀ ds : List D, D.okL ds = true → PyData.canLayAll0 (D.pyL ds) = true
  | [], _ => rfl
  | d :: r, h => by
    simp only [D.okL, Bool.and_eq_true] at h
    simp only [D.pyL, PyData.canLayAll0, Bool.and_eq_true]
    exact ⟨py_ok d h.1, pyL_ok r h.2⟩
end
mutual
theorem py_dep : ∀ d : D, d.py.depth = d.dep
  | .non => rfl
  | .bl _ => rfl
  | .int _ => rfl
  | .str _ => rfl
  | .dct _ => rfl
  | .ref _ => rfl
  | .fn _ _ _ => rfl
  | .exc _ _ _ => rfl
  | .tup ds => by simp only [D.py, PyData.depth, D.dep]; rw [pyL_dep ds]
  | .lst ds => by simp only [D.py, PyData.depth, D.dep]; rw [pyL_dep ds]
  | .scr ds => by simp only [D.py, PyData.depth, D.dep]; rw [pyL_dep ds]
theorem pyL_dep : ∀ ds : List D, PyData.depthAll (D.pyL ds) = D.depL ds
  | [] => rfl
  | d :: r => by simp only [D.pyL, PyData.depthAll, D.depL]; rw [py_dep d, pyL_dep r]
end
mutual
theorem py_eqv : ∀ d e : D, d.ok = true → e.ok = true → PyData.eqv d.py e.py = D.eqv d e
  | .tup xs, .tup ys, h1, h2 => by
    simp only [D.py, PyData.eqv, D.eqv]
    exact pyL_eqv xs ys (by simpa only [D.ok] using h1) (by simpa only [D.ok] using h2)
  | .lst xs, .lst ys, h1, h2 => by
    simp only [D.py, PyData.eqv, D.eqv]
    exact pyL_eqv xs ys (by simpa only [D.ok] using h1) (by simpa only [D.ok] using h2)
  | .scr _, _, h, _ => by simp [D.ok] at h
  | _, .scr _, _, h => by simp [D.ok] at h
  | .dct _, _, h, _ => by simp [D.ok] at h
  | .ref _, _, h, _ => by simp [D.ok] at h
  | .fn _ _ _, _, h, _ => by simp [D.ok] at h
  | .exc _ _ _, _, h, _ => by simp [D.ok] at h
  | _, .dct _, _, h => by simp [D.ok] at h
  | _, .ref _, _, h => by simp [D.ok] at h
  | _, .fn _ _ _, _, h => by simp [D.ok] at h
  | _, .exc _ _ _, _, h => by simp [D.ok] at h
  | .non, .non, _, _ => rfl
  | .non, .bl _, _, _ => rfl
  | .non, .int _, _, _ => rfl
  | .non, .str _, _, _ => rfl
  | .non, .tup _, _, _ => by simp only [D.py, PyData.eqv, D.eqv]
  | .non, .lst _, _, _ => by simp only [D.py, PyData.eqv, D.eqv]
  | .bl _, .non, _, _ => rfl
  | .bl _, .bl _, _, _ => rfl
  | .bl _, .int _, _, _ => rfl
  | .bl _, .str _, _, _ => rfl
  | .bl _, .tup _, _, _ => by simp only [D.py, PyData.eqv, D.eqv]
  | .bl _, .lst _, _, _ => by simp only [D.py, PyData.eqv, D.eqv]
  | .int _, .non, _, _ => rfl
  | .int _, .bl _, _, _ => rfl
  | .int _, .int _, _, _ => rfl
  | .int _, .str _, _, _ => rfl
  | .int _, .tup _, _, _ => by simp only [D.py, PyData.eqv, D.eqv]
  | .int _, .lst _, _, _ => by simp only [D.py, PyData.eqv, D.eqv]
  | .str _, .non, _, _ => rfl
  | .str _, .bl _, _, _ => rfl
  | .str _, .int _, _, _ => rfl
  | .str _, .str _, _, _ => by simp only [D.py, PyData.eqv, D.eqv]
  | .str _, .tup _, _, _ => by simp only [D.py, PyData.eqv, D.eqv]
  | .str _, .lst _, _, _ => by simp only [D.py, PyData.eqv, D.eqv]
  | .tup _, .non, _, _ => by simp only [D.py, PyData.eqv, D.eqv]
  | .tup _, .bl _, _, _ => by simp only [D.py, PyData.eqv, D.eqv]
  | .tup _, .int _, _, _ => by simp only [D.py, PyData.eqv, D.eqv]
  | .tup _, .str _, _, _ => by simp only [D.py, PyData.eqv, D.eqv]
  | .tup _, .lst _, _, _ => by simp only [D.py, PyData.eqv, D.eqv]
  | .lst _, .non, _, _ => by simp only [D.py, PyData.eqv, D.eqv]
  | .lst _, .bl _, _, _ => by simp only [D.py, PyData.eqv, D.eqv]
  | .lst _, .int _, _, _ => by simp only [D.py, PyData.eqv, D.eqv]
  | .lst _, .str _, _, _ => by simp only [D.py, PyData.eqv, D.eqv]
  | .lst _, .tup _, _, _ => by simp only [D.py, PyData.eqv, D.eqv]
theorem pyL_eqv : ∀ ds es : List D, D.okL ds = true → D.okL es = true → PyData.eqvAll (D.pyL ds) (D.pyL es) = D.eqvL ds es
  | [], [], _, _ => by simp only [D.pyL, PyData.eqvAll, D.eqvL]
  | [], _ :: _, _, _ => by simp only [D.pyL, PyData.eqvAll, D.eqvL]
  | _ :: _, [], _, _ => by simp only [D.pyL, PyData.eqvAll, D.eqvL]
  | d :: r, e :: t, h1, h2 => by
    simp only [D.okL, Bool.and_eq_true] at h1 h2
    simp only [D.pyL, PyData.eqvAll, D.eqvL]
    rw [py_eqv d e h1.1 h2.1, pyL_eqv r t h1.2 h2.2]
end
end DL
namespace DL
open PySem PySem.Spec PyProof.Rows L2
variable [Bs]
section
variable {K : PySem.W.Frag} {io : List Addr} {F H : Hp} {st : Sto}
mutual
theorem den_dp (hs : ∀ a o, F a = some o → H a = some o) : ∀ {v : V} {d : D}, Den K io F v d → d.ok = true → Dp K H v d.py
  | _, _, .non, _ => by simp only [D.py]; exact .non
  | _, _, .bl b, _ => by simp only [D.py]; exact .bl b
  | _, _, .int i, _ => by simp only [D.py]; exact .int i
  | _, _, .str x, _ => by simp only [D.py]; exact .str x
  | _, _, .tup s r _, h => by simp only [D.py]; exact .tup (SqT_mono hs s.t) (den_dpL hs r (by simpa only [D.ok] using h))
  | _, _, .lst s r _, h => by simp only [D.py]; exact .lst (SqL.of (hs _ _ s)) (den_dpL hs r (by simpa only [D.ok] using h))
  | _, _, .scr s r _, h => by simp [D.ok] at h
  | _, _, .dct _, h => by simp [D.ok] at h
  | _, _, .ref _, h => by simp [D.ok] at h
  | _, _, .fn _ _, h => by simp [D.ok] at h
theorem den_dpL (hs : ∀ a o, F a = some o → H a = some o) : ∀ {vs : List V} {ds : List D}, DenL K io F vs ds → D.okL ds = true → DpAll K H vs (D.pyL ds)
  | _, _, .nil, _ => by simp only [D.pyL]; exact .nil
  | _, _, .cons a b, h => by
    simp only [D.okL, Bool.and_eq_true] at h
    simp only [D.pyL]
    exact .cons (den_dp hs a h.1) (den_dpL hs b h.2)
end
theorem rd_dp (R : RelH K H io F st) {v : V} {d : D} (n : Den K io F v d) (h : (rd st d).ok = true) : Dp K H v (rd st d).py := by
  cases e : rd st d with
  | lst ds =>
    obtain ⟨a, xs, rfl, h1, h2, h3⟩ := rd_lst R n e
    rw [e] at h
    simp only [D.py]
    exact .lst (SqL.of h1) (den_dpL R.sub h2 (by simpa only [D.ok] using h))
  | ref k => rw [e] at h; simp [D.ok] at h
  | non => cases rd_non e; exact den_dp R.sub n (by rw [e] at h; exact h)
  | bl b => cases rd_bl e; exact den_dp R.sub n (by rw [e] at h; exact h)
  | int i => cases rd_int e; exact den_dp R.sub n (by rw [e] at h; exact h)
  | str s => cases rd_str e; exact den_dp R.sub n (by rw [e] at h; exact h)
  | tup ds => cases rd_tup e; exact den_dp R.sub n (by rw [e] at h; exact h)
  | scr ds => rw [e] at h; simp [D.ok] at h
  | dct ds => rw [e] at h; simp [D.ok] at h
  | fn => rw [e] at h; simp [D.ok] at h
  | exc => rw [e] at h; simp [D.ok] at h
end
def dEqO (f : Bool → Bool) : R2D := fun a b st Q => (rd st a).ok = true ∧ (rd st b).ok = true ∧ min (rd st a).dep (rd st b).dep ≤ 60 ∧ Q (.bl (f ((rd st a).eqv (rd st b)))) st
/-- == : of two texts, or of two data -/
def dEqB (f : Bool → Bool) : R2D := fun a b st Q => (∃ x y, a = .str x ∧ b = .str y ∧ Q (.bl (f (x == y))) st) ∨ dEqO f a b st Q
abbrev dEq : R2D := dEqB fun b => b
abbrev dNe : R2D := dEqB fun b => !b
def rEqB (K : PySem.W.Frag) (f : Bool → Bool) : R2 := fun x y H Q => ∃ d e, Dp K H x d ∧ Dp K H y e ∧ d.canLay0 = true ∧ e.canLay0 = true ∧ min d.depth e.depth ≤ 60 ∧ Q (.bl (f (PyData.eqv d e))) H
theorem op_eqB {X : Cx} (hu : X.A.units + 64 < cLine) : OpR X (compareOp .Eq) (rEqB X.K fun b => b) := by
  intro pins s σ H x y v u Q I rx ry h
  obtain ⟨d, e, hd, he, sd, se, z, q⟩ := h
  obtain ⟨as, r1⟩ := Dp.reads I d x v hd rx
  obtain ⟨bs, r2⟩ := Dp.reads I e y u he ry
  exact SeqAt.compareEq_reads r1 r2 sd se (by omega) ⟨.bl _, H, I, rfl, q⟩
theorem op_neB {X : Cx} (hu : X.A.units + 64 < cLine) : OpR X (compareOp .NotEq) (rEqB X.K fun b => !b) := by
  intro pins s σ H x y v u Q I rx ry h
  obtain ⟨d, e, hd, he, sd, se, z, q⟩ := h
  obtain ⟨as, r1⟩ := Dp.reads I d x v hd rx
  obtain ⟨bs, r2⟩ := Dp.reads I e y u he ry
  exact SeqAt.compareNe_reads r1 r2 sd se (by omega) ⟨.bl _, H, I, rfl, q⟩
theorem z_eqO {K : PySem.W.Frag} {f : Bool → Bool} : Rz K (rEqB K f) (dEqO f) where
  mo := fun a b s Q Q' h ⟨h1, h2, h3, q⟩ => ⟨h1, h2, h3, h _ _ q⟩
  on := fun {H io F st x y a b Q} R n1 n2 ⟨h1, h2, h3, q⟩ => by
    refine ⟨_, _, rd_dp R n1 h1, rd_dp R n2 h2, py_ok _ h1, py_ok _ h2, by rw [py_dep, py_dep]; exact h3, ?_⟩
    rw [py_eqv _ _ h1 h2]
    exact kE_now R (.bl _) q
def rEqS (f : Bool → Bool) : R2 := fun x y H Q => scal x y = true ∧ Q (.bl (f (decide (x = y)))) H
theorem op_eqS {X : Cx} : OpR X (compareOp .Eq) (rEqS fun b => b) := op_eq
theorem op_neS {X : Cx} : OpR X (compareOp .NotEq) (rEqS fun b => !b) := op_ne
theorem op_eqC {X : Cx} (hu : X.A.units + 64 < cLine) : OpR X (compareOp .Eq) (fun x y H Q => rEqS (fun b => b) x y H Q ∨ rEqB X.K (fun b => b) x y H Q) := op_eqS.or (op_eqB hu)
theorem op_neC {X : Cx} (hu : X.A.units + 64 < cLine) : OpR X (compareOp .NotEq) (fun x y H Q => rEqS (fun b => !b) x y H Q ∨ rEqB X.K (fun b => !b) x y H Q) := op_neS.or (op_neB hu)
theorem z_eqB {K : PySem.W.Frag} {f : Bool → Bool} : Rz K (fun x y H Q => rEqS f x y H Q ∨ rEqB K f x y H Q) (dEqB f) where
  mo := fun a b s Q Q' h q => by
    rcases q with ⟨x, y, e1, e2, q⟩ | q
    · exact .inl ⟨x, y, e1, e2, h _ _ q⟩
    · exact .inr (z_eqO (K := K).mo _ _ _ _ _ h q)
  on := fun {H io F st x y a b Q} R n1 n2 q => by
    rcases q with ⟨x, y, rfl, rfl, q⟩ | q
    · cases n1
      cases n2
      refine .inl ⟨rfl, ?_⟩
      rw [dec_str]
      exact kE_now R (.bl _) q
    · exact .inr (z_eqO.on R n1 n2 q)
end DL
namespace DL
open PySem PySem.Spec PyProof.Rows L2
variable [Bs]
def dIsBl (f : Bool → Bool) : R2D := fun a b st Q => ∃ x c, a = .bl x ∧ b = .bl c ∧ Q (.bl (f (decide (x = c)))) st
theorem z_isBl {K : PySem.W.Frag} {f : Bool → Bool} : Rz K (fun x y H Q => ∃ a b : Bool, x = .bl a ∧ y = .bl b ∧ Q (.bl (f (decide (a = b)))) H) (dIsBl f) where
  mo := fun a b s Q Q' h ⟨x, c, e1, e2, q⟩ => ⟨x, c, e1, e2, h _ _ q⟩
  on := fun R n1 n2 ⟨x, c, e1, e2, q⟩ => by
    subst e1 e2
    cases n1
    cases n2
    exact ⟨x, c, rfl, rfl, kE_now R (.bl _) q⟩
def D.ty : D → String
  | .non => "NoneType"
  | .bl _ => "bool"
  | .int _ => "int"
  | .str _ => "str"
  | .tup _ => "tuple"
  | .lst _ => "list"
  | .scr _ => "list"
  | .dct _ => "dict"
  | .ref _ => ""
  | .fn _ _ _ => ""
  | .exc _ _ _ => ""
def D.noRef : D → Prop
  | .ref _ => False
  | .fn _ _ _ => False
  | .exc _ _ _ => False
  | _ => True
def D.isa (T : String) : D → Bool
  | .bl _ => T == "bool" || T == "int"
  | d => d.ty == T
theorem den_ty {K : PySem.W.Frag} {H : Hp} {io : List Addr} {F : Hp} {st : Sto} {v : V} {d : D} (R : RelH K H io F st) (n : Den K io F v d) (h : d.noRef) : TyX K H v (.type d.ty) := by
  cases n with
  | non => exact .base .non
  | bl b => exact .base (.bl b)
  | int i => exact .base (.int i)
  | str s => exact .base (.str s)
  | tup s r z =>
    rcases s.t with (s | ⟨o, s⟩) | ⟨o, its, k, s, c, _⟩
    · exact .base (.tup (R.sub _ _ s))
    · exact .fTuple (R.sub _ _ s)
    · exact .kTuple s c
  | lst s r z => exact .base (.lst (R.sub _ _ s))
  | scr s r z =>
    rcases s with (s | ⟨o, s⟩) | ⟨o, its, k, s, c, _⟩
    · exact .base (.lst (R.sub _ _ s))
    · exact .base (.frz (R.sub _ _ s))
    · exact .kList s c
  | dct s => exact .base (.dK (R.sub _ _ s))
  | ref _ => exact h.elim
  | fn _ _ => exact h.elim
  | exc => exact h.elim
def wIsi (T : String) (we : DE) : DE := fun env st Q => we env st fun d s => d.noRef ∧ Q (.bl (d.isa T)) s
def TOk (T : String) : Prop := ∀ d : D, d.noRef → kitB d.ty T = some (d.isa T)
theorem tok_int : TOk "int" := fun d h => by cases d <;> first | exact h.elim | (dsimp only [D.ty, D.isa]; decide +kernel)
theorem tok_bool : TOk "bool" := fun d h => by cases d <;> first | exact h.elim | (dsimp only [D.ty, D.isa]; decide +kernel)
theorem tok_tuple : TOk "tuple" := fun d h => by cases d <;> first | exact h.elim | (dsimp only [D.ty, D.isa]; decide +kernel)
theorem tok_str : TOk "str" := fun d h => by cases d <;> first | exact h.elim | (dsimp only [D.ty, D.isa]; decide +kernel)
section
variable {X : Cx} {pos p p2 : Pos} {e : Expr} {we : DE} {x : Str}
theorem we_isi {T : String} (hT : TOk T) (hg : Gl X "isinstance") (hm : X.mg "isinstance" = none) (hg2 : Gl X x) (hm2 : X.mg x = none) (hv2 : bootBuiltins x = some (.type T)) (he : WE X e we) (hv : bootBuiltins "isinstance" = some (.builtin "isinstance") := by decide +kernel)
    (hn2 : x ≠ "__name__" := by decide) (hd2 : (x == ("__debug__" : Str)) = false := by decide)
    (s1 : starEach [e, .Name x p2] X.env = (false, eval e X.env) :: starEach [.Name x p2] X.env := by rfl) (s2 : starEach [.Name x p2] X.env = (false, eval (.Name x p2) X.env) :: starEach [] X.env := by rfl)
    (hpl : (backTo pos (starEach [.Name x p2] X.env)).any (·.1) = false := by rfl) : WE X (.Call (.Name "isinstance" p) [e, .Name x p2] [] pos) (wIsi T we) := by
  refine ⟨fun _ _ _ _ h q => he.mo _ _ _ _ (fun _ _ ⟨z, q⟩ => ⟨z, h _ _ q⟩) q, PE_imp (pe_callB (x := "isinstance") call_isi hg hm hv (pa_cons he.pe (pa_cons (pe_bltn (v := .ty T) hg2 hm2 hv2 rfl hn2 hd2) pa_nil s2) s1) (by decide) (by decide) s1 hpl) fun σ H Q ⟨env, io, F, st, R, q⟩ => ?_⟩
  refine tE_use he.mo R q fun d s1 v io1 F1 H1 ⟨z, q1⟩ t1 R1 n1 => ?_
  exact ⟨v, .ty T, _, _, _, rfl, .ty T, den_ty R1.toRelH n1 z, kit_ty (hT d z), kE_at q1 t1 R1.toRelH (.bl _)⟩
end
theorem CallR.or {X : Cx} {f : Value} {r r' : List V → Hp → VK → Prop} (h : CallR X f r) (h' : CallR X f r') : CallR X f (fun xs H Q => r xs H Q ∨ r' xs H Q) := by
  intro pins s σ H vs us Q I rv q
  rcases q with q | q
  · exact h pins s σ H vs us Q I rv q
  · exact h' pins s σ H vs us Q I rv q
def lenD (d : D) : Option Nat := match d with
  | .tup ds => some ds.length
  | .lst ds => some ds.length
  | .scr ds => some ds.length
  | .str z => if z.length ≤ sizeLine then some z.length else none
  | _ => none
def bLen : RLD := fun ds st Q => ∃ d n, ds = [d] ∧ lenD (rd st d) = some n ∧ Q (.int (n : Nat)) st
section
variable {K : PySem.W.Frag} {H : Hp} {io : List Addr} {F : Hp} {st : Sto} {Q : VK} {v : V} {d : D}
theorem DenL.one {vs : List V} (n : DenL K io F vs [d]) : ∃ v, vs = [v] ∧ Den K io F v d := by
  cases n with
  | cons a b => cases b; exact ⟨_, rfl, a⟩
theorem DenL.two {vs : List V} {e : D} (n : DenL K io F vs [d, e]) : ∃ v w, vs = [v, w] ∧ Den K io F v d ∧ Den K io F w e := by
  cases n with
  | cons a b =>
    cases b with
    | cons b c => cases c; exact ⟨_, _, rfl, a, b⟩
end
theorem z_len {X : Cx} : RzL X.K (fun xs H Q => (∃ p ys, xs = [.ref p] ∧ (SqL X.K H p ys ∨ SqT X.K H p ys) ∧ Q (.int ys.length) H) ∨ ∃ z, xs = [.str z] ∧ z.length ≤ sizeLine ∧ Q (.int z.length) H) bLen where
  mo := fun ds s Q Q' h ⟨d, n, e1, e2, q⟩ => ⟨d, n, e1, e2, h _ _ q⟩
  on := fun {H io F st vs ds Q} R nl ⟨d, n, e1, e2, q⟩ => by
    subst e1
    obtain ⟨v, rfl, n1⟩ := nl.one
    cases e : rd st d with
    | lst es =>
      obtain ⟨a, xs, rfl, h1, h2, h3⟩ := rd_lst R n1 e
      rw [e] at e2
      cases e2
      refine .inl ⟨a, xs, rfl, .inl (SqL.of h1), ?_⟩
      rw [h2.length]
      exact kE_now R (.int _) q
    | tup es =>
      rw [e] at e2
      cases e2
      cases rd_tup e
      cases n1 with
      | tup s r z =>
        refine .inl ⟨_, _, rfl, .inr (SqT_mono R.sub s.t), ?_⟩
        rw [r.length]
        exact kE_now R (.int _) q
    | scr es =>
      rw [e] at e2
      cases e2
      cases rd_scr e
      cases n1 with
      | scr s r z =>
        refine .inl ⟨_, _, rfl, .inl (SqL_mono R.sub s), ?_⟩
        rw [r.length]
        exact kE_now R (.int _) q
    | str z =>
      rw [e] at e2
      cases rd_str e
      cases n1
      unfold lenD at e2
      by_cases hz : z.length ≤ sizeLine
      · simp only [hz, if_true] at e2
        cases e2
        exact .inr ⟨z, rfl, hz, kE_now R (.int _) q⟩
      · simp only [hz, if_false] at e2
        cases e2
    | non => rw [e] at e2; cases e2
    | bl _ => rw [e] at e2; cases e2
    | int _ => rw [e] at e2; cases e2
    | dct _ => rw [e] at e2; cases e2
    | fn => rw [e] at e2; cases e2
    | exc => rw [e] at e2; cases e2
    | ref _ => rw [e] at e2; cases e2
def bAbs : RLD := fun ds st Q => ∃ i, ds = [.int i] ∧ Q (.int (if i < 0 then -i else i)) st
theorem z_abs {K : PySem.W.Frag} : RzL K (fun xs H Q => ∃ i, xs = [.int i] ∧ Q (.int (if i < 0 then -i else i)) H) bAbs where
  mo := fun ds s Q Q' h ⟨i, e, q⟩ => ⟨i, e, h _ _ q⟩
  on := fun R nl ⟨i, e, q⟩ => by
    subst e
    obtain ⟨v, rfl, n⟩ := nl.one
    cases n
    exact ⟨i, rfl, kE_now R (.int _) q⟩
def bMax2 : RLD := fun ds st Q => ∃ i j, ds = [.int i, .int j] ∧ Q (.int (if j > i then j else i)) st
def bMin2 : RLD := fun ds st Q => ∃ i j, ds = [.int i, .int j] ∧ Q (.int (if j < i then j else i)) st
theorem z_max2 {K : PySem.W.Frag} : RzL K (fun xs H Q => ∃ i j, xs = [.int i, .int j] ∧ Q (.int (if j > i then j else i)) H) bMax2 where
  mo := fun ds s Q Q' h ⟨i, j, e, q⟩ => ⟨i, j, e, h _ _ q⟩
  on := fun R nl ⟨i, j, e, q⟩ => by
    subst e
    obtain ⟨v, w, rfl, n, m⟩ := nl.two
    cases n
    cases m
    exact ⟨i, j, rfl, kE_now R (.int _) q⟩
theorem z_min2 {K : PySem.W.Frag} : RzL K (fun xs H Q => ∃ i j, xs = [.int i, .int j] ∧ Q (.int (if j < i then j else i)) H) bMin2 where
  mo := fun ds s Q Q' h ⟨i, j, e, q⟩ => ⟨i, j, e, h _ _ q⟩
  on := fun R nl ⟨i, j, e, q⟩ => by
    subst e
    obtain ⟨v, w, rfl, n, m⟩ := nl.two
    cases n
    cases m
    exact ⟨i, j, rfl, kE_now R (.int _) q⟩
def bInt : RLD := fun ds st Q => ∃ d, ds = [d] ∧ match d with
  | .int i => Q (.int i) st
  | .bl b => Q (.int (if b then 1 else 0)) st
  | _ => False
theorem z_int {K : PySem.W.Frag} : RzL K (fun xs H Q => (∃ i, xs = [.int i] ∧ Q (.int i) H) ∨ ∃ k, xs = [.bl k] ∧ Q (.int (if k then 1 else 0)) H) bInt where
  mo := fun ds s Q Q' h ⟨d, e, q⟩ => ⟨d, e, by cases d <;> first | exact h _ _ q | exact q⟩
  on := fun R nl ⟨d, e, q⟩ => by
    subst e
    obtain ⟨v, rfl, n⟩ := nl.one
    cases n <;> first
      | exact False.elim q
      | exact .inl ⟨_, rfl, kE_now R (.int _) q⟩
      | exact .inr ⟨_, rfl, kE_now R (.int _) q⟩
def D.ints : List D → Option (List Int)
  | [] => some []
  | .int i :: r => (D.ints r).map (i :: ·)
  | _ => none
def D.bools : List D → Option (List Bool)
  | [] => some []
  | .bl i :: r => (D.bools r).map (i :: ·)
  | _ => none
theorem bools_map : ∀ ns : List Bool, D.bools (ns.map .bl) = some ns
  | [] => rfl
  | n :: r => by rw [List.map_cons]; simp only [D.bools]; rw [bools_map r]; rfl
theorem ints_eq : ∀ {ds : List D} {ns : List Int}, D.ints ds = some ns → ds = ns.map .int
  | [], ns, h => by cases h; rfl
  | .int i :: r, ns, h => by
    simp only [D.ints] at h
    cases e : D.ints r with
    | none => rw [e] at h; cases h
    | some ms =>
      rw [e] at h
      cases h
      rw [List.map_cons, ints_eq e]
theorem bools_eq : ∀ {ds : List D} {ns : List Bool}, D.bools ds = some ns → ds = ns.map .bl
  | [], ns, h => by cases h; rfl
  | .bl i :: r, ns, h => by
    simp only [D.bools] at h
    cases e : D.bools r with
    | none => rw [e] at h; cases h
    | some ms =>
      rw [e] at h
      cases h
      rw [List.map_cons, bools_eq e]
theorem den_ints {K : PySem.W.Frag} {io : List Addr} {F : Hp} : ∀ {ns : List Int} {vs : List V}, DenL K io F vs (ns.map .int) → vs = ns.map V.int
  | [], _, .nil => rfl
  | n :: r, _, .cons a b => by cases a; rw [List.map_cons, den_ints b]
theorem den_bools {K : PySem.W.Frag} {io : List Addr} {F : Hp} : ∀ {ns : List Bool} {vs : List V}, DenL K io F vs (ns.map .bl) → vs = ns.map V.bl
  | [], _, .nil => rfl
  | n :: r, _, .cons a b => by cases a; rw [List.map_cons, den_bools b]
def bAll : RLD := fun ds st Q => ∃ d es bs, ds = [d] ∧ rd st d = .lst es ∧ D.bools es = some bs ∧ Q (.bl (bs.all id)) st
theorem on_B1 {K : PySem.W.Frag} {H : Hp} {io : List Addr} {F : Hp} {st : Sto} {vs : List V} {d : D} {es : List D} {ns : List Bool} (R : RelH K H io F st) (n : DenL K io F vs [d]) (e1 : rd st d = .lst es) (e2 : D.bools es = some ns) : ∃ a, vs = [.ref a] ∧ SqL K H a (ns.map V.bl) := by
  obtain ⟨v, rfl, n1⟩ := n.one
  obtain ⟨a, xs, rfl, h1, h2, _⟩ := rd_lst R n1 e1
  have := bools_eq e2
  subst this
  rw [den_bools h2] at h1
  exact ⟨a, rfl, SqL.of h1⟩
theorem z_all {K : PySem.W.Frag} : RzL K (rAll K) bAll where
  mo := fun ds s Q Q' h ⟨d, es, bs, e1, e2, e3, q⟩ => ⟨d, es, bs, e1, e2, e3, h _ _ q⟩
  on := fun R n ⟨d, es, bs, e1, e2, e3, q⟩ => by
    subst e1
    obtain ⟨a, rfl, h⟩ := on_B1 R n e2 e3
    exact ⟨a, bs, rfl, h, kE_now R (.bl _) q⟩
def bTuple : RLD := fun ds st Q => ∃ d es, ds = [d] ∧ (rd st d = .lst es ∨ rd st d = .tup es) ∧ Q (.tup es) st
theorem z_tuple {X : Cx} : RzL X.K (fun xs H Q => ∃ p ys, xs = [.ref p] ∧ ((SqL X.K H p ys ∧ XtK H Q ys) ∨ (SqT X.K H p ys ∧ Q (.ref p) H))) bTuple where
  mo := fun ds s Q Q' h ⟨d, es, e1, e2, q⟩ => ⟨d, es, e1, e2, h _ _ q⟩
  on := fun {H io F st vs ds Q} R n ⟨d, es, e1, e2, q⟩ => by
    subst e1
    obtain ⟨v, rfl, n1⟩ := n.one
    rcases e2 with e | e
    · obtain ⟨a, xs, rfl, h1, h2, h3⟩ := rd_lst R n1 e
      exact ⟨a, xs, rfl, .inl ⟨SqL.of h1, lay_tup R h2 h3 q⟩⟩
    · cases rd_tup e
      cases n1 with
      | tup s r z => exact ⟨_, _, rfl, .inr ⟨SqT_mono R.sub s.t, kE_now R (.tup s r z) q⟩⟩
def bList (m : Bool) : RLD := fun ds st Q => ∃ d es, ds = [d] ∧ (rd st d = .lst es ∨ rd st d = .tup es ∨ rd st d = .scr es) ∧ newL m es st Q
theorem z_list {X : Cx} {m : Bool} : RzL X.K (fun xs H Q => ∃ p ys, xs = [.ref p] ∧ (SqL X.K H p ys ∨ SqT X.K H p ys) ∧ ∀ l, H l = none → Q (.ref l) (upd H l (.lst ys))) (bList m) where
  mo := fun ds s Q Q' h ⟨d, es, e1, e2, q⟩ => ⟨d, es, e1, e2, newL_mo h q⟩
  on := fun {H io F st vs ds Q} R n ⟨d, es, e1, e2, q⟩ => by
    subst e1
    obtain ⟨v, rfl, n1⟩ := n.one
    rcases e2 with e | e | e
    · obtain ⟨a, xs, rfl, h1, h2, h3⟩ := rd_lst R n1 e
      exact ⟨a, xs, rfl, .inl (SqL.of h1), lay_new R h2 h3 q⟩
    · cases rd_tup e
      cases n1 with
      | tup s r z => exact ⟨_, _, rfl, .inr (SqT_mono R.sub s.t), lay_new R r z q⟩
    · cases rd_scr e
      cases n1 with
      | scr s r z => exact ⟨_, _, rfl, .inl (SqL_mono R.sub s), lay_new R r z q⟩
end DL
namespace DL
open PySem PySem.Spec PyProof.Rows L2
variable [Bs]
theorem atI_den {K : PySem.W.Frag} {io : List Addr} {F : Hp} {xs : List V} {ds : List D} {i : Int} {d : D} (r : DenL K io F xs ds) (h : atI ds i = some d) : ∃ v, atI xs i = some v ∧ Den K io F v d := by
  unfold atI at h ⊢
  rw [r.length]
  cases e : ixN ds.length i with
  | none => rw [e] at h; cases h
  | some j => rw [e] at h; exact r.get h
def dIx : R2D := fun a b st Q => ∃ i, b = .int i ∧ match rd st a with
  | .lst ds => ∃ d, atI ds i = some d ∧ Q d st
  | .tup ds => ∃ d, atI ds i = some d ∧ Q d st
  | .scr ds => ∃ d, atI ds i = some d ∧ Q d st
  | .str z => z.length ≤ sizeLine ∧ ∃ c, atI z.cps.toList i = some c ∧ Q (.str ⟨#[c]⟩) st
  | _ => False
theorem z_ix {X : Cx} : Rz X.K (rIx X.K) dIx where
  mo := fun a b s Q Q' h ⟨i, e, q⟩ => ⟨i, e, by
    split at q
    · exact ⟨q.choose, q.choose_spec.1, h _ _ q.choose_spec.2⟩
    · exact ⟨q.choose, q.choose_spec.1, h _ _ q.choose_spec.2⟩
    · exact ⟨q.choose, q.choose_spec.1, h _ _ q.choose_spec.2⟩
    · exact ⟨q.1, q.2.choose, q.2.choose_spec.1, h _ _ q.2.choose_spec.2⟩
    · exact q⟩
  on := fun {H io F st x y a b Q} R n1 n2 ⟨i, e, q⟩ => by
    subst e
    cases n2
    split at q
    · rename_i ds e
      obtain ⟨p, xs, rfl, h1, h2, h3⟩ := rd_lst R n1 e
      obtain ⟨d, h, q⟩ := q
      obtain ⟨v, h4, h5⟩ := atI_den h2 h
      exact .inl ⟨p, xs, i, v, rfl, rfl, SqL.of h1, h4, kE_now R h5 q⟩
    · rename_i ds e
      cases rd_tup e
      obtain ⟨d, h, q⟩ := q
      cases n1 with
      | tup s r z =>
        obtain ⟨v, h4, h5⟩ := atI_den r h
        exact .inr (.inl ⟨_, _, i, v, rfl, rfl, SqT_mono R.sub s.t, h4, kE_now R h5 q⟩)
    · rename_i ds e
      cases rd_scr e
      obtain ⟨d, h, q⟩ := q
      cases n1 with
      | scr s r z =>
        obtain ⟨v, h4, h5⟩ := atI_den r h
        exact .inl ⟨_, _, i, v, rfl, rfl, SqL_mono R.sub s, h4, kE_now R h5 q⟩
    · rename_i z e
      cases rd_str e
      obtain ⟨hz, c, h, q⟩ := q
      cases n1
      exact .inr (.inr ⟨z, i, c, rfl, rfl, hz, h, kE_now R (.str _) q⟩)
    · exact q.elim
section
variable {X : Cx} {pos p2 : Pos} {a b : Expr} {wa wb : DE}
theorem we_ix (ha : WE X a wa) (hb : WE X b wb) (hs : PlainIx b := by exact fun _ _ => rfl) : WE X (.Subscript a b pos) (wOp dIx wa wb) :=
  ⟨moOp (z_ix (X := X)).mo ha.mo hb.mo, PE_imp (pe_ix ix_seq ha.pe hb.pe hs) fun σ H Q h => tOp_of z_ix ha hb h⟩
def cutL {α : Type} (xs : List α) (lo hi : Option Int) : List α := (xs.drop (HT.sIx xs.length 0 lo)).take (HT.sIx xs.length xs.length hi - HT.sIx xs.length 0 lo)
theorem cutL_length {α : Type} (xs : List α) (lo hi : Option Int) : (cutL xs lo hi).length ≤ xs.length := by
  unfold cutL
  rw [List.length_take, List.length_drop]
  omega
theorem cut_den {K : PySem.W.Frag} {io : List Addr} {F : Hp} {xs : List V} {ds : List D} (r : DenL K io F xs ds) (lo hi : Option Int) : DenL K io F (cutV xs lo hi) (cutL ds lo hi) := by
  unfold cutV cutL
  rw [r.length]
  exact (r.drop _).take _
abbrev DO := En → Sto → (Option Int → Sto → Prop) → Prop
def MoO (w : DO) : Prop := ∀ (e : En) (s : Sto) (Q Q' : Option Int → Sto → Prop), (∀ d s, Q d s → Q' d s) → w e s Q → w e s Q'
def kO (K : PySem.W.Frag) (H : Hp) (io : List Addr) (F : Hp) (Q : Option Int → Hp → Prop) : Option Int → Sto → Prop := fun b st' => ∀ io' F' H', Stp H io F H' io' F' → RelH K H' io' F' st' → Q b H'
def tO (K : PySem.W.Frag) (w : DO) : TO := fun σ H Q => ∃ env io F st, Rel K σ H env io F st ∧ w env st (kO K H io F Q)
structure WO (X : Cx) (e : Option Expr) (w : DO) : Prop where
  mo : MoO w
  pe : PO X e (tO X.K w)
theorem PO_imp {e : Option Expr} {t t' : TO} (h : PO X e t) (i : ∀ σ H Q, t' σ H Q → t σ H Q) : PO X e t' := ⟨fun p s σ H Q I q => h.run p s σ H Q I (i σ H Q q)⟩
def oNo : DO := fun _ st Q => Q none st
def oPart (we : DE) : DO := fun env st Q => we env st fun d s => ∃ i, d = .int i ∧ Q (some i) s
theorem wo_none : WO X none oNo := ⟨fun _ _ _ _ h q => h _ _ q, PO_imp po_none fun σ H Q ⟨env, io, F, st, R, q⟩ => q _ _ _ Stp.refl R.toRelH⟩
theorem wo_some (ha : WE X a wa) : WO X (some a) (oPart wa) := by
  refine ⟨fun _ _ _ _ h q => ha.mo _ _ _ _ (fun _ _ ⟨i, e, q⟩ => ⟨i, e, h _ _ q⟩) q, PO_imp (po_some ha.pe) fun σ H Q ⟨env, io, F, st, R, q⟩ => ?_⟩
  refine tE_use ha.mo R q fun d s1 v io1 F1 H1 ⟨i, e, q1⟩ t1 R1 n1 => ?_
  subst e
  cases n1
  exact ⟨i, rfl, q1 _ _ _ t1 R1.toRelH⟩
def dSl (m : Bool) (a : D) (lo hi : Option Int) (st : Sto) (Q : DK) : Prop := match rd st a with
  | .lst ds => newL m (cutL ds lo hi) st Q
  | .scr ds => newL m (cutL ds lo hi) st Q
  | .tup ds => Q (.tup (cutL ds lo hi)) st
  | .str z => z.length ≤ sizeLine ∧ Q (.str (cutS z lo hi)) st
  | _ => False
def wSl (m : Bool) (wa : DE) (wl wh : DO) : DE := fun env st Q => wa env st fun a s1 => wl env s1 fun lo s2 => wh env s2 fun hi s3 => dSl m a lo hi s3 Q
theorem mo_dSl {m : Bool} {a : D} {lo hi : Option Int} {st : Sto} {Q Q' : DK} (h : ∀ d s, Q d s → Q' d s) (q : dSl m a lo hi st Q) : dSl m a lo hi st Q' := by
  unfold dSl at q ⊢
  split at q
  · exact newL_mo h q
  · exact newL_mo h q
  · exact h _ _ q
  · exact ⟨q.1, h _ _ q.2⟩
  · exact q
theorem cut_whole {α : Type} (xs : List α) (lo hi : Option Int) (h : HT.sIx xs.length 0 lo = 0 ∧ HT.sIx xs.length xs.length hi = xs.length) : cutL xs lo hi = xs := by
  unfold cutL
  rw [h.1, h.2, List.drop_zero, Nat.sub_zero, List.take_length]
theorem we_sl {m : Bool} {lo hi : Option Expr} {wl wh : DO} (ha : WE X a wa) (hl : WO X lo wl) (hh : WO X hi wh) : WE X (.Subscript a (.Slice lo hi none p2) pos) (wSl m wa wl wh) := by
  refine ⟨fun _ _ _ _ h q => ha.mo _ _ _ _ (fun _ _ q => hl.mo _ _ _ _ (fun _ _ q => hh.mo _ _ _ _ (fun _ _ q => mo_dSl h q) q) q) q, PE_imp (pe_slice (sl_list.or (sl_tupX.or sl_str)) ha.pe hl.pe hh.pe) fun σ H Q ⟨env, io, F, st, R, q⟩ => ?_⟩
  refine tE_use ha.mo R q fun d s1 v io1 F1 H1 q1 t1 R1 n1 => ?_
  refine ⟨env, io1, F1, s1, R1, hl.mo _ _ _ _ (fun l s2 q2 => ?_) q1⟩
  intro io2 F2 H2 t2 R2
  refine ⟨env, io2, F2, s2, R1.next t2 R2, hh.mo _ _ _ _ (fun u s3 q3 => ?_) q2⟩
  intro io3 F3 H3 t3 R3
  replace q3 := mo_dSl (fun d s => kE_later ((t1.trans t2).trans t3)) q3
  replace n1 := (t2.trans t3).den n1
  unfold dSl at q3
  split at q3
  · rename_i ds e
    obtain ⟨p, xs, rfl, h1, h2, h3⟩ := rd_lst R3 n1 e
    exact .inl ⟨p, xs, rfl, SqL.of h1, lay_new R3 (cut_den h2 _ _) (Nat.le_trans (cutL_length _ _ _) h3) q3⟩
  · rename_i ds e
    cases rd_scr e
    cases n1 with
    | scr s r z => exact .inl ⟨_, _, rfl, SqL_mono R3.sub s, lay_new R3 (cut_den r _ _) (Nat.le_trans (cutL_length _ _ _) z) q3⟩
  · rename_i ds e
    cases rd_tup e
    cases n1 with
    | tup s r z =>
      refine .inr (.inl ⟨_, _, rfl, SqT_mono R3.sub s.t, fun hw => ?_, fun _ => ?_⟩)
      · rw [r.length] at hw
        rw [cut_whole ds l u hw] at q3
        exact kE_now R3 (.tup s r z) q3
      · exact lay_tup R3 (cut_den r _ _) (Nat.le_trans (cutL_length _ _ _) z) q3
  · rename_i z e
    cases rd_str e
    cases n1
    exact .inr (.inr ⟨z, rfl, q3.1, kE_now R3 (.str _) q3.2⟩)
  · exact q3.elim
end
theorem nodup_at {io : List Addr} (h : io.Nodup) {i j : Nat} {a : Addr} (h1 : io[i]? = some a) (h2 : io[j]? = some a) : i = j := by
  obtain ⟨x1, e1⟩ := List.getElem?_eq_some_iff.mp h1
  obtain ⟨x2, e2⟩ := List.getElem?_eq_some_iff.mp h2
  exact (List.getElem_inj h).mp (e1.trans e2.symm)
section
variable {K : PySem.W.Frag} {io : List Addr} {F H : Hp} {st : Sto} {n : Nat} {a : Addr}
theorem RelH.write (R : RelH K H io F st) {c : Cel} {o : HO} (h : io[n]? = some a) (hf : F a = none) (hc : CelOk K (upd H a o) io F a c) : RelH K (upd H a o) io F (st.set n c) ∧ Stp H io F (upd H a o) io F := by
  have hmem := List.mem_of_getElem? h
  obtain ⟨o1, ho⟩ := R.there a hmem
  refine ⟨⟨fun b u e => ?_, by rw [List.length_set]; exact R.len, R.nd, fun b hb => ?_, fun m d b h1 h2 => ?_, fun q hq => ?_⟩, ⟨⟨[], by simp, fun _ h => by cases h⟩, fun _ _ h => h, fun b u e hn hb => ?_, fun b u e => ?_, fun _ _ h => .inl h⟩⟩
  · rw [upd_ne (fun z => by subst z; rw [hf] at e; cases e)]; exact R.sub _ _ e
  · by_cases z : b = a
    · subst z; exact ⟨_, upd_same⟩
    · rw [upd_ne z]; exact R.there b hb
  · by_cases z : m = n
    · subst z
      have hm : m < st.length := by rw [← R.len]; exact (List.getElem?_eq_some_iff.mp h).1
      rw [List.getElem?_set_self hm] at h1
      cases h1
      rw [h] at h2
      cases h2
      exact hc
    · rw [List.getElem?_set_ne (Ne.symm z)] at h1
      have ne : b ≠ a := fun q => by subst q; exact z (nodup_at R.nd h2 h)
      have := R.cel m d b h1 h2
      cases d with
      | lst ds => obtain ⟨q1, q2, vs, q3, q4⟩ := this; exact ⟨q1, q2, vs, by rw [upd_ne ne]; exact q3, q4⟩
      | dead => trivial
      | ins C fs => obtain ⟨q1, cc, dx, fv, qc, q3, q4⟩ := this; exact ⟨q1, cc, dx, fv, qc, by rw [upd_ne ne]; exact q3, q4⟩
      | dct b kvs => obtain ⟨q1, q2, u, q3, q4⟩ := this; exact ⟨q1, q2, u, by rw [upd_ne ne]; exact q3, q4⟩
  · obtain ⟨t1, t2, ps, t3, t4, t5⟩ := R.tab q hq
    exact ⟨t1, t2, ps, by rw [upd_ne (fun z => by rw [z] at t2; exact t2 hmem)]; exact t3, t4, t5⟩
  · rw [upd_ne (fun z => by subst z; exact hb hmem)]; exact e
  · by_cases z : b = a
    · subst z; exact ⟨_, upd_same⟩
    · rw [upd_ne z]; exact ⟨u, e⟩
theorem RelH.writeL (R : RelH K H io F st) {ds ds' : List D} {vs' : List V} (h : io[n]? = some a) (hn : st[n]? = some (.lst ds)) (r : DenL K io F vs' ds') (z : ds'.length ≤ sizeLine) : RelH K (upd H a (.lst vs')) io F (st.set n (.lst ds')) ∧ Stp H io F (upd H a (.lst vs')) io F :=
  R.write h (R.cel n _ a hn h).1 ⟨(R.cel n _ a hn h).1, z, vs', upd_same, r⟩
/-- a cell's list -/
theorem RelH.at (R : RelH K H io F st) {ds : List D} (h : io[n]? = some a) (hn : st[n]? = some (.lst ds)) : ∃ vs, H a = some (.lst vs) ∧ DenL K io F vs ds ∧ ds.length ≤ sizeLine := by
  obtain ⟨h1, h2, vs, h3, h4⟩ := R.cel n _ a hn h
  exact ⟨vs, h3, h4, h2⟩
end
abbrev RMD := D → List D → Sto → DK → Prop
structure RzM (K : PySem.W.Frag) (r : V → List V → Hp → VK → Prop) (f : RMD) : Prop where
  mo : ∀ d ds s Q Q', (∀ d s, Q d s → Q' d s) → f d ds s Q → f d ds s Q'
  on : ∀ {H io F st v vs d ds Q}, RelH K H io F st → Den K io F v d → DenL K io F vs ds → f d ds st (kE K H io F Q) → r v vs H Q
def wM (f : RMD) (wo : DE) (wa : DA) : DE := fun env st Q => wo env st fun d s1 => (∃ ds, rd s1 d = .lst ds) ∧ wa env s1 fun ds s2 => f d ds s2 Q
section
variable {X : Cx} {apos cpos : Pos} {o e : Expr} {es : List Expr} {wo : DE} {wa : DA} {name : Str} {id : String} {r : V → List V → Hp → VK → Prop} {f : RMD}
theorem moM (mo : MoE wo) (ma : MoA wa) (z : RzM X.K r f) : MoE (wM f wo wa) := fun _ _ _ _ h q => mo _ _ _ _ (fun _ _ ⟨t, q⟩ => ⟨t, ma _ _ _ _ (fun _ _ q => z.mo _ _ _ _ _ h q) q⟩) q
theorem tM_of {σ : L2.St} {H : Hp} {Q : VK} (ho : WE X o wo) (ma : MoA wa) (z : RzM X.K r f) (h : tE X.K (wM f wo wa) σ H Q) : tBM X.K "list" r (tE X.K wo) (tA X.K wa) σ H Q := by
  obtain ⟨env, io, F, st, R, q⟩ := h
  refine tE_use ho.mo R q fun d s1 v io1 F1 H1 ⟨⟨ds, e⟩, q1⟩ t1 R1 n1 => ?_
  obtain ⟨p, xs, rfl, h1, h2, h3⟩ := rd_lst R1.toRelH n1 e
  refine ⟨.inl ⟨rfl, _, SqL.of h1⟩, ?_⟩
  refine tA_use ma R1 q1 fun ds s2 vs io2 F2 H2 q2 t2 R2 n2 => ?_
  exact z.on R2.toRelH (t2.den n1) n2 (z.mo _ _ _ _ _ (fun _ _ => kE_later (t1.trans t2)) q2)
theorem we_m (slot : Slot "list" name id) (hty : typeOf (.builtin id) = pure (.type "method_descriptor")) (hm : MtR X id r) (z : RzM X.K r f) (ho : WE X o wo) (ha : WA X (e :: es) wa)
    (pe : ∀ {to : TE} {t : TA}, PE X o to → PA X (e :: es) t → PE X (.Call (.Attribute o name apos) (e :: es) [] cpos) (tBM X.K "list" r to t)) : WE X (.Call (.Attribute o name apos) (e :: es) [] cpos) (wM f wo wa) :=
  ⟨moM ho.mo ha.mo z, PE_imp (pe ho.pe ha.pe) fun σ H Q h => tM_of ho ha.mo z h⟩
end
def mAppend : RMD := fun d xs st Q => ∃ n ds x, d = .ref n ∧ xs = [x] ∧ st[n]? = some (.lst ds) ∧ ds.length < sizeLine ∧ Q .non (st.set n (.lst (ds ++ [x])))
theorem z_append {K : PySem.W.Frag} : RzM K rAppend mAppend where
  mo := fun _ _ _ _ _ h ⟨n, ds, x, e1, e2, e3, z, q⟩ => ⟨n, ds, x, e1, e2, e3, z, h _ _ q⟩
  on := fun {H io F st v vs d ds Q} R n1 n2 ⟨n, ds', x, e1, e2, e3, z, q⟩ => by
    subst e1 e2
    cases n1 with
    | ref h =>
      obtain ⟨y, rfl, ny⟩ := n2.one
      obtain ⟨xs, h1, h2, h3⟩ := R.at h e3
      obtain ⟨R', s⟩ := R.writeL (ds' := ds' ++ [x]) h e3 (h2.append (.cons ny .nil)) (by rw [List.length_append]; exact z)
      exact ⟨_, xs, y, rfl, rfl, h1, by rw [h2.length]; exact z, q _ _ _ _ s R' .non⟩
def mPopAt : RMD := fun d xs st Q => ∃ n ds i k x, d = .ref n ∧ xs = [.int i] ∧ st[n]? = some (.lst ds) ∧ -(2 ^ 63) ≤ i ∧ i < 2 ^ 63 ∧ ixN ds.length i = some k ∧ ds[k]? = some x ∧ Q x (st.set n (.lst (ds.eraseIdx k)))
theorem erase_le {α : Type} (xs : List α) (k : Nat) : (xs.eraseIdx k).length ≤ xs.length := by
  rw [List.length_eraseIdx]
  split <;> omega
theorem z_popAt {K : PySem.W.Frag} : RzM K rPopAt mPopAt where
  mo := fun _ _ _ _ _ h ⟨n, ds, i, k, x, e1, e2, e3, z1, z2, z3, z4, q⟩ => ⟨n, ds, i, k, x, e1, e2, e3, z1, z2, z3, z4, h _ _ q⟩
  on := fun {H io F st v vs d ds Q} R n1 n2 ⟨n, ds', i, k, x, e1, e2, e3, z1, z2, z3, z4, q⟩ => by
    subst e1 e2
    cases n1 with
    | ref h =>
      obtain ⟨y, rfl, ny⟩ := n2.one
      cases ny
      obtain ⟨xs, h1, h2, h3⟩ := R.at h e3
      obtain ⟨y, h4, h5⟩ := h2.get z4
      obtain ⟨R', s⟩ := R.writeL (ds' := ds'.eraseIdx k) h e3 (h2.erase k) (Nat.le_trans (erase_le _ _) h3)
      exact ⟨_, xs, i, k, y, rfl, rfl, h1, z1, z2, by rw [h2.length]; exact (ixN_seq z3).1, h4, q _ _ _ _ s R' (s.den h5)⟩
def gSet (wo wi : DE) : DG := fun d env st Q => wo env st fun o s1 => wi env s1 fun i s2 => ∃ n ds k j, o = .ref n ∧ i = .int k ∧ s2[n]? = some (.lst ds) ∧ ixN ds.length k = some j ∧ Q env (s2.set n (.lst (ds.set j d)))
section
variable {X : Cx} {pos : Pos} {o i : Expr} {wo wi : DE}
theorem wg_sub (ho : WE X o wo) (hi : WE X i wi)
    (ha : ∀ v, assign (.Subscript o i pos) X.env v = (do
      let ov ← holding [v] (eval o X.env)
      let iv ← holding [v, ov] (eval i X.env)
      standAt pos
      holding [v, ov, iv] (setItem ov iv v)
      release [v, ov, iv] []) := by intro _; rfl) : WG X (.Subscript o i pos) (gSet wo wi) := by
  refine ⟨fun _ _ _ _ _ h q => ho.mo _ _ _ _ (fun _ _ q => hi.mo _ _ _ _ (fun _ _ ⟨n, ds, k, j, e1, e2, e3, e4, q⟩ => ⟨n, ds, k, j, e1, e2, e3, e4, h _ _ q⟩) q) q, PG_imp (pg_sub ho.pe hi.pe set_list ha) fun v σ H Q ⟨d, env, io, F, st, R, n1, q⟩ => ?_⟩
  refine tE_use ho.mo R q fun o s1 vo io1 F1 H1 q1 t1 R1 no => ?_
  refine tE_use hi.mo R1 q1 fun ix s2 vi io2 F2 H2 q2 t2 R2 ni => ?_
  obtain ⟨n, ds, k, j, e1, e2, e3, e4, q2⟩ := q2
  subst e1 e2
  cases ni
  cases no with
  | ref h =>
    have h' := t2.ix _ _ h
    obtain ⟨xs, h1, h2, h3⟩ := R2.at h' e3
    obtain ⟨R', s⟩ := R2.writeL (ds' := ds.set j d) h' e3 (h2.setAt j ((t1.trans t2).den n1)) (by rw [List.length_set]; exact h3)
    exact ⟨_, xs, k, j, rfl, rfl, h1, by rw [h2.length]; exact e4, q2 _ _ _ _ ((t1.trans t2).trans s) (R2.next s R')⟩
end
end DL
namespace DL
open PySem PySem.Spec PyProof.Rows L2
variable [Bs]
section
variable {X : Cx} {pos spos : Pos} {elt tg iter : Expr} {ifs : List Expr} {scope : Scope} {own : List (Str × Nat)} {wi : DI} {t : Tg} {c : DT} {w : DE} {m : Bool}
theorem moComp (mi : MoI wi) (mc : MoT c) (mw : MoE w) {vs : List Nat} : MoE (wComp m wi t c w vs) := fun _ _ _ _ h q => mi _ _ _ _ (fun _ _ _ ⟨z, q⟩ => ⟨z, moCompL mc mw (fun _ _ q => newL_mo h q) _ _ _ q⟩) q
theorem we_lc (hc : X.calm = true) (hN : X.N.Nodup) (hi : WI X tg iter wi) (ok : BlkOk X.N X.env.scope scope own) (hv : ∀ i ∈ t.ix, i ∈ own.map (·.2))
    (hg : ∀ (s : Shared) (H : Hp) (C : Addr) (cl : List (Str × Addr)) (fp : List Addr), PG (X.blk s H scope (compEnvC scope cl C X.env) fp) tg (t.tg X.K))
    (ht : ∀ (s : Shared) (H : Hp) (C : Addr) (cl : List (Str × Addr)) (fp : List Addr), WTs (X.blk s H scope (compEnvC scope cl C X.env) fp) ifs c)
    (he : ∀ (s : Shared) (H : Hp) (C : Addr) (cl : List (Str × Addr)) (fp : List Addr), WE (X.blk s H scope (compEnvC scope cl C X.env) fp) elt w) (hs : ∀ x, foldedSetIterable iter X.env x = pure x := by intro _; rfl) :
    WE X (.ListComp elt [⟨tg, iter, ifs, 0⟩] scope pos) (wComp m wi t c w (own.map (·.2))) :=
  ⟨moComp hi.mo (ht X.s_0 X.H_0 0 [] []).mo (he X.s_0 X.H_0 0 [] []).mo, PE_imp (pe_lc hc hN hi.pe ok hg (fun s H C cl fp => (ht s H C cl fp).pe) (fun s H C cl fp => (he s H C cl fp).pe) hs) fun σ H Q h =>
    tLc_of hi.mo (ht X.s_0 X.H_0 0 [] []).mo (he X.s_0 X.H_0 0 [] []).mo hv h⟩
end
def startE (N : List Str) (ds : List D) : En := ds.map some ++ List.replicate (N.length - ds.length) none
omit [Bs] in
theorem start_rel {K : PySem.W.Frag} {H : Hp} {io : List Addr} {F : Hp} {st : Sto} {N : List Str} {vs : List V} {ds : List D} (R : RelH K H io F st) (n : DenL K io F vs ds) : @Rel ⟨H, io, F⟩ K (L2.start N vs) H (startE N ds) io F st :=
  letI : Bs := ⟨H, io, F⟩
  { R with
    bs := Stp.refl
    sl := by unfold L2.start startE; simp [n.length]
    slot := fun i d e => by
      unfold startE at e
      unfold L2.start
      by_cases hi : i < ds.length
      · rw [List.getElem?_append_left (by simpa using hi)] at e
        rw [List.getElem?_append_left (by rw [List.length_map, n.length]; exact hi)]
        rw [List.getElem?_map] at e ⊢
        cases q : ds[i]? with
        | none => rw [q] at e; cases e
        | some d' =>
          rw [q] at e
          cases e
          obtain ⟨v, h1, h2⟩ := n.get q
          exact ⟨v, by rw [h1]; rfl, h2⟩
      · rw [List.getElem?_append_right (by simpa using hi)] at e
        have := List.mem_of_getElem? e
        rw [List.mem_replicate] at this
        cases this.2 }
/-- how a body ends -/
def bodyEnds (post : D → Sto → Prop) : DEnds := ⟨fun _ st => post .non st, post, fun _ _ => False, fun _ _ => False⟩
section
variable {P : Program} {w : World} {K : PySem.W.Frag} {mg : Str → Option Value} {base : Heap}
omit [Bs] in
theorem fn_ok {x qual : Str} {st : Stmt} {f : Addr} {fd : FuncData} {N ps : List Str} {k : Nat} {S : Spec} {wb : DS} (F : Fun K x qual st f fd) (sc : FnScope N ps (defScope st)) (hn : S.n = ps.length)
    (body : ∀ [Bs] (cdv : Value) (A : Around) (outer : List Env) (s : Shared) (H : Hp) (E : XK), Room k (A.deeper (envOfC qual (defScope st) s.heap.objs.size f cdv)) → A.guards = some [] → WB (cxOf CX0 P w K mg base N qual (defScope st) f cdv A outer s H E).nox (defBody st) wb)
    (vc : ∀ g sto, (S.args g).length = S.n → S.pre g sto → wb (bodyEnds (S.post g sto)) (startE N (S.args g)) sto) : FnG P w K mg base CX0 (k + 1) f fd ps (spOf K S) := by
  refine fnG_of F sc (fun vs H Q E h => ?_) (fun cdv A outer s H vs Q E _ hr hgd h => ?_)
  · obtain ⟨g, io, Fz, sto, z, R, n, p, q⟩ := h
    rw [n.length, z, hn]
  · obtain ⟨g, io, Fz, sto, z, R, n, p, q⟩ := h
    letI : Bs := ⟨H, io, Fz⟩
    have B := body cdv A outer s H E hr hgd
    refine ⟨_, B.pe.nox, startE N (S.args g), io, Fz, sto, start_rel R n, B.mo (bodyEnds (S.post g sto)) _ _ _ ?_ (vc g sto z p)⟩
    refine ⟨fun e s h => ?_, fun d s h => ?_, fun e s h => h.elim, fun e s h => h.elim⟩
    · exact fun σ' io' F' H' t R' => q .non s h .non io' F' H' t R'.toRelH .non
    · exact q d s h
mutual
def D.blw (n : Nat) : D → Bool
  | .tup ds => D.blwL n ds
  | .lst ds => D.blwL n ds
  | .scr ds => D.blwL n ds
  | .ref k => decide (k < n)
  | .fn _ io0 _ => decide (0 < n ∧ io0.length ≤ n)
  | .exc _ _ ds => decide (0 < n) && D.blwL n ds
  | .non => true
  | .bl _ => true
  | .int _ => true
  | .str _ => true
  | .dct _ => true
def D.blwL (n : Nat) : List D → Bool
  | [] => true
  | d :: r => d.blw n && D.blwL n r
end
def Cel.blw (n : Nat) : Cel → Bool
  | .lst ds => D.blwL n ds
  | .dead => true
  | .ins _ fs => D.blwL n (fs.map (·.2))
  | .dct _ _ => true
mutual
theorem Den.cut {K : PySem.W.Frag} {io io' : List Addr} {F : Hp} (h : ∀ (n : Nat) a, n < io.length → io'[n]? = some a → io[n]? = some a) : ∀ {v : V} {d : D}, Den K io' F v d → d.blw io.length = true → Den K io F v d
  | _, _, .non, _ => .non
  | _, _, .bl b, _ => .bl b
  | _, _, .int i, _ => .int i
  | _, _, .str x, _ => .str x
  | _, _, .dct e, _ => .dct e
  | _, _, .tup s r z, b => .tup s (DenL.cut h r (by simpa only [D.blw] using b)) z
  | _, _, .lst s r z, b => .lst s (DenL.cut h r (by simpa only [D.blw] using b)) z
  | _, _, .scr s r z, b => .scr s (DenL.cut h r (by simpa only [D.blw] using b)) z
  | _, _, .ref e, b => .ref (h _ _ (by simpa only [D.blw, decide_eq_true_eq] using b) e)
  | _, _, .fn e1 e2, b => .fn (fun n a e => h n a (Nat.lt_of_lt_of_le (List.getElem?_eq_some_iff.mp e).1 (of_decide_eq_true (show decide (0 < io.length ∧ _) = true by simpa only [D.blw] using b)).2) (e1 n a e)) e2
  | _, _, .exc n e x a1 a2 r, b => .exc n e x a1 a2 (DenL.cut h r (by simp only [D.blw, Bool.and_eq_true] at b; exact b.2))
theorem DenL.cut {K : PySem.W.Frag} {io io' : List Addr} {F : Hp} (h : ∀ (n : Nat) a, n < io.length → io'[n]? = some a → io[n]? = some a) : ∀ {vs : List V} {ds : List D}, DenL K io' F vs ds → D.blwL io.length ds = true → DenL K io F vs ds
  | _, _, .nil, _ => .nil
  | _, _, .cons a b, q => by
    simp only [D.blwL, Bool.and_eq_true] at q
    exact .cons (Den.cut h a q.1) (DenL.cut h b q.2)
end
mutual
theorem Den.blw {K : PySem.W.Frag} {io : List Addr} {F : Hp} (h0 : 0 < io.length) : ∀ {v : V} {d : D}, Den K io F v d → d.blw io.length = true
  | _, _, .non => rfl
  | _, _, .bl b => rfl
  | _, _, .int i => rfl
  | _, _, .str x => rfl
  | _, _, .dct e => rfl
  | _, _, .tup s r z => by simpa only [D.blw] using DenL.blw h0 r
  | _, _, .lst s r z => by simpa only [D.blw] using DenL.blw h0 r
  | _, _, .scr s r z => by simpa only [D.blw] using DenL.blw h0 r
  | _, _, .ref e => by simpa only [D.blw, decide_eq_true_eq] using (List.getElem?_eq_some_iff.mp e).1
  | _, _, .exc n e x a1 a2 r => by
    simp only [D.blw, Bool.and_eq_true, decide_eq_true_eq]
    exact ⟨h0, DenL.blw h0 r⟩
  | _, _, @Den.fn _ _ _ _ io0 _ e1 _ => by
    simp only [D.blw, decide_eq_true_eq]
    rcases Nat.lt_or_ge io.length io0.length with q | q
    · have h1 : io0[io.length]? = some io0[io.length] := List.getElem?_eq_getElem q
      exact absurd (List.getElem?_eq_some_iff.mp (e1 _ _ h1)).1 (Nat.lt_irrefl _)
    · exact ⟨h0, q⟩
theorem DenL.blw {K : PySem.W.Frag} {io : List Addr} {F : Hp} (h0 : 0 < io.length) : ∀ {vs : List V} {ds : List D}, DenL K io F vs ds → D.blwL io.length ds = true
  | _, _, .nil => rfl
  | _, _, .cons a b => by simp only [D.blwL, Bool.and_eq_true]; exact ⟨Den.blw h0 a, DenL.blw h0 b⟩
end
theorem DenF.cut {K : PySem.W.Frag} {io io' : List Addr} {F : Hp} (h : ∀ (n : Nat) a, n < io.length → io'[n]? = some a → io[n]? = some a) : ∀ {vs : List (Str × V)} {ds : List (Str × D)}, DenF K io' F vs ds → D.blwL io.length (ds.map (·.2)) = true → DenF K io F vs ds
  | _, _, .nil, _ => .nil
  | _, _, .cons a b, q => by
    simp only [List.map_cons, D.blwL, Bool.and_eq_true] at q
    exact .cons ⟨a.1, a.2.cut h q.1⟩ (DenF.cut h b q.2)
theorem DenF.blw {K : PySem.W.Frag} {io : List Addr} {F : Hp} (h0 : 0 < io.length) : ∀ {vs : List (Str × V)} {ds : List (Str × D)}, DenF K io F vs ds → D.blwL io.length (ds.map (·.2)) = true
  | _, _, .nil => rfl
  | _, _, .cons a b => by simp only [List.map_cons, D.blwL, Bool.and_eq_true]; exact ⟨a.2.blw h0, DenF.blw h0 b⟩
/-- the end of a def that forgets its own cells: the cells that were there, and what is handed back, know nothing of them -/
def popEnds (n : Nat) (st0 : Sto) (post : D → Sto → Prop) : D → Sto → Prop := fun d st' => ∃ st1 ex, st' = st1 ++ ex ∧ st1.length = n ∧ d.blw n = true ∧ (∀ (i : Nat) c, st1[i]? = some c → st0[i]? = some c ∨ c.blw n = true) ∧ post d st1
theorem pop_rel {K : PySem.W.Frag} {H H' : Hp} {io io' : List Addr} {F F' : Hp} {st st1 ex : Sto} (R : RelH K H io F st) (t : Stp H io F H' io' F') (R' : RelH K H' io' F' (st1 ++ ex)) (hl : st1.length = st.length)
    (hb : ∀ (i : Nat) c, st1[i]? = some c → st[i]? = some c ∨ c.blw st.length = true) : RelH K H' io F' st1 ∧ Stp H io F H' io F' := by
  obtain ⟨more, em, hm⟩ := t.ext
  have cutH : ∀ (n : Nat) a, n < io.length → io'[n]? = some a → io[n]? = some a := fun n a h e => by
    rw [em, List.getElem?_append_left h] at e; exact e
  have mem' : ∀ a ∈ io, a ∈ io' := fun a h => by rw [em]; exact List.mem_append_left _ h
  refine ⟨⟨R'.sub, by rw [hl]; exact R.len, R.nd, fun a ha => R'.there a (mem' a ha), fun n c a h1 h2 => ?_, fun q hq => let ⟨t1, t2, r⟩ := R'.tab q hq; ⟨t1, fun h => t2 (mem' _ h), r⟩⟩, ⟨⟨[], by simp, fun _ h => by cases h⟩, t.fr, t.keep, t.dom, t.fnw⟩⟩
  have hn : n < st1.length := (List.getElem?_eq_some_iff.mp h1).1
  have q := R'.cel n c a (by rw [List.getElem?_append_left hn]; exact h1) (t.ix _ _ h2)
  have b : c.blw io.length = true := by
    rw [R.len]
    rcases hb n c h1 with e | e
    · have z := R.cel n c a e h2
      have h0 : 0 < io.length := Nat.lt_of_le_of_lt (Nat.zero_le _) (List.getElem?_eq_some_iff.mp h2).1
      rw [← R.len]
      cases c with
      | lst ds => obtain ⟨_, _, vs, _, z⟩ := z; exact z.blw h0
      | dead => rfl
      | ins C fs => obtain ⟨_, _, dx, fv, _, _, z⟩ := z; exact DenF.blw h0 z
      | dct b kvs => rfl
    · exact e
  cases c with
  | lst ds => obtain ⟨q1, q2, vs, q3, q4⟩ := q; exact ⟨q1, q2, vs, q3, q4.cut cutH b⟩
  | dead => trivial
  | ins C fs => obtain ⟨q1, cc, dx, fv, qc, q3, q4⟩ := q; exact ⟨q1, cc, dx, fv, qc, q3, DenF.cut cutH q4 b⟩
  | dct b kvs => exact q
omit [Bs] in
theorem fn_okP {x qual : Str} {st : Stmt} {f : Addr} {fd : FuncData} {N ps : List Str} {k : Nat} {S : Spec} {wb : DS} (F : Fun K x qual st f fd) (sc : FnScope N ps (defScope st)) (hn : S.n = ps.length)
    (body : ∀ [Bs] (cdv : Value) (A : Around) (outer : List Env) (s : Shared) (H : Hp) (E : XK), Room k (A.deeper (envOfC qual (defScope st) s.heap.objs.size f cdv)) → A.guards = some [] → WB (cxOf CX0 P w K mg base N qual (defScope st) f cdv A outer s H E).nox (defBody st) wb)
    (vc : ∀ g sto, (S.args g).length = S.n → S.pre g sto → wb (bodyEnds (popEnds sto.length sto (S.post g sto))) (startE N (S.args g)) sto) : FnG P w K mg base CX0 (k + 1) f fd ps (spOf K S) := by
  refine fnG_of F sc (fun vs H Q E h => ?_) (fun cdv A outer s H vs Q E _ hr hgd h => ?_)
  · obtain ⟨g, io, Fz, sto, z, R, n, p, q⟩ := h
    rw [n.length, z, hn]
  · obtain ⟨g, io, Fz, sto, z, R, n, p, q⟩ := h
    letI : Bs := ⟨H, io, Fz⟩
    have B := body cdv A outer s H E hr hgd
    refine ⟨_, B.pe.nox, startE N (S.args g), io, Fz, sto, start_rel R n, B.mo (bodyEnds (popEnds sto.length sto (S.post g sto))) _ _ _ ?_ (vc g sto z p)⟩
    have fin : ∀ {d : D} {s : Sto} {v : V} {io' : List Addr} {F' H' : Hp}, popEnds sto.length sto (S.post g sto) d s → Stp H io Fz H' io' F' → RelH K H' io' F' s → Den K io' F' v d → Q v H' := fun {d s v io' F' H'} h t R' nd => by
      obtain ⟨st1, ex, rfl, hl, hd, hb, h⟩ := h
      obtain ⟨R2, t2⟩ := pop_rel R t R' hl hb
      refine q d st1 h v io F' H' t2 R2 (nd.cut (fun n a h e => ?_) (by rw [R.len]; exact hd))
      obtain ⟨more, em, hm⟩ := t.ext
      rw [em, List.getElem?_append_left h] at e
      exact e
    refine ⟨fun e s h => ?_, fun d s h => ?_, fun e s h => h.elim, fun e s h => h.elim⟩
    · exact fun σ' io' F' H' t R' => fin h t R'.toRelH .non
    · exact fun v io' F' H' t R' nd => fin h t R' nd
end
end DL
namespace DL
open PySem PySem.Spec PyProof.Rows L2
variable [Bs]
def lexG (r : Int → Int → Bool) (z : Nat → Nat → Bool) : List Int → List Int → Bool
  | x :: xs, y :: ys => if x = y then lexG r z xs ys else r x y
  | xs, ys => z xs.length ys.length
theorem lexAt_shift (e r : Nat → Bool) (z : Bool) : ∀ (k i : Nat), Ob.lexAt e r z (i + 1) k = Ob.lexAt (fun j => e (j + 1)) (fun j => r (j + 1)) z i k
  | 0, i => rfl
  | k + 1, i => by rw [Ob.lexAt_succ, Ob.lexAt_succ, lexAt_shift e r z k (i + 1)]
theorem lexAt_G (r : Int → Int → Bool) (z : Nat → Nat → Bool) (hz : ∀ a b, z (a + 1) (b + 1) = z a b) : ∀ ns ms : List Int,
    Ob.lexAt (fun j => decide (ns.getD j 0 = ms.getD j 0)) (fun j => r (ns.getD j 0) (ms.getD j 0)) (z ns.length ms.length) 0 (min ns.length ms.length) = lexG r z ns ms
  | [], ms => by
    rw [show min ([] : List Int).length ms.length = 0 by simp]
    cases ms <;> rfl
  | x :: xs, [] => rfl
  | x :: xs, y :: ys => by
    rw [show min (x :: xs).length (y :: ys).length = min xs.length ys.length + 1 by simp only [List.length_cons]; omega, Ob.lexAt_succ, lexAt_shift]
    simp only [List.getD_cons_zero, List.getD_cons_succ, List.length_cons, hz]
    rw [lexAt_G r z hz xs ys]
    by_cases h : x = y
    · simp [lexG, h]
    · simp [lexG, h]
theorem lexG_lt : ∀ ns ms : List Int, lexG (fun x y => decide (x < y)) (fun a b => decide (a < b)) ns ms = HT.lexLt ns ms
  | [], [] => rfl
  | [], _ :: _ => by simp [lexG, HT.lexLt]
  | _ :: _, [] => by simp [lexG, HT.lexLt]
  | x :: xs, y :: ys => by simp only [lexG, HT.lexLt]; rw [lexG_lt xs ys]
theorem lexG_gt : ∀ ns ms : List Int, lexG (fun x y => decide (x > y)) (fun a b => decide (a > b)) ns ms = HT.lexLt ms ns
  | [], [] => rfl
  | [], _ :: _ => by simp [lexG, HT.lexLt]
  | _ :: _, [] => by simp [lexG, HT.lexLt]
  | x :: xs, y :: ys => by
    simp only [lexG, HT.lexLt]
    rw [lexG_gt xs ys]
    by_cases h : x = y
    · simp [h]
    · have h' : ¬ y = x := fun e => h e.symm
      simp [h, h']
theorem lexG_le : ∀ ns ms : List Int, lexG (fun x y => decide (x ≤ y)) (fun a b => decide (a ≤ b)) ns ms = !HT.lexLt ms ns
  | [], [] => rfl
  | [], _ :: _ => by simp [lexG, HT.lexLt]
  | _ :: _, [] => by simp [lexG, HT.lexLt]
  | x :: xs, y :: ys => by
    simp only [lexG, HT.lexLt]
    rw [lexG_le xs ys]
    by_cases h : x = y
    · simp [h]
    · have h' : ¬ y = x := fun e => h e.symm
      simp only [h, h', if_false]
      by_cases q : x ≤ y
      · have : ¬ y < x := by omega
        simp [q, this]
      · have : y < x := by omega
        simp [q, this]
theorem lexG_ge : ∀ ns ms : List Int, lexG (fun x y => decide (x ≥ y)) (fun a b => decide (a ≥ b)) ns ms = !HT.lexLt ns ms
  | [], [] => rfl
  | [], _ :: _ => by simp [lexG, HT.lexLt]
  | _ :: _, [] => by simp [lexG, HT.lexLt]
  | x :: xs, y :: ys => by
    simp only [lexG, HT.lexLt]
    rw [lexG_ge xs ys]
    by_cases h : x = y
    · simp [h]
    · simp only [h, if_false]
      by_cases q : x ≥ y
      · have : ¬ x < y := by omega
        simp [q, this]
      · have : x < y := by omega
        simp [q, this]
def rCmpT (K : PySem.W.Frag) (f : List Int → List Int → Bool) : R2 := fun x y H Q => ∃ (a b : Addr) (ns ms : List Int), x = .ref a ∧ y = .ref b ∧ SqT K H a (ns.map V.int) ∧ SqT K H b (ms.map V.int) ∧ Q (.bl (f ns ms)) H
theorem tupsOf {X : Cx} {pins : List (Addr × Obj)} {s : Shared} {σ : L2.St} {H : Hp} {a : Addr} {ns : List Int} (I : Inv X pins σ H s) (ha : SqT X.K H a (ns.map V.int)) :
    ∃ its : Array Value, s.heap.IsTuple a its ∧ its.size = ns.length ∧ ∀ j (h : j < its.size), ∃ t, its[j] = .int (ns.getD j 0) t := by
  obtain ⟨its, r1, p1, _⟩ := I.tuple ha
  have i1 : IntsAre its ns := Vals.ints r1
  exact ⟨its.toArray, p1, by rw [List.size_toArray]; exact i1.length, fun j h1 => PyProof.Rows.IntsAre.int_at i1 _ _ (by simp at h1; simp [h1])⟩
theorem op_cmpT {X : Cx} {op : CmpOp} (r : Int → Int → Bool) (z : Nat → Nat → Bool) (hz : ∀ a b, z (a + 1) (b + 1) = z a b) (hop : ∀ v u, compareOp op v u = richCompare op v u)
    (base : ∀ (A : Around) (s : Shared) (i j : Int) (t u : Tok), Ob.RcOp op A s (.int i t) (.int j u) (r i j))
    (tups : ∀ {A : Around} {s : Shared} {l b : Addr} {items items2 : Array Value} {e r : Nat → Bool}, s.heap.IsTuple l items → s.heap.IsTuple b items2 → A.units < cLine → (∀ j (h1 : j < items.size) (h2 : j < items2.size), SeqAt.EqAt A.in1 s items[j] items2[j] (e j)) →
      (∀ j (h1 : j < items.size) (h2 : j < items2.size), e j = false → Ob.RcOp op A.in1 s items[j] items2[j] (r j)) → Ob.RcOp op A s (.ref l) (.ref b) (Ob.lexAt e r (z items.size items2.size) 0 (min items.size items2.size)))
    (hu : X.A.units < cLine) : OpR X (compareOp op) (rCmpT X.K (lexG r z)) := by
  intro pins s σ H x y v u Q I rx ry h
  obtain ⟨a, b, ns, ms, rfl, rfl, ha, hb, q⟩ := h
  cases rx
  cases ry
  obtain ⟨its, p1, z1, g1⟩ := tupsOf I ha
  obtain ⟨its2, p2, z2, g2⟩ := tupsOf I hb
  have R := tups (e := fun j => decide (ns.getD j 0 = ms.getD j 0)) (r := fun j => r (ns.getD j 0) (ms.getD j 0)) p1 p2 hu (fun j h1 h2 => by
    obtain ⟨t, et⟩ := g1 j h1
    obtain ⟨t', et'⟩ := g2 j h2
    rw [et, et', ← Bool.beq_eq_decide_eq]
    exact SeqAt.EqAt.int_int _ _ _ _) (fun j h1 h2 _ => by
    obtain ⟨t, et⟩ := g1 j h1
    obtain ⟨t', et'⟩ := g2 j h2
    rw [et, et']
    exact base _ _ _ _ _ _)
  rw [z1, z2, lexAt_G r z hz] at R
  rw [hop]
  exact R X.prog X.w X.xe _ ⟨.bl _, H, I, rfl, q⟩
theorem op_ltD {X : Cx} (hu : X.A.units < cLine) : OpR X (compareOp .Lt) (fun x y H Q => rI0 (fun i j => .bl (decide (i < j))) x y H Q ∨ rCmpT X.K (lexG (fun x y => decide (x < y)) (fun a b => decide (a < b))) x y H Q) :=
  op_lt.or (op_cmpT _ (fun a b => decide (a < b)) (fun a b => by simp) (fun _ _ => rfl) (fun _ _ _ _ _ _ => Ob.RcOp.lt_int _ _ _ _) Ob.RcOp.tuples_lt hu)
theorem op_gtD {X : Cx} (hu : X.A.units < cLine) : OpR X (compareOp .Gt) (fun x y H Q => rI0 (fun i j => .bl (decide (j < i))) x y H Q ∨ rCmpT X.K (lexG (fun x y => decide (x > y)) (fun a b => decide (a > b))) x y H Q) :=
  op_gt.or (op_cmpT _ (fun a b => decide (a > b)) (fun a b => by simp) (fun _ _ => rfl) (fun _ _ _ _ _ _ => Ob.RcOp.gt_int _ _ _ _) Ob.RcOp.tuples_gt hu)
theorem op_leD {X : Cx} (hu : X.A.units < cLine) : OpR X (compareOp .LtE) (fun x y H Q => rI0 (fun i j => .bl (decide (i ≤ j))) x y H Q ∨ rCmpT X.K (lexG (fun x y => decide (x ≤ y)) (fun a b => decide (a ≤ b))) x y H Q) :=
  op_le.or (op_cmpT _ (fun a b => decide (a ≤ b)) (fun a b => by simp) (fun _ _ => rfl) (fun _ _ _ _ _ _ => Ob.RcOp.le_int _ _ _ _) Ob.RcOp.tuples_le hu)
theorem op_geD {X : Cx} (hu : X.A.units < cLine) : OpR X (compareOp .GtE) (fun x y H Q => rI0 (fun i j => .bl (decide (j ≤ i))) x y H Q ∨ rCmpT X.K (lexG (fun x y => decide (x ≥ y)) (fun a b => decide (a ≥ b))) x y H Q) :=
  op_ge.or (op_cmpT _ (fun a b => decide (a ≥ b)) (fun a b => by simp) (fun _ _ => rfl) (fun _ _ _ _ _ _ => Ob.RcOp.ge_int _ _ _ _) Ob.RcOp.tuples_ge hu)
def dCmp (p : Int → Int → Bool) (f : List Int → List Int → Bool) : R2D := fun a b st Q => match a, b with
  | .int i, .int j => Q (.bl (p i j)) st
  | .tup x, .tup y => ∃ ns ms, D.ints x = some ns ∧ D.ints y = some ms ∧ Q (.bl (f ns ms)) st
  | _, _ => False
theorem z_cmp {K : PySem.W.Frag} {p : Int → Int → Bool} {f g : List Int → List Int → Bool} (h : ∀ ns ms, g ns ms = f ns ms) : Rz K (fun x y H Q => rI0 (fun i j => .bl (p i j)) x y H Q ∨ rCmpT K g x y H Q) (dCmp p f) where
  mo := fun a b s Q Q' h q => by
    unfold dCmp at q ⊢
    split at q
    · exact h _ _ q
    · obtain ⟨ns, ms, e1, e2, q⟩ := q; exact ⟨ns, ms, e1, e2, h _ _ q⟩
    · exact q
  on := fun {H io F st x y a b Q} R n1 n2 q => by
    unfold dCmp at q
    split at q
    · cases n1
      cases n2
      exact .inl ⟨_, _, rfl, rfl, kE_now R (.bl _) q⟩
    · obtain ⟨ns, ms, e1, e2, q⟩ := q
      cases ints_eq e1
      cases ints_eq e2
      cases n1 with
      | tup s1 r1 _ =>
        cases n2 with
        | tup s2 r2 _ =>
          rw [den_ints r1] at s1
          rw [den_ints r2] at s2
          refine .inr ⟨_, _, ns, ms, rfl, rfl, SqT_mono R.sub s1.t, SqT_mono R.sub s2.t, ?_⟩
          rw [h]
          exact kE_now R (.bl _) q
    · exact q.elim
def dLt : R2D := dCmp (fun i j => decide (i < j)) HT.lexLt
def dGt : R2D := dCmp (fun i j => decide (j < i)) fun ns ms => HT.lexLt ms ns
def dLe : R2D := dCmp (fun i j => decide (i ≤ j)) fun ns ms => !HT.lexLt ms ns
def dGe : R2D := dCmp (fun i j => decide (j ≤ i)) fun ns ms => !HT.lexLt ns ms
theorem z_lt {K : PySem.W.Frag} : Rz K (fun x y H Q => rI0 (fun i j => .bl (decide (i < j))) x y H Q ∨ rCmpT K (lexG (fun x y => decide (x < y)) (fun a b => decide (a < b))) x y H Q) dLt := z_cmp (p := fun i j => decide (i < j)) lexG_lt
theorem z_gt {K : PySem.W.Frag} : Rz K (fun x y H Q => rI0 (fun i j => .bl (decide (j < i))) x y H Q ∨ rCmpT K (lexG (fun x y => decide (x > y)) (fun a b => decide (a > b))) x y H Q) dGt := z_cmp (p := fun i j => decide (j < i)) lexG_gt
theorem z_le {K : PySem.W.Frag} : Rz K (fun x y H Q => rI0 (fun i j => .bl (decide (i ≤ j))) x y H Q ∨ rCmpT K (lexG (fun x y => decide (x ≤ y)) (fun a b => decide (a ≤ b))) x y H Q) dLe := z_cmp (p := fun i j => decide (i ≤ j)) lexG_le
theorem z_ge {K : PySem.W.Frag} : Rz K (fun x y H Q => rI0 (fun i j => .bl (decide (j ≤ i))) x y H Q ∨ rCmpT K (lexG (fun x y => decide (x ≥ y)) (fun a b => decide (a ≥ b))) x y H Q) dGe := z_cmp (p := fun i j => decide (j ≤ i)) lexG_ge
mutual
/-- no list, no cell within; dicts are allowed -/
def D.okd : D → Bool
  | .non => true
  | .bl _ => true
  | .int _ => true
  | .str _ => true
  | .tup ds => D.okdL ds
  | .lst _ => false
  | .scr _ => false
  | .dct _ => true
  | .ref _ => false
  | .fn _ _ _ => false
  | .exc _ _ _ => false
def D.okdL : List D → Bool
  | [] => true
  | d :: r => d.okd && D.okdL r
end
mutual
inductive DpD (K : PySem.W.Frag) (H : Hp) : V → PyData → Prop
  | non : DpD K H .non .none
  | bl (b : Bool) : DpD K H (.bl b) (.bool b)
  | int (i : Int) : DpD K H (.int i) (.int i)
  | str (x : Str) : DpD K H (.str x) (.str x)
  | tup {a : Addr} {xs : List V} {ds : List PyData} : SqT K H a xs → DpDL K H xs ds → DpD K H (.ref a) (.tuple ds)
  | dct {a : Addr} {kvs : List (Key × Key)} : H a = some (.dK (kvs.map fun p => (p.1, kV p.2))) → DpD K H (.ref a) (.dict (kvs.map fun p => (kPy p.1, kPy p.2)))
inductive DpDL (K : PySem.W.Frag) (H : Hp) : List V → List PyData → Prop
  | nil : DpDL K H [] []
  | cons {v : V} {vs : List V} {d : PyData} {ds : List PyData} : DpD K H v d → DpDL K H vs ds → DpDL K H (v :: vs) (d :: ds)
end
theorem key_reads {h : Heap} {k : Key} {v : Value} (r : RelV (kV k) v) : Reads h v (kPy k) [] := by
  cases k with
  | inl i => obtain ⟨t, rfl⟩ := r; exact .int i t
  | inr x => obtain ⟨t, rfl⟩ := r; exact .str x t
theorem pairs_read {h : Heap} : ∀ (kvs : List (Key × Key)) (vs : List (Key × Value)), KV (kvs.map fun p => (p.1, kV p.2)) vs → PyProof.V.PairsRead h kPy vs (kvs.map fun p => (kPy p.1, kPy p.2)) []
  | [], vs, r => by rw [List.map_nil] at r; cases r; exact .nil
  | p :: kvs, vs, r => by
    rw [List.map_cons] at r
    cases r with
    | @cons a b as bs h1 t =>
      obtain ⟨b1, b2⟩ := b
      obtain ⟨e1, e2⟩ := h1
      subst e1
      exact .cons (as := []) (key_reads e2) (pairs_read kvs bs t)
section
variable {X : Cx} {pins : List (Addr × Obj)} {σ : L2.St} {H : Hp} {s : Shared}
mutual
theorem DpD.reads (I : Inv X pins σ H s) : ∀ {v : V} {d : PyData}, DpD X.K H v d → ∀ u : Value, RelV v u → ∃ as, Reads s.heap u d as ∧ sysModules ∉ as
  | _, _, .non, u, r => by cases r; exact ⟨_, .none, by simp⟩
  | _, _, .bl b, u, r => by cases r; exact ⟨_, .bool b, by simp⟩
  | _, _, .int i, u, r => by obtain ⟨t, rfl⟩ := r; exact ⟨_, .int i t, by simp⟩
  | _, _, .str x, u, r => by obtain ⟨t, rfl⟩ := r; exact ⟨_, .str x t, by simp⟩
  | _, _, .tup hs ha, u, r => by
    cases r
    obtain ⟨its, rv, ⟨o, ho, hc, n, hd⟩, _⟩ := I.tuple hs
    obtain ⟨as, hr, hn⟩ := DpDL.reads I ha its rv
    exact ⟨_, Reads.tuple ho hc hd hr, hn⟩
  | _, _, .dct e, u, r => by
    cases r
    obtain ⟨z, hs, vs, rk, hd⟩ := dk_of I.hok e
    refine ⟨_, PyProof.V.reads_dictOf (enc := kPy) (fun k key hk => key_reads (keyIs_rel hk)) hd (pairs_read _ vs rk), ?_⟩
    have hs := beq_eq_false_iff_ne.mp hs
    simp only [List.mem_singleton]
    exact fun z => hs z.symm
theorem DpDL.reads (I : Inv X pins σ H s) : ∀ {vs : List V} {ds : List PyData}, DpDL X.K H vs ds → ∀ us : List Value, Vals vs us → ∃ as, ReadsAll s.heap us ds as ∧ sysModules ∉ as
  | _, _, .nil, us, r => by cases r; exact ⟨_, .nil, by simp⟩
  | _, _, .cons h1 h2, us, r => by
    cases r with
    | cons r1 r2 =>
      obtain ⟨as, q1, n1⟩ := DpD.reads I h1 _ r1
      obtain ⟨bs, q2, n2⟩ := DpDL.reads I h2 _ r2
      exact ⟨_, .cons q1 q2, fun z => (List.mem_append.mp z).elim n1 n2⟩
end
end
section
variable {K : PySem.W.Frag} {io : List Addr} {F H : Hp}
mutual
theorem den_dpd (hs : ∀ a o, F a = some o → H a = some o) : ∀ {v : V} {d : D}, Den K io F v d → d.okd = true → DpD K H v d.py
  | _, _, .non, _ => by simp only [D.py]; exact .non
  | _, _, .bl b, _ => by simp only [D.py]; exact .bl b
  | _, _, .int i, _ => by simp only [D.py]; exact .int i
  | _, _, .str x, _ => by simp only [D.py]; exact .str x
  | _, _, .tup s r _, h => by simp only [D.py]; exact .tup (SqT_mono hs s.t) (den_dpdL hs r (by simpa only [D.okd] using h))
  | _, _, .dct e, _ => by simp only [D.py]; exact .dct (hs _ _ e)
  | _, _, .lst _ _ _, h => by simp [D.okd] at h
  | _, _, .scr _ _ _, h => by simp [D.okd] at h
  | _, _, .ref _, h => by simp [D.okd] at h
  | _, _, .fn _ _, h => by simp [D.okd] at h
theorem den_dpdL (hs : ∀ a o, F a = some o → H a = some o) : ∀ {vs : List V} {ds : List D}, DenL K io F vs ds → D.okdL ds = true → DpDL K H vs (D.pyL ds)
  | _, _, .nil, _ => .nil
  | _, _, .cons a b, h => by
    simp only [D.okdL, Bool.and_eq_true] at h
    exact .cons (den_dpd hs a h.1) (den_dpdL hs b h.2)
end
theorem rd_dpd {st : Sto} (R : RelH K H io F st) {v : V} {d : D} (n : Den K io F v d) (h : (rd st d).okd = true) : DpD K H v (rd st d).py := by
  have e : rd st d = d := by
    refine rd_not (fun ds e => ?_) fun n e => ?_ <;> (rw [e] at h; simp [D.okd] at h)
  rw [e] at h ⊢
  exact den_dpd R.sub n h
end
def rRepr (K : PySem.W.Frag) : List V → Hp → VK → Prop := fun xs H Q => ∃ x d, xs = [x] ∧ ((Dp K H x d ∧ d.canLay0 = true) ∨ DpD K H x d) ∧ d.showable = true ∧ d.depth ≤ 60 ∧ d.shown.length ≤ sizeLine ∧ Q (.str d.shown) H
mutual
/-- all numbers below 10 ^ 12 -/
def D.sml : D → Bool
  | .non => true
  | .bl _ => true
  | .int i => decide (i.natAbs < 10 ^ 12)
  | .str s => PyData.leavesShort 13 (.str s)
  | .tup ds => D.smlL ds
  | .lst ds => D.smlL ds
  | .scr ds => D.smlL ds
  | .dct kvs => (PyData.dict (kvs.map fun p => (kPy p.1, kPy p.2))).leavesShort 13 && (PyData.dict (kvs.map fun p => (kPy p.1, kPy p.2))).showable
  | .ref _ => false
  | .fn _ _ _ => false
  | .exc _ _ _ => false
def D.smlL : List D → Bool
  | [] => true
  | d :: r => d.sml && D.smlL r
end
mutual
/-- how many things -/
def D.blk : D → Nat
  | .str s => s.cps.size
  | .tup ds => D.blkL ds
  | .lst ds => D.blkL ds
  | .scr ds => D.blkL ds
  | .non => 0
  | .bl _ => 0
  | .int _ => 0
  | .dct kvs => (PyData.dict (kvs.map fun p => (kPy p.1, kPy p.2))).bulk
  | .ref _ => 0
  | .fn _ _ _ => 0
  | .exc _ _ _ => 0
def D.blkL : List D → Nat
  | [] => 0
  | d :: r => d.blk + 1 + D.blkL r
end
mutual
theorem py_blk : ∀ d : D, d.py.bulk = d.blk
  | .non => rfl
  | .bl _ => rfl
  | .int _ => rfl
  | .str _ => rfl
  | .dct _ => rfl
  | .ref _ => rfl
  | .fn _ _ _ => rfl
  | .exc _ _ _ => rfl
  | .tup ds => by simp only [D.py, PyData.bulk, D.blk]; rw [pyL_blk ds]
  | .lst ds => by simp only [D.py, PyData.bulk, D.blk]; rw [pyL_blk ds]
  | .scr ds => by simp only [D.py, PyData.bulk, D.blk]; rw [pyL_blk ds]
theorem pyL_blk : ∀ ds : List D, PyData.bulkAll (D.pyL ds) = D.blkL ds
  | [] => rfl
  | d :: r => by simp only [D.pyL, PyData.bulkAll, D.blkL]; rw [py_blk d, pyL_blk r]
end
mutual
theorem py_short : ∀ d : D, d.sml = true → d.py.leavesShort 13 = true ∧ d.py.showable = true
  | .non, _ => ⟨rfl, rfl⟩
  | .bl _, _ => ⟨rfl, rfl⟩
  | .int i, h => by
    have h' : i.natAbs < 10 ^ 12 := by simpa [D.sml] using h
    refine ⟨?_, ?_⟩
    · simp only [D.py, PyData.leavesShort, decide_eq_true_eq]
      exact PyData.shown_int_le h'
    · simp only [D.py, PyData.showable, decide_eq_true_eq]
      have : i.natAbs.log2 ≤ 40 := by
        by_cases h0 : i.natAbs = 0
        · rw [h0]; decide
        · have : i.natAbs.log2 < 41 := (Nat.log2_lt h0).mpr (by omega)
          omega
      omega
  | .str s, h => ⟨by simpa [D.py, D.sml] using h, rfl⟩
  | .tup ds, h => by simp only [D.py, PyData.leavesShort, PyData.showable]; exact pyL_short ds (by simpa only [D.sml] using h)
  | .lst ds, h => by simp only [D.py, PyData.leavesShort, PyData.showable]; exact pyL_short ds (by simpa only [D.sml] using h)
  | .scr ds, h => by simp only [D.py, PyData.leavesShort, PyData.showable]; exact pyL_short ds (by simpa only [D.sml] using h)
  | .dct kvs, h => by
    simp only [D.sml, Bool.and_eq_true] at h
    exact h
  | .ref _, h => by simp [D.sml] at h
theorem pyL_short : ∀ ds : List D, D.smlL ds = true → PyData.leavesShortAll 13 (D.pyL ds) = true ∧ PyData.showableAll (D.pyL ds) = true
  | [], _ => ⟨rfl, rfl⟩
  | d :: r, h => by
    simp only [D.smlL, Bool.and_eq_true] at h
    have h1 := py_short d h.1
    have h2 := pyL_short r h.2
    simp only [D.pyL, PyData.leavesShortAll, PyData.showableAll, Bool.and_eq_true]
    exact ⟨⟨h1.1, h2.1⟩, h1.2, h2.2⟩
end
/-- may be shown -/
structure D.Fit (d : D) : Prop where
  ok : d.ok = true ∨ d.okd = true
  can : d.py.showable = true
  len : d.py.shown.length ≤ sizeLine
  dep : d.dep ≤ 60
theorem fit_mk' {d : D} (ok : d.ok = true ∨ d.okd = true) (sml : d.sml = true) (blk : d.blk ≤ 1000000) (dep : d.dep ≤ 60) : d.Fit := by
  have hs := py_short _ sml
  refine ⟨ok, hs.2, ?_, dep⟩
  refine PyData.shown_fits_bulk (B := 13) (by decide) (by decide) hs.1 ?_
  rw [py_blk]
  omega
theorem fit_mk {d : D} (ok : d.ok = true) (sml : d.sml = true) (blk : d.blk ≤ 1000000) (dep : d.dep ≤ 60) : d.Fit := fit_mk' (.inl ok) sml blk dep
def D.rep (d : D) : Str := d.py.shown
def bRepr : RLD := fun ds st Q => ∃ d, ds = [d] ∧ (rd st d).Fit ∧ Q (.str (rd st d).rep) st
theorem z_repr {K : PySem.W.Frag} : RzL K (rRepr K) bRepr where
  mo := fun ds s Q Q' h ⟨d, e, f, q⟩ => ⟨d, e, f, h _ _ q⟩
  on := fun {H io F st vs ds Q} R nl ⟨d, e, f, q⟩ => by
    subst e
    obtain ⟨v, rfl, n⟩ := nl.one
    exact ⟨v, _, rfl, f.ok.imp (fun ok => ⟨rd_dp R n ok, py_ok _ ok⟩) (fun ok => rd_dpd R n ok), f.can, by rw [py_dep]; exact f.dep, f.len, kE_now R (.str _) q⟩
theorem tup_mul_same (l : Addr) (items : Array Value) (n : Nat) (dd : Option Addr) (sl : Array (Option Value)) (x : Int) (u : Tok) (c0 : (decide (x < -(2 ^ 63)) || decide (x ≥ 2 ^ 63)) = false) (c1 : (items.isEmpty || x == 1) = true) :
    Meets (Builtin.«tuple.__mul__» ⟨[.ref l, .int x u], []⟩) (fun _ R s => s.heap.get? l = some { cls := .type "tuple", dict := dd, data := .seq items n, slots := sl } ∧ R (.ok (.ret (Value.ref l))) s) :=
  .of_wp fun prog w A R s h => by
    obtain ⟨hp, g, d, tk, os⟩ := s
    obtain ⟨hl, h⟩ := h
    have f1 := AutoSeq1.idx_int
    have hT : (⟨hp, g, d, tk, os⟩ : Shared).TypeIs (.ref l) "tuple" := ⟨_, hl, rfl⟩
    wp_walk using wpAny_loadPart' hl
    repeat (first
      | (refine wpAny_ite_false (decide_eq_false (by rw [c0]; exact Bool.false_ne_true)) ?_; wp_walk using wpAny_loadPart' hl)
      | (refine wpAny_ite_true (decide_eq_true c1) ?_; wp_walk using wpAny_loadPart' hl))
    exact ⟨_, rfl, h⟩
theorem tup_mul_none (l : Addr) (items : Array Value) (n : Nat) (dd : Option Addr) (sl : Array (Option Value)) (x : Int) (u : Tok) (c0 : (decide (x < -(2 ^ 63)) || decide (x ≥ 2 ^ 63)) = false) (c1 : (items.isEmpty || x == 1) = false) (c2 : (decide (x ≤ 0) || items.isEmpty) = true) :
    Meets (Builtin.«tuple.__mul__» ⟨[.ref l, .int x u], []⟩) (fun _ R s => s.heap.get? l = some { cls := .type "tuple", dict := dd, data := .seq items n, slots := sl } ∧
      R (.ok (.ret (Value.ref s.heap.objs.size))) { s with heap := s.heap.push { cls := Value.type "tuple", data := Data.seq #[] }, toks := s.toks }) :=
  .of_wp fun prog w A R s h => by
    obtain ⟨hp, g, d, tk, os⟩ := s
    obtain ⟨hl, h⟩ := h
    have f1 := AutoSeq1.idx_int
    wp_walk using wpAny_loadPart' hl
    repeat (first
      | (refine wpAny_ite_false (decide_eq_false (by rw [c0]; exact Bool.false_ne_true)) ?_; wp_walk using wpAny_loadPart' hl)
      | (refine wpAny_ite_false (decide_eq_false (by rw [c1]; exact Bool.false_ne_true)) ?_; wp_walk using wpAny_loadPart' hl)
      | (refine wpAny_ite_true (decide_eq_true c2) ?_; wp_walk using wpAny_loadPart' hl))
    exact ⟨_, rfl, h⟩
def rRep1 (K : PySem.W.Frag) : R2 := fun x y H Q => ∃ l k xs, x = .ref l ∧ y = .int k ∧ SqT K H l xs ∧ -(2 ^ 63) ≤ k ∧ k < 2 ^ 63 ∧ (((xs = [] ∨ k = 1) ∧ Q (.ref l) H) ∨ (xs ≠ [] ∧ k ≤ 0 ∧ XtK H Q []) ∨ (xs ≠ [] ∧ 2 ≤ k ∧ k ≤ 1000 ∧ xs.length ≤ 1000 ∧ XtK H Q (List.replicate k.toNat xs).flatten))
theorem op_rep1 {X : Cx} : OpR X (binaryOp .Mult) (rRep1 X.K) := by
  intro pins s σ H x y v u Q I rx ry h
  obtain ⟨l, k, xs, rfl, rfl, hT, k0, k1, h⟩ := h
  cases rx
  obtain ⟨t, rfl⟩ := ry
  obtain ⟨its, r, ⟨⟨cls, dd, data, sl⟩, ho, hc, n, hd⟩, hs⟩ := I.tuple hT
  simp only at hc hd
  subst hc hd
  have c0 : (decide (k < -(2 ^ 63)) || decide (k ≥ 2 ^ 63)) = false := by
    rw [decide_eq_false (by omega), decide_eq_false (by omega)] <;> rfl
  have emp : its.toArray.isEmpty = decide (xs = []) := by
    cases r with
    | nil => rfl
    | cons _ _ => rfl
  have road : ∀ {Q₁ : Value → Shared → Prop}, wpAny (model X.prog X.w) X.A (call (.builtin "tuple.__mul__") [.ref l, .int k t]) Q₁ X.xe s → wpAny (model X.prog X.w) X.A (binaryOp .Mult (.ref l) (.int k t)) Q₁ X.xe s := fun {Q₁} hq =>
    wpAny_binaryOp_repeat_ref (T := "tuple") (U := "int") (by decide) ⟨_, ho, rfl⟩ (fun s' => typeIs_int s' k t) noFill_tuple_mul F.fills_int_mul F.slot_int_rmul repeat_tuple F.slot_int_index.lookup
      (call_meets F.slot_int_rmul (typeIs_int s k t) F.entry_int_rmul (F.args_int_rmul_2 _ _) (int_rmul_tuple k t l its.toArray n dd sl) ⟨ho, rfl, ⟨_, ho, rfl⟩, hq⟩)
  rcases h with ⟨hk, q⟩ | ⟨hne, hk, q⟩ | ⟨hne, hk, hk2, hx, q⟩
  · refine road (call_meets F.slot_tuple_mul ⟨_, ho, rfl⟩ F.entry_tuple_mul (F.args_tuple_mul_2 _ _) (tup_mul_same l its.toArray n dd sl k t c0 ?_) ⟨ho, .ref l, H, I, rfl, q⟩)
    rw [emp]
    rcases hk with e | e
    · rw [decide_eq_true e]; rfl
    · subst e; exact Bool.or_true _
  · have e1 : (its.toArray.isEmpty || k == 1) = false := by
      rw [emp, decide_eq_false hne, Bool.false_or]
      exact beq_eq_false_iff_ne.mpr (by omega)
    refine road (call_meets F.slot_tuple_mul ⟨_, ho, rfl⟩ F.entry_tuple_mul (F.args_tuple_mul_2 _ _) (tup_mul_none l its.toArray n dd sl k t c0 e1 ?_) ⟨ho, ?_⟩)
    · rw [decide_eq_true hk]; rfl
    · exact new_tup (its := []) I (Nat.zero_le _) .nil q
  · have le := r.length
    have e0 : its.toArray.isEmpty = false := by rw [emp]; exact decide_eq_false hne
    have e1 : (its.toArray.isEmpty || k == 1) = false := by rw [e0, Bool.false_or]; exact beq_eq_false_iff_ne.mpr (by omega)
    have e2 : (decide (k ≤ 0) || its.toArray.isEmpty) = false := by rw [e0, Bool.or_false]; exact decide_eq_false (by omega)
    have mm : k.toNat * xs.length ≤ 1000 * 1000 := Nat.mul_le_mul (by omega) hx
    have sz : its.toArray.size = xs.length := by rw [List.size_toArray]; exact le.symm
    have ml : ((its.toArray.size : Nat) : Int) * k ≤ 1000000 := by
      rw [sz, show k = ((k.toNat : Nat) : Int) by omega, ← Int.natCast_mul, Nat.mul_comm]
      omega
    have fl : (List.replicate k.toNat its).flatten.length ≤ sizeLine := by rw [PyProof.Rows.lm_len_rep_flat, ← le, sizeLine_eq]; omega
    refine road (call_meets F.slot_tuple_mul ⟨_, ho, rfl⟩ F.entry_tuple_mul (F.args_tuple_mul_2 _ _) (tuple_mulW l its.toArray n dd sl k t c0 e1 e2 (by omega) (by unfold Builtin.Tuple.tupleTooMany; rw [sizeLine_eq]; exact decide_eq_false (by omega)) (by rw [size_rep, List.size_toArray]; exact fl)) ⟨ho, ?_⟩)
    rw [size_rep]
    exact new_tup I (by rw [PyProof.Rows.lm_len_rep_flat, sizeLine_eq]; omega) (r.rep k.toNat) q
def dMul : R2D := fun a b st Q => match rd st a, b with
  | .int i, .int j => CMul i j ∧ Q (.int (i * j)) st
  | .lst x, .int k => -(2 ^ 63) ≤ k ∧ k < 2 ^ 63 ∧ x.length * k.toNat ≤ sizeLine ∧ Q (.lst (List.replicate k.toNat x).flatten) st
  | .tup x, .int k => -(2 ^ 63) ≤ k ∧ k ≤ 1000 ∧ x.length ≤ 1000 ∧ Q (.tup (List.replicate k.toNat x).flatten) st
  | _, _ => False
def rMulD (K : PySem.W.Frag) : R2 := fun x y H Q => rI CMul (fun i j => .int (i * j)) x y H Q ∨ rRep x y H Q ∨ rRep1 K x y H Q
theorem op_mulD {X : Cx} : OpR X (binaryOp .Mult) (rMulD X.K) := op_mul.or (op_rep.or op_rep1)
theorem flat_len {α : Type} (x : List α) : ∀ n : Nat, (List.replicate n x).flatten.length = x.length * n
  | 0 => by simp
  | n + 1 => by rw [List.replicate_succ, List.flatten_cons, List.length_append, flat_len x n, Nat.mul_succ, Nat.add_comm]
theorem flat_nil {α : Type} : ∀ n : Nat, (List.replicate n ([] : List α)).flatten = []
  | 0 => rfl
  | n + 1 => by rw [List.replicate_succ, List.flatten_cons, flat_nil n]; rfl
theorem z_mul {X : Cx} : Rz X.K (rMulD X.K) dMul where
  mo := fun a b s Q Q' h q => by
    unfold dMul at q ⊢
    split at q
    · exact ⟨q.1, h _ _ q.2⟩
    · exact ⟨q.1, q.2.1, q.2.2.1, h _ _ q.2.2.2⟩
    · exact ⟨q.1, q.2.1, q.2.2.1, h _ _ q.2.2.2⟩
    · exact q
  on := fun {H io F st x y a b Q} R n1 n2 q => by
    unfold dMul at q
    split at q
    · rename_i i j e1
      cases rd_int e1
      cases n1
      cases n2
      exact .inl ⟨_, _, rfl, rfl, q.1, kE_now R (.int _) q.2⟩
    · rename_i xs k e1
      obtain ⟨p, vs, rfl, h1, h2, h3⟩ := rd_lst R n1 e1
      cases n2
      exact .inr (.inl ⟨p, k, vs, rfl, rfl, h1, q.1, q.2.1, by rw [h2.length]; exact q.2.2.1, lay_lst R (h2.flat _) (by rw [flat_len]; exact q.2.2.1) q.2.2.2⟩)
    · rename_i xs k e1
      cases rd_tup e1
      cases n2
      cases n1 with
      | @tup p vs _ s r z =>
        obtain ⟨q1, q2, q3, q⟩ := q
        have hz : (List.replicate k.toNat xs).flatten.length ≤ sizeLine := by
          rw [flat_len, sizeLine_eq]
          have : xs.length * k.toNat ≤ 1000 * 1000 := Nat.mul_le_mul q3 (by omega)
          omega
        by_cases hx : xs = []
        · subst hx
          cases r
          rw [flat_nil] at q
          exact .inr (.inr ⟨p, k, [], rfl, rfl, SqT_mono R.sub s.t, q1, by omega, .inl ⟨.inl rfl, kE_now R (.tup s .nil z) q⟩⟩)
        · have hv : vs ≠ [] := fun e => hx (by subst e; cases r; rfl)
          by_cases h1 : k = 1
          · subst h1
            have e : (List.replicate (1 : Int).toNat xs).flatten = xs := by simp
            rw [e] at q
            exact .inr (.inr ⟨p, 1, vs, rfl, rfl, SqT_mono R.sub s.t, by omega, by omega, .inl ⟨.inr rfl, kE_now R (.tup s r z) q⟩⟩)
          · by_cases h0 : k ≤ 0
            · have e : k.toNat = 0 := by omega
              rw [e] at q
              exact .inr (.inr ⟨p, k, vs, rfl, rfl, SqT_mono R.sub s.t, by omega, by omega, .inr (.inl ⟨hv, h0, lay_tup R .nil (Nat.zero_le _) q⟩)⟩)
            · exact .inr (.inr ⟨p, k, vs, rfl, rfl, SqT_mono R.sub s.t, by omega, by omega, .inr (.inr ⟨hv, by omega, q2, by rw [r.length]; exact q3, lay_tup R (r.flat _) hz q⟩)⟩)
    · exact q.elim
end DL
namespace DL
open PySem PySem.Spec PyProof.Rows L2
variable [Bs]
theorem bb_len : bootBuiltins "len" = some (.builtin "len") := by decide +kernel
theorem bb_abs : bootBuiltins "abs" = some (.builtin "abs") := by decide +kernel
theorem bb_all : bootBuiltins "all" = some (.builtin "all") := by decide +kernel
theorem bb_repr : bootBuiltins "repr" = some (.builtin "repr") := by decide +kernel
theorem bb_min : bootBuiltins "min" = some (.builtin "min") := by decide +kernel
theorem bb_max : bootBuiltins "max" = some (.builtin "max") := by decide +kernel
theorem bb_int : bootBuiltins "int" = some (.type "int") := by decide +kernel
theorem bb_bool : bootBuiltins "bool" = some (.type "bool") := by decide +kernel
theorem bb_str : bootBuiltins "str" = some (.type "str") := by decide +kernel
theorem bb_tuple : bootBuiltins "tuple" = some (.type "tuple") := by decide +kernel
theorem bb_list : bootBuiltins "list" = some (.type "list") := by decide +kernel
/-- a law's def, at the end -/
theorem law_end {K : PySem.W.Frag} {S : Spec} (hn : S.n = 1) (g : List Int → S.G) (ha : ∀ ns, S.args (g ns) = [.scr (ns.map .int)]) (hpre : ∀ ns : List Int, ns.length ≤ 63 → S.pre (g ns) []) (hpost : ∀ x st d st', S.post x st d st' → d = .bl true) (H : Hp) (a : Addr) (ns : List Int) (hl : ns.length ≤ 63) (hT : ∀ p ∈ tabCs K, H p.2 = some (.tbl #[])) (hS : SqL K H a (ns.map V.int)) :
    spOf K S [.ref a] H (fun v _ => v = .bl true) fun _ _ _ => False := by
  have den : ∀ ns : List Int, DenL K [] H (ns.map V.int) (ns.map D.int) := fun ns => by
    induction ns with
    | nil => exact .nil
    | cons n r ih => exact .cons (.int n) ih
  have hz : (ns.map D.int).length ≤ sizeLine := by rw [List.length_map, sizeLine_eq]; omega
  let F : Hp := fun b => match H b with
    | some (.tbl _) => none
    | o => o
  have fS : ∀ b o, F b = some o → H b = some o := fun b o e => by
    have e : (match H b with | some (.tbl _) => none | o => o) = some o := e
    split at e
    · cases e
    · exact e
  have fN : ∀ b o, H b = some o → (∀ ps, o ≠ .tbl ps) → F b = some o := fun b o e n => by
    show (match H b with | some (.tbl _) => none | o => o) = some o
    rw [e]
    cases o <;> first | rfl | exact absurd rfl (n _)
  have sq : SqL K F a (ns.map V.int) := by
    rcases hS with (h | ⟨o, h⟩) | h
    · exact .inl (.inl (fN _ _ h fun _ z => nomatch z))
    · exact .inl (.inr ⟨o, fN _ _ h fun _ z => nomatch z⟩)
    · exact .inr h
  have ht : ∀ p ∈ tabsOf K, F p.1 = none ∧ p.1 ∉ ([] : List Addr) ∧ ∃ ps, H p.1 = some (.tbl ps) ∧ TriplesOk ps.toList ∧ ∀ (pos : Pos) (cv : Value), codeAmong pos ps.toList = some cv → ∃ c, cv = .ref c ∧ F c = some (LamX.CodeO c p.2) := fun p hp => by
    obtain ⟨c, hc⟩ := tabs_cs hp
    have hH := hT _ hc
    refine ⟨?_, by simp, #[], hH, True.intro, fun pos cv h => ?_⟩
    · show (match H p.1 with | some (.tbl _) => none | o => o) = none
      have hH : H p.1 = some (.tbl #[]) := hH
      rw [hH]
    · have : codeAmong pos [] = some cv := h
      simp [codeAmong] at this
  have den : ∀ ns : List Int, DenL K [] F (ns.map V.int) (ns.map D.int) := fun ns => by
    induction ns with
    | nil => exact .nil
    | cons n r ih => exact .cons (.int n) ih
  refine ⟨g ns, [], F, [], by rw [ha, hn]; rfl, ⟨fS, rfl, List.nodup_nil, (fun _ h => nomatch h), (fun n c e h1 h2 => by simp at h1), ht⟩, by rw [ha]; exact .cons (.scr sq (den ns) hz) .nil, hpre ns hl, fun d st' h => ?_⟩
  · have e := hpost _ _ _ _ h
    subst e
    intro v io' F' H' s r n
    cases n
    rfl
end DL
namespace DL
open PySem PySem.Spec PyProof.Rows L2
variable [Bs]
theorem compL_inv {G : Sto → Prop} {t : Tg} {c : DT} {w : DE} {env : En} {Q : LK} {ds : List D} (I : Nat → Sto → List D → Prop)
    (step : ∀ i st acc d, I i st acc → ds[i]? = some d → ∀ R : Sto → List D → Prop, (∀ s a, I (i + 1) s a → R s a) → G st ∧ t.dg d env st fun e s => c e s fun b s1 => if b = true then w e s1 fun x s2 => R s2 (acc ++ [x]) else R s1 acc)
    (fin : ∀ st acc, I ds.length st acc → G st ∧ Q acc st) (st : Sto) (acc : List D) (h : I 0 st acc) : wCompL G t c w env ds st acc Q := by
  have key : ∀ (n i : Nat) (st : Sto) (acc : List D), i + n = ds.length → I i st acc → wCompL G t c w env (ds.drop i) st acc Q := fun n => by
    induction n with
    | zero =>
      intro i st acc e hI
      have e' : i = ds.length := by omega
      subst e'
      rw [List.drop_length]
      exact fin st acc hI
    | succ n ih =>
      intro i st acc e hI
      have hlt : i < ds.length := by omega
      rw [List.drop_eq_getElem_cons hlt]
      exact step i st acc _ hI (List.getElem?_eq_getElem hlt) (fun s a => wCompL G t c w env (ds.drop (i + 1)) s a Q) fun s a h => ih (i + 1) s a (by omega) h
  have := key ds.length 0 st acc (by omega) h
  rwa [List.drop_zero] at this
theorem forL_inv {G : Sto → Prop} {g : DG} {b : DS} {A : DEnds} {ds : List D} (I : Nat → En → Sto → Prop)
    (step : ∀ i env st d, I i env st → ds[i]? = some d → ∀ R : En → Sto → Prop, (∀ e s, I (i + 1) e s → R e s) → G st ∧ g d env st fun e s => b { nx := R, rt := A.rt, bk := A.nx, ct := R } e s)
    (fin : ∀ env st, I ds.length env st → G st ∧ A.nx env st) (env : En) (st : Sto) (h : I 0 env st) : wForL G g b A ds env st := by
  have key : ∀ (n i : Nat) (env : En) (st : Sto), i + n = ds.length → I i env st → wForL G g b A (ds.drop i) env st := fun n => by
    induction n with
    | zero =>
      intro i env st e hI
      have e' : i = ds.length := by omega
      subst e'
      rw [List.drop_length]
      exact fin env st hI
    | succ n ih =>
      intro i env st e hI
      have hlt : i < ds.length := by omega
      rw [List.drop_eq_getElem_cons hlt]
      exact step i env st _ hI (List.getElem?_eq_getElem hlt) (wForL G g b A (ds.drop (i + 1))) fun e s h => ih (i + 1) e s (by omega) h
  have := key ds.length 0 env st (by omega) h
  rwa [List.drop_zero] at this
/-- a comprehension that leaves the store, over encoded items -/
theorem compL_map {α : Type} {G : Sto → Prop} {t : Tg} {c : DT} {w : DE} {env : En} {Q : LK} {st : Sto} (enc : α → D) (f : α → Option D) (hG : G st) :
    ∀ (xs : List α) (acc : List D), (∀ x ∈ xs, ∀ R : Option D → Sto → Prop, R (f x) st → t.dg (enc x) env st fun e s => c e s fun b s1 => if b = true then w e s1 fun y s2 => R (some y) s2 else R none s1) →
    Q (acc ++ xs.filterMap f) st → wCompL G t c w env (xs.map enc) st acc Q
  | [], acc, _, q => ⟨hG, by simpa using q⟩
  | x :: xs, acc, step, q => by
    refine ⟨hG, step x List.mem_cons_self (fun o s => match o with | some y => wCompL G t c w env (xs.map enc) s (acc ++ [y]) Q | none => wCompL G t c w env (xs.map enc) s acc Q) ?_⟩
    cases e : f x with
    | some y =>
      refine compL_map enc f hG xs _ (fun z hz => step z (List.mem_cons_of_mem _ hz)) ?_
      rw [List.filterMap_cons, e] at q
      rwa [List.append_assoc]
    | none =>
      refine compL_map enc f hG xs _ (fun z hz => step z (List.mem_cons_of_mem _ hz)) ?_
      rw [List.filterMap_cons, e] at q
      exact q
theorem rangeD_at {lo : Int} {n i : Nat} {d : D} (h : (rangeD lo n)[i]? = some d) : i < n ∧ d = .int (lo + i) := by
  unfold rangeD at h
  rw [List.getElem?_map] at h
  cases e : (List.range n)[i]? with
  | none => rw [e] at h; cases h
  | some j =>
    rw [e] at h
    cases h
    obtain ⟨h1, h2⟩ := List.getElem?_eq_some_iff.mp e
    rw [List.length_range] at h1
    rw [List.getElem_range] at h2
    subst h2
    exact ⟨h1, rfl⟩
@[simp] theorem rangeD_len (lo : Int) (n : Nat) : (rangeD lo n).length = n := by simp [rangeD]
def rangeI (lo : Int) (n : Nat) : List Int := (List.range n).map fun (i : Nat) => lo + i
theorem rangeD_eq (lo : Int) (n : Nat) : rangeD lo n = (rangeI lo n).map D.int := by simp [rangeD, rangeI]
theorem mem_rangeI {lo x : Int} {n : Nat} : x ∈ rangeI lo n ↔ lo ≤ x ∧ x < lo + n := by
  unfold rangeI
  rw [List.mem_map]
  constructor
  · rintro ⟨i, hi, rfl⟩
    rw [List.mem_range] at hi
    omega
  · rintro ⟨h1, h2⟩
    exact ⟨(x - lo).toNat, List.mem_range.mpr (by omega), by omega⟩
@[simp] theorem rangeI_len (lo : Int) (n : Nat) : (rangeI lo n).length = n := by simp [rangeI]
@[simp] theorem rd_int' (st : Sto) (i : Int) : rd st (.int i) = .int i := rfl
@[simp] theorem rd_bl' (st : Sto) (i : Bool) : rd st (.bl i) = .bl i := rfl
@[simp] theorem rd_str' (st : Sto) (i : Str) : rd st (.str i) = .str i := rfl
@[simp] theorem rd_tup' (st : Sto) (i : List D) : rd st (.tup i) = .tup i := rfl
@[simp] theorem rd_lst' (st : Sto) (i : List D) : rd st (.lst i) = .lst i := rfl
@[simp] theorem rd_scr' (st : Sto) (i : List D) : rd st (.scr i) = .scr i := rfl
@[simp] theorem rd_non' (st : Sto) : rd st .non = .non := rfl
theorem rd_ref' {st : Sto} {n : Nat} {ds : List D} (h : st[n]? = some (.lst ds)) : rd st (.ref n) = .lst ds := by
  unfold rd; simp only [h]
theorem atI_of {α : Type} {xs : List α} {i : Int} {x : α} (h0 : 0 ≤ i) (h : xs[i.toNat]? = some x) : atI xs i = some x := by
  have hl := (List.getElem?_eq_some_iff.mp h).1
  unfold atI ixN
  rw [if_pos h0, if_pos (by omega)]
  exact h
theorem atI_map {α β : Type} {f : α → β} {xs : List α} {i : Int} {x : α} (h : atI xs i = some x) : atI (xs.map f) i = some (f x) := by
  unfold atI at h ⊢
  rw [List.length_map]
  cases e : ixN xs.length i with
  | none => rw [e] at h; cases h
  | some j =>
    rw [e] at h
    show (xs.map f)[j]? = _
    rw [List.getElem?_map, show xs[j]? = some x from h]
    rfl
end DL
namespace DL
open PySem PySem.Spec PyProof.Rows L2
variable [Bs]
section
variable {C : Int → Int → Prop} {g : Int → Int → D} {i j : Int} {st : Sto} {Q : DK} {env : En} {a b : D} {ds es : List D}
theorem v_dI : dI C g (.int i) (.int j) st Q = (C i j ∧ Q (g i j) st) := propext ⟨fun ⟨_, _, e1, e2, c, q⟩ => by cases e1; cases e2; exact ⟨c, q⟩, fun ⟨c, q⟩ => ⟨_, _, rfl, rfl, c, q⟩⟩
theorem v_sub : dSub (.int i) (.int j) st Q = Q (.int (i - j)) st := by unfold dSub; rw [v_dI]; simp
theorem v_mod : dMod (.int i) (.int j) st Q = (0 < j ∧ Q (.int (i % j)) st) := v_dI
theorem v_fdiv : dFdiv (.int i) (.int j) st Q = ((0 < j ∧ j < 2 ^ 62) ∧ Q (.int (i / j)) st) := v_dI
theorem v_pow : dPow (.int i) (.int j) st Q = ((0 ≤ j ∧ j ≤ 1000000 ∧ i.natAbs < 2 ^ 64) ∧ Q (.int (i ^ j.toNat)) st) := v_dI
theorem v_iadd : dI T2 (fun i j => .int (i + j)) (.int i) (.int j) st Q = Q (.int (i + j)) st := by rw [v_dI]; simp
theorem v_add : dAdd (.int i) (.int j) st Q = Q (.int (i + j)) st := rfl
theorem v_addT : dAdd (.tup ds) (.tup es) st Q = (ds.length + es.length ≤ sizeLine ∧ Q (.tup (ds ++ es)) st) := rfl
theorem v_addL : dAdd (.lst ds) (.lst es) st Q = (ds.length + es.length ≤ sizeLine ∧ Q (.lst (ds ++ es)) st) := rfl
theorem v_mul : dMul (.int i) (.int j) st Q = (CMul i j ∧ Q (.int (i * j)) st) := rfl
theorem v_lt : dLt (.int i) (.int j) st Q = Q (.bl (decide (i < j))) st := rfl
theorem v_le : dLe (.int i) (.int j) st Q = Q (.bl (decide (i ≤ j))) st := rfl
theorem v_gt : dGt (.int i) (.int j) st Q = Q (.bl (decide (j < i))) st := rfl
theorem v_ge : dGe (.int i) (.int j) st Q = Q (.bl (decide (j ≤ i))) st := rfl
theorem v_eqO {f : Bool → Bool} (h : ∀ x, a ≠ .str x) : dEqB f a b st Q = dEqO f a b st Q := propext ⟨fun q => by rcases q with ⟨x, _, e, _⟩ | q; exact absurd e (h x); exact q, .inr⟩
theorem v_eqs {f : Bool → Bool} {x y : Str} (q : Q (.bl (f (x == y))) st) : dEqB f (.str x) (.str y) st Q := .inl ⟨x, y, rfl, rfl, q⟩
theorem v_eqi {f : Bool → Bool} : dEqB f (.int i) (.int j) st Q = Q (.bl (f (i == j))) st := by
  rw [v_eqO (a := .int i) (fun _ h => nomatch h)]
  unfold dEqO; simp [D.ok, D.dep, D.eqv]
theorem v_ixT : dIx (.tup ds) (.int i) st Q = ∃ d, atI ds i = some d ∧ Q d st := propext ⟨fun ⟨_, e, q⟩ => by cases e; exact q, fun q => ⟨_, rfl, q⟩⟩
theorem v_ixL : dIx (.lst ds) (.int i) st Q = ∃ d, atI ds i = some d ∧ Q d st := propext ⟨fun ⟨_, e, q⟩ => by cases e; exact q, fun q => ⟨_, rfl, q⟩⟩
theorem v_ixS : dIx (.scr ds) (.int i) st Q = ∃ d, atI ds i = some d ∧ Q d st := propext ⟨fun ⟨_, e, q⟩ => by cases e; exact q, fun q => ⟨_, rfl, q⟩⟩
theorem v_var {k : Nat} {d : D} (h : env[k]? = some (some d)) : wVar k env st Q = Q d st := propext ⟨fun ⟨e, h2, q⟩ => by rw [h] at h2; cases h2; exact q, fun q => ⟨_, h, q⟩⟩
theorem v_var0 {d : D} : wVar 0 (some d :: env) st Q = Q d st := v_var rfl
theorem v_varS {k : Nat} {x : Option D} : wVar (k + 1) (x :: env) st Q = wVar k env st Q := propext ⟨fun ⟨e, h2, q⟩ => ⟨e, by simpa using h2, q⟩, fun ⟨e, h2, q⟩ => ⟨e, by simpa using h2, q⟩⟩
theorem v_len {n : Nat} (h : lenD (rd st a) = some n) : bLen [a] st Q = Q (.int (n : Nat)) st := propext ⟨fun ⟨_, _, e, h2, q⟩ => by cases e; rw [h] at h2; cases h2; exact q, fun q => ⟨_, _, rfl, h, q⟩⟩
theorem v_lenT : bLen [.tup ds] st Q = Q (.int ds.length) st := v_len rfl
theorem v_lenL : bLen [.lst ds] st Q = Q (.int ds.length) st := v_len rfl
theorem v_lenS : bLen [.scr ds] st Q = Q (.int ds.length) st := v_len rfl
theorem v_abs : bAbs [.int i] st Q = Q (.int (if i < 0 then -i else i)) st := propext ⟨fun ⟨_, e, q⟩ => by cases e; exact q, fun q => ⟨_, rfl, q⟩⟩
theorem v_min2 : bMin2 [.int i, .int j] st Q = Q (.int (if j < i then j else i)) st := propext ⟨fun ⟨_, _, e, q⟩ => by cases e; exact q, fun q => ⟨_, _, rfl, q⟩⟩
theorem v_max2 : bMax2 [.int i, .int j] st Q = Q (.int (if j > i then j else i)) st := propext ⟨fun ⟨_, _, e, q⟩ => by cases e; exact q, fun q => ⟨_, _, rfl, q⟩⟩
theorem v_intI : bInt [.int i] st Q = Q (.int i) st := propext ⟨fun ⟨_, e, q⟩ => by cases e; exact q, fun q => ⟨_, rfl, q⟩⟩
theorem v_intB {c : Bool} : bInt [.bl c] st Q = Q (.int (if c then 1 else 0)) st := propext ⟨fun ⟨_, e, q⟩ => by cases e; exact q, fun q => ⟨_, rfl, q⟩⟩
theorem v_tupL (h : rd st a = .lst ds) : bTuple [a] st Q = Q (.tup ds) st := propext ⟨fun ⟨_, _, e, h2, q⟩ => by cases e; rw [h] at h2; rcases h2 with h2 | h2 <;> cases h2; exact q, fun q => ⟨_, _, rfl, .inl h, q⟩⟩
theorem v_tupl : bTuple [.lst ds] st Q = Q (.tup ds) st := v_tupL rfl
theorem v_tupT : bTuple [.tup ds] st Q = Q (.tup ds) st := propext ⟨fun ⟨_, _, e, h2, q⟩ => by cases e; rcases h2 with h2 | h2 <;> cases h2; exact q, fun q => ⟨_, _, rfl, .inr rfl, q⟩⟩
theorem v_all {bs : List Bool} : bAll [.lst (bs.map .bl)] st Q = Q (.bl (bs.all id)) st := propext ⟨fun ⟨_, _, _, e, h2, h3, q⟩ => by cases e; cases h2; rw [bools_map] at h3; cases h3; exact q, fun q => ⟨_, _, _, rfl, rfl, bools_map _, q⟩⟩
theorem v_bl {x : Bool} {P : Bool → Prop} : (∃ b, D.bl x = .bl b ∧ P b) = P x := propext ⟨fun ⟨_, e, q⟩ => by cases e; exact q, fun q => ⟨_, rfl, q⟩⟩
theorem v_in {x : Int} {P : Int → Prop} : (∃ b, D.int x = .int b ∧ P b) = P x := propext ⟨fun ⟨_, e, q⟩ => by cases e; exact q, fun q => ⟨_, rfl, q⟩⟩
theorem v_some {α : Type} {x : α} {P : α → Prop} : (∃ b, some x = some b ∧ P b) = P x := propext ⟨fun ⟨_, e, q⟩ => by cases e; exact q, fun q => ⟨_, rfl, q⟩⟩
theorem v_gTp {n : Nat} {gs : DGs} {Q : En → Sto → Prop} : gTp n gs (.tup ds) env st Q = (ds.length = n ∧ gs ds env st Q) := propext ⟨fun ⟨_, e, q⟩ => by cases e; exact q, fun q => ⟨_, rfl, q⟩⟩
theorem v_gCn {h : DG} {gs : DGs} {d : D} {Q : En → Sto → Prop} : gCn h gs (d :: ds) env st Q = h d env st fun e s => gs ds e s Q := propext ⟨fun ⟨_, _, e, q⟩ => by cases e; exact q, fun q => ⟨_, _, rfl, q⟩⟩
theorem v_gNl {Q : En → Sto → Prop} : gNl [] env st Q = Q env st := propext ⟨fun ⟨_, q⟩ => q, fun q => ⟨rfl, q⟩⟩
theorem v_newT : newL true ds st Q = Q (.ref st.length) (st ++ [.lst ds]) := rfl
theorem v_newF : newL false ds st Q = Q (.lst ds) st := rfl
theorem v_app {n : Nat} {d : D} (h : st[n]? = some (.lst ds)) : mAppend (.ref n) [d] st Q = (ds.length < sizeLine ∧ Q .non (st.set n (.lst (ds ++ [d])))) := propext ⟨fun ⟨_, _, _, e1, e2, e3, q⟩ => by cases e1; cases e2; rw [h] at e3; cases e3; exact q, fun q => ⟨_, _, _, rfl, rfl, h, q⟩⟩
theorem get_last {α : Type} (st : List α) (c : α) : (st ++ [c])[st.length]? = some c := by simp
theorem set_last {α : Type} (st : List α) (c e : α) : (st ++ [c]).set st.length e = st ++ [e] := by
  rw [List.set_append_right _ _ (Nat.le_refl _), Nat.sub_self]; rfl
theorem at0 {α : Type} {x : α} {xs : List α} : atI (x :: xs) 0 = some x := atI_of (by decide) rfl
theorem at1 {α : Type} {x y : α} {xs : List α} : atI (x :: y :: xs) 1 = some y := atI_of (by decide) rfl
theorem at2 {α : Type} {x y z : α} {xs : List α} : atI (x :: y :: z :: xs) 2 = some z := atI_of (by decide) rfl
theorem at3 {α : Type} {x y z u : α} {xs : List α} : atI (x :: y :: z :: u :: xs) 3 = some u := atI_of (by decide) rfl
theorem at4 {α : Type} {x y z u v : α} {xs : List α} : atI (x :: y :: z :: u :: v :: xs) 4 = some v := atI_of (by decide) rfl
end
theorem v_rg1 {a : DE} {env : En} {st : Sto} {R : GK} : iRange1 (wCons a wNil) env st R = a env st fun d s => ∃ j, d = .int j ∧ (-(2 ^ 62) ≤ j ∧ j < 2 ^ 62) ∧ R (rangeD 0 j.toNat) (fun _ => True) s := by
  unfold iRange1 wCons wNil
  congr 1
  funext d s
  exact propext ⟨fun ⟨j, e, h1, h2, q⟩ => by cases e; exact ⟨_, rfl, ⟨h1, h2⟩, q⟩, fun ⟨j, e, h, q⟩ => by cases e; exact ⟨_, rfl, h.1, h.2, q⟩⟩
theorem v_rg2 {a b : DE} {env : En} {st : Sto} {R : GK} : iRange2 (wCons a (wCons b wNil)) env st R = a env st fun d s => b env s fun e s => ∃ i, d = .int i ∧ ∃ j, e = .int j ∧ (-(2 ^ 62) ≤ i ∧ i < 2 ^ 62 ∧ -(2 ^ 62) ≤ j ∧ j < 2 ^ 62) ∧ R (rangeD i (j - i).toNat) (fun _ => True) s := by
  unfold iRange2 wCons wNil
  congr 1
  funext d s
  congr 1
  funext e s
  exact propext ⟨fun ⟨i, j, e, h, q⟩ => by cases e; exact ⟨_, rfl, _, rfl, h, q⟩, fun ⟨i, e, j, e2, h, q⟩ => by cases e; cases e2; exact ⟨_, _, rfl, h, q⟩⟩
end DL
namespace DL
open PySem PySem.Spec PyProof.Rows L2
variable [Bs]
theorem zipD_len (ds es : List D) : (zipD ds es).length = min ds.length es.length := by unfold zipD; rw [List.length_zipWith]
section
variable {K : PySem.W.Frag} {io : List Addr} {F H : Hp} {a b : Addr} {xs ys : List V} {ds es : List D}
theorem zipD_at {i : Nat} (hi : i < (zipD ds es).length) : ∃ d e, ds[i]? = some d ∧ es[i]? = some e ∧ (zipD ds es)[i]? = some (.tup [d, e]) := by
  rw [zipD_len] at hi
  have h1 : i < ds.length := by omega
  have h2 : i < es.length := by omega
  refine ⟨ds[i], es[i], List.getElem?_eq_getElem h1, List.getElem?_eq_getElem h2, ?_⟩
  unfold zipD
  rw [List.getElem?_zipWith, List.getElem?_eq_getElem h1, List.getElem?_eq_getElem h2]
theorem walkD_zipT (s1 : SqT K F a xs) (r1 : DenL K io F xs ds) (s2 : SqT K F b ys) (r2 : DenL K io F ys es) : WalkD K (ItzX (SqT K) (SqT K) a b) H io F (zipD ds es) (fun _ => True) where
  go := fun i t R _ hi => by
    obtain ⟨d, e, h1, h2, _⟩ := zipD_at hi
    obtain ⟨v, e1, _⟩ := (t.denL r1).get h1
    obtain ⟨w, e2, _⟩ := (t.denL r2).get h2
    exact ⟨xs, ys, v, w, SqT_mono R.sub (SqT_mono t.fr s1), SqT_mono R.sub (SqT_mono t.fr s2), e1, e2⟩
  stop := fun t R _ => by
    refine ⟨xs, ys, SqT_mono R.sub (SqT_mono t.fr s1), SqT_mono R.sub (SqT_mono t.fr s2), ?_⟩
    rw [zipD_len, r1.length, r2.length]
    exact ⟨by omega, by omega, by omega⟩
  yld := fun {H2 io2 F2 st2} i x H3 t R _ hi y => by
    obtain ⟨d, e, h1, h2, h3⟩ := zipD_at hi
    obtain ⟨v, e1, n1⟩ := (t.denL r1).get h1
    obtain ⟨w, e2, n2⟩ := (t.denL r2).get h2
    obtain ⟨T, u, u', o, q1, hT, ho, q2, hu, hu'⟩ := y
    subst q1
    subst q2
    have p1 := hu xs (SqT_mono R.sub (SqT_mono t.fr s1))
    have p2 := hu' ys (SqT_mono R.sub (SqT_mono t.fr s2))
    rw [e1] at p1
    rw [e2] at p2
    cases p1
    cases p2
    obtain ⟨F3, s3, R3, n3⟩ := lay_pair R hT ho n1 n2
    exact ⟨F3, _, s3, R3, h3, n3⟩
theorem walkD_zipL (s1 : F a = some (.lst xs)) (r1 : DenL K io F xs ds) (s2 : F b = some (.lst ys)) (r2 : DenL K io F ys es) : WalkD K (ItzX (SqL K) (SqL K) a b) H io F (zipD ds es) (fun _ => True) where
  go := fun i t R _ hi => by
    obtain ⟨d, e, h1, h2, _⟩ := zipD_at hi
    obtain ⟨v, e1, _⟩ := (t.denL r1).get h1
    obtain ⟨w, e2, _⟩ := (t.denL r2).get h2
    exact ⟨xs, ys, v, w, SqL.of (R.sub _ _ (t.fr _ _ s1)), SqL.of (R.sub _ _ (t.fr _ _ s2)), e1, e2⟩
  stop := fun t R _ => by
    refine ⟨xs, ys, SqL.of (R.sub _ _ (t.fr _ _ s1)), SqL.of (R.sub _ _ (t.fr _ _ s2)), ?_⟩
    rw [zipD_len, r1.length, r2.length]
    exact ⟨by omega, by omega, by omega⟩
  yld := fun {H2 io2 F2 st2} i x H3 t R _ hi y => by
    obtain ⟨d, e, h1, h2, h3⟩ := zipD_at hi
    obtain ⟨v, e1, n1⟩ := (t.denL r1).get h1
    obtain ⟨w, e2, n2⟩ := (t.denL r2).get h2
    obtain ⟨T, u, u', o, q1, hT, ho, q2, hu, hu'⟩ := y
    subst q1
    subst q2
    have p1 := hu xs (SqL.of (R.sub _ _ (t.fr _ _ s1)))
    have p2 := hu' ys (SqL.of (R.sub _ _ (t.fr _ _ s2)))
    rw [e1] at p1
    rw [e2] at p2
    cases p1
    cases p2
    obtain ⟨F3, s3, R3, n3⟩ := lay_pair R hT ho n1 n2
    exact ⟨F3, _, s3, R3, h3, n3⟩
theorem walkD_zipLT (s1 : F a = some (.lst xs)) (r1 : DenL K io F xs ds) (s2 : SqT K F b ys) (r2 : DenL K io F ys es) : WalkD K (ItzX (SqL K) (SqT K) a b) H io F (zipD ds es) (fun _ => True) where
  go := fun i t R _ hi => by
    obtain ⟨d, e, h1, h2, _⟩ := zipD_at hi
    obtain ⟨v, e1, _⟩ := (t.denL r1).get h1
    obtain ⟨w, e2, _⟩ := (t.denL r2).get h2
    exact ⟨xs, ys, v, w, SqL.of (R.sub _ _ (t.fr _ _ s1)), SqT_mono R.sub (SqT_mono t.fr s2), e1, e2⟩
  stop := fun t R _ => by
    refine ⟨xs, ys, SqL.of (R.sub _ _ (t.fr _ _ s1)), SqT_mono R.sub (SqT_mono t.fr s2), ?_⟩
    rw [zipD_len, r1.length, r2.length]
    exact ⟨by omega, by omega, by omega⟩
  yld := fun {H2 io2 F2 st2} i x H3 t R _ hi y => by
    obtain ⟨d, e, h1, h2, h3⟩ := zipD_at hi
    obtain ⟨v, e1, n1⟩ := (t.denL r1).get h1
    obtain ⟨w, e2, n2⟩ := (t.denL r2).get h2
    obtain ⟨T, u, u', o, q1, hT, ho, q2, hu, hu'⟩ := y
    subst q1
    subst q2
    have p1 := hu xs (SqL.of (R.sub _ _ (t.fr _ _ s1)))
    have p2 := hu' ys (SqT_mono R.sub (SqT_mono t.fr s2))
    rw [e1] at p1
    rw [e2] at p2
    cases p1
    cases p2
    obtain ⟨F3, s3, R3, n3⟩ := lay_pair R hT ho n1 n2
    exact ⟨F3, _, s3, R3, h3, n3⟩
theorem walkD_zipTL (s1 : SqT K F a xs) (r1 : DenL K io F xs ds) (s2 : F b = some (.lst ys)) (r2 : DenL K io F ys es) : WalkD K (ItzX (SqT K) (SqL K) a b) H io F (zipD ds es) (fun _ => True) where
  go := fun i t R _ hi => by
    obtain ⟨d, e, h1, h2, _⟩ := zipD_at hi
    obtain ⟨v, e1, _⟩ := (t.denL r1).get h1
    obtain ⟨w, e2, _⟩ := (t.denL r2).get h2
    exact ⟨xs, ys, v, w, SqT_mono R.sub (SqT_mono t.fr s1), SqL.of (R.sub _ _ (t.fr _ _ s2)), e1, e2⟩
  stop := fun t R _ => by
    refine ⟨xs, ys, SqT_mono R.sub (SqT_mono t.fr s1), SqL.of (R.sub _ _ (t.fr _ _ s2)), ?_⟩
    rw [zipD_len, r1.length, r2.length]
    exact ⟨by omega, by omega, by omega⟩
  yld := fun {H2 io2 F2 st2} i x H3 t R _ hi y => by
    obtain ⟨d, e, h1, h2, h3⟩ := zipD_at hi
    obtain ⟨v, e1, n1⟩ := (t.denL r1).get h1
    obtain ⟨w, e2, n2⟩ := (t.denL r2).get h2
    obtain ⟨T, u, u', o, q1, hT, ho, q2, hu, hu'⟩ := y
    subst q1
    subst q2
    have p1 := hu xs (SqT_mono R.sub (SqT_mono t.fr s1))
    have p2 := hu' ys (SqL.of (R.sub _ _ (t.fr _ _ s2)))
    rw [e1] at p1
    rw [e2] at p2
    cases p1
    cases p2
    obtain ⟨F3, s3, R3, n3⟩ := lay_pair R hT ho n1 n2
    exact ⟨F3, _, s3, R3, h3, n3⟩
end
def zipI (a b : D) (s : Sto) (R : GK) : Prop := match a, b with
  | .tup xs, .tup ys => R (zipD xs ys) (fun _ => True) s
  | .lst xs, .lst ys => R (zipD xs ys) (fun _ => True) s
  | .lst xs, .tup ys => R (zipD xs ys) (fun _ => True) s
  | .tup xs, .lst ys => R (zipD xs ys) (fun _ => True) s
  | _, _ => False
theorem zipI_mo {a b : D} {s : Sto} {R R' : GK} (h : ∀ ds G s, R ds G s → R' ds G s) (q : zipI a b s R) : zipI a b s R' := by
  unfold zipI at q ⊢
  split at q
  · exact h _ _ _ q
  · exact h _ _ _ q
  · exact h _ _ _ q
  · exact h _ _ _ q
  · exact q
def iZip (wa wb : DE) : DI := fun env st R => wa env st fun a s1 => wb env s1 fun b s2 => zipI a b s2 R
theorem wi_zip {X : Cx} {p pos tpos : Pos} {e e2 : Expr} {we we2 : DE} {elts : List Expr} {kk : Nat} (hg : Gl X "zip") (hm : X.mg "zip" = none) (he : WE X e we) (he2 : WE X e2 we2) (ha : starEach [e, e2] X.env = (false, eval e X.env) :: starEach [e2] X.env := by rfl) (hs : starEach [e2] X.env = (false, eval e2 X.env) :: starEach [] X.env := by rfl)
    (hpl : (backTo pos (starEach [e2] X.env)).any (·.1) = false := by rfl) :
    WI X (.Tuple elts kk tpos) (.Call (.Name "zip" p) [e, e2] [] pos) (iZip we we2) := by
  refine ⟨fun _ _ _ _ h q => he.mo _ _ _ _ (fun _ _ q => he2.mo _ _ _ _ (fun _ _ q => zipI_mo (fun _ _ _ q => h _ _ _ q) q) q) q, PI_imp (pi_zipX hg hm (pa_cons he.pe (pa_cons he2.pe pa_nil hs) ha) ha hpl) fun σ H R ⟨env, io, F, st, Rl, q⟩ => ?_⟩
  refine tE_use he.mo Rl q fun d s1 v io1 F1 H1 q1 t1 R1 n1 => ?_
  refine tE_use he2.mo R1 q1 fun d2 s2 v2 io2 F2 H2 q2 t2 R2 n2 => ?_
  have n1' := t2.den n1
  unfold zipI at q2
  split at q2
  · cases n1' with
    | tup s r z =>
      cases n2 with
      | tup s' r' z' => exact ⟨_, _, _, _, rfl, .inr (.inl ⟨SqT_mono R2.sub s.t, SqT_mono R2.sub s'.t, q2 _ _ _ _ (t1.trans t2) R2.toRelH (walkD_zipT s.t r s'.t r')⟩)⟩
  · cases n1' with
    | lst s r z =>
      cases n2 with
      | lst s' r' z' => exact ⟨_, _, _, _, rfl, .inl ⟨SqL.of (R2.sub _ _ s), SqL.of (R2.sub _ _ s'), q2 _ _ _ _ (t1.trans t2) R2.toRelH (walkD_zipL s r s' r')⟩⟩
  · cases n1' with
    | lst s r z =>
      cases n2 with
      | tup s' r' z' => exact ⟨_, _, _, _, rfl, .inr (.inr (.inl ⟨SqL.of (R2.sub _ _ s), SqT_mono R2.sub s'.t, q2 _ _ _ _ (t1.trans t2) R2.toRelH (walkD_zipLT s r s'.t r')⟩))⟩
  · cases n1' with
    | tup s r z =>
      cases n2 with
      | lst s' r' z' => exact ⟨_, _, _, _, rfl, .inr (.inr (.inr ⟨SqT_mono R2.sub s.t, SqL.of (R2.sub _ _ s'), q2 _ _ _ _ (t1.trans t2) R2.toRelH (walkD_zipTL s.t r s' r')⟩))⟩
  · exact q2.elim
theorem zipI_tup {xs ys : List D} {s : Sto} {R : GK} : zipI (.tup xs) (.tup ys) s R = R (zipD xs ys) (fun _ => True) s := rfl
theorem zipI_lt {xs ys : List D} {s : Sto} {R : GK} : zipI (.lst xs) (.tup ys) s R = R (zipD xs ys) (fun _ => True) s := rfl
theorem zipI_tl {xs ys : List D} {s : Sto} {R : GK} : zipI (.tup xs) (.lst ys) s R = R (zipD xs ys) (fun _ => True) s := rfl
theorem zipI_lst {xs ys : List D} {s : Sto} {R : GK} : zipI (.lst xs) (.lst ys) s R = R (zipD xs ys) (fun _ => True) s := rfl
theorem zip_map {α β : Type} (f : α → D) (g : β → D) (xs : List α) (ys : List β) : zipD (xs.map f) (ys.map g) = (xs.zip ys).map fun x => .tup [f x.1, g x.2] := by
  unfold zipD
  rw [List.zipWith_map, List.zip, List.map_zipWith]
end DL
namespace DL
open PySem PySem.Spec PyProof.Rows L2
variable [Bs]
section
variable {X : Cx} {pos : Pos}
theorem we_dict0 : WE X (.Dict [] [] pos) (wC (.dct [])) :=
  ⟨moC _, PE_imp pe_dnewK fun σ H Q ⟨env, io, F, st, R, q⟩ => fun p hp => q _ io (upd F p (.dK [])) _ (Stp.laid hp R.sub) (R.toRelH.laid hp) (.dct (by rw [upd_same]; rfl))⟩
theorem we_dict1 {a b : Int} {j k} {p1 p2 : Pos} : WE X (.Dict [some (.Constant (.int a) j p1)] [.Constant (.int b) k p2] pos) (wC (.dct [(.inl a, .inl b)])) := by
  refine ⟨moC _, PE_imp (pe_disp (pps_cons pe_int pe_int pps_nil) rfl rfl (by simp) (by simp)) fun σ H Q ⟨env, io, F, st, R, q⟩ => fun p hp => ?_⟩
  refine ⟨upd_same, [(.inl a, .int b)], rfl, by simp, ?_⟩
  rw [upd_upd]
  exact q _ io (upd F p _) _ (Stp.laid hp R.sub) (R.toRelH.laid hp) (.dct (by rw [upd_same]; rfl))
end
def rgD (a b : Int) : List D := (List.range (b - a).toNat).map fun i => D.int (a + (i : Nat))
def wRgL1 (m : Bool) (wa : DE) : DE := fun env st Q => wa env st fun d s => ∃ b, d = .int b ∧ RgOk 0 b ∧ newL m (rgD 0 b) s Q
def wRgL2 (m : Bool) (wa wb : DE) : DE := fun env st Q => wa env st fun d s => wb env s fun d2 s2 => ∃ a b, d = .int a ∧ d2 = .int b ∧ RgOk a b ∧ newL m (rgD a b) s2 Q
def wRgT1 (wa : DE) : DE := fun env st Q => wa env st fun d s => ∃ b, d = .int b ∧ RgOk 0 b ∧ Q (.tup (rgD 0 b)) s
def wRgT2 (wa wb : DE) : DE := fun env st Q => wa env st fun d s => wb env s fun d2 s2 => ∃ a b, d = .int a ∧ d2 = .int b ∧ RgOk a b ∧ Q (.tup (rgD a b)) s2
def repS (x : Str) (n : Int) : Str := ⟨(List.replicate n.toNat x.cps).foldl (· ++ ·) #[]⟩
theorem repS_len (x : Str) (n : Int) : (repS x n).length = x.length * n.toNat := by
  have h : ∀ (k : Nat) (acc : Array Nat), ((List.replicate k x.cps).foldl (· ++ ·) acc).size = acc.size + x.cps.size * k := fun k => by
    induction k with
    | zero => intro acc; simp
    | succ k ih => intro acc; rw [List.replicate_succ, List.foldl_cons, ih, Array.size_append, Nat.mul_succ]; omega
  have := h n.toNat #[]
  simp only [Array.size_empty, Nat.zero_add] at this
  exact this
def rRepS : R2 := fun x y H Q => ∃ z n, x = .str z ∧ y = .int n ∧ 2 ≤ n ∧ n ≤ 1000000 ∧ z.length ≠ 0 ∧ z.length * n.toNat ≤ sizeLine ∧ Q (.str (repS z n)) H
theorem op_repS {X : Cx} : OpR X (binaryOp .Mult) rRepS := by
  intro pins s σ H x y v u Q I rx ry h
  obtain ⟨z, n, rfl, rfl, h1, h2, h3, h4, q⟩ := h
  obtain ⟨t, rfl⟩ := rx
  obtain ⟨t', rfl⟩ := ry
  have c1 : (decide (n < -(2 ^ 63 : Int)) || decide (n ≥ 2 ^ 63)) = false := by
    rw [decide_eq_false (by omega), decide_eq_false (by omega)]; rfl
  have c2 : (n == 1 || z.length == 0) = false := by
    rw [beq_eq_false_iff_ne.mpr (by omega : n ≠ 1), beq_eq_false_iff_ne.mpr h3]; rfl
  have hn : ((n.toNat : Nat) : Int) = n := Int.toNat_of_nonneg (by omega)
  have h5 : z.length ≤ 16777216 := by
    rw [sizeLine_eq] at h4
    have : z.length * 1 ≤ z.length * n.toNat := Nat.mul_le_mul_left _ (by omega)
    omega
  refine PySem.P.mul_str c1 (fun _ _ => ?_) (fun _ _ => ?_) ?_
  · have h6 : (2 ^ 63 - 1 : Int) / 1000000 ≤ (2 ^ 63 - 1) / n := by
      refine (Int.le_ediv_iff_mul_le (by omega)).mpr ?_
      have : (2 ^ 63 - 1 : Int) / 1000000 * n ≤ (2 ^ 63 - 1 : Int) / 1000000 * 1000000 := Int.mul_le_mul_of_nonneg_left h2 (by decide)
      omega
    omega
  · unfold Builtin.Str.tooLong
    exact decide_eq_false (by omega)
  · rw [if_neg (by omega), c2, if_neg (by exact Bool.false_ne_true)]
    exact ⟨by rw [show (⟨List.foldl (fun x1 x2 => x1 ++ x2) #[] (List.replicate n.toNat z.cps)⟩ : Str) = repS z n from rfl, repS_len]; exact h4, .str (repS z n), H, I.tok _, ⟨_, rfl⟩, q⟩
def dMulS : R2D := fun a b st Q => ∃ z n, a = .str z ∧ b = .int n ∧ 2 ≤ n ∧ n ≤ 1000000 ∧ z.length ≠ 0 ∧ z.length * n.toNat ≤ sizeLine ∧ Q (.str (repS z n)) st
theorem z_mulS {K : PySem.W.Frag} : Rz K rRepS dMulS where
  mo := fun _ _ _ _ _ h ⟨z, n, e1, e2, h1, h2, h3, h4, q⟩ => ⟨z, n, e1, e2, h1, h2, h3, h4, h _ _ q⟩
  on := fun {H io F st x y a b Q} R n1 n2 ⟨z, n, e1, e2, h1, h2, h3, h4, q⟩ => by
    subst e1 e2
    cases n1
    cases n2
    exact ⟨z, n, rfl, rfl, h1, h2, h3, h4, kE_now R (.str _) q⟩
theorem v_mulS {x : Str} {k : Int} {st : Sto} {Q : DK} : dMulS (.str x) (.int k) st Q = (2 ≤ k ∧ k ≤ 1000000 ∧ x.length ≠ 0 ∧ x.length * k.toNat ≤ sizeLine ∧ Q (.str (repS x k)) st) :=
  propext ⟨fun ⟨_, _, e1, e2, h⟩ => by cases e1; cases e2; exact h, fun h => ⟨_, _, rfl, rfl, h⟩⟩
theorem v_rgx1 {n : Int} {P : Int → Prop} : (∃ b, D.int n = .int b ∧ P b) = P n := propext ⟨fun ⟨_, e, h⟩ => by cases e; exact h, fun h => ⟨_, rfl, h⟩⟩
theorem v_rgx2 {m n : Int} {P : Int → Int → Prop} : (∃ a b, D.int m = .int a ∧ D.int n = .int b ∧ P a b) = P m n := propext ⟨fun ⟨_, _, e, e2, h⟩ => by cases e; cases e2; exact h, fun h => ⟨_, _, rfl, rfl, h⟩⟩
section
variable {prog : Program} {w : World} {A : Around} {E : Value → Shared → Prop} {s : Shared}
theorem places_rev (n : Nat) : Builtin.Slice.slicePlaces ((n : Int) - 1) (-1) (-1) = n := by
  unfold Builtin.Slice.slicePlaces
  rw [if_neg (by decide : ¬ ((-1 : Int) > 0))]
  by_cases h : (n : Int) - 1 > -1
  · rw [if_pos h, show (n : Int) - 1 - -1 - 1 = (n : Int) - 1 by omega, show (- (-1) : Int) = 1 from rfl, Int.ediv_one]
    omega
  · rw [if_neg h]
    have : n = 0 := by omega
    subst this; rfl
theorem pick_rev (xs : Array Value) : ((List.range xs.size).filterMap fun (m : Nat) => xs[(((xs.size : Int) - 1) + (m : Int) * (-1)).toNat]?).toArray = xs.toList.reverse.toArray := by
  congr 1
  apply List.ext_getElem?
  intro i
  have key : ∀ k : Nat, k ≤ xs.size → (List.range k).filterMap (fun (m : Nat) => xs[(((xs.size : Int) - 1) + (m : Int) * (-1)).toNat]?) = xs.toList.reverse.take k := by
    intro k
    induction k with
    | zero => intro _; simp
    | succ k ih =>
      intro hk
      have e : (((xs.size : Int) - 1) + (k : Int) * (-1)).toNat = xs.size - 1 - k := by omega
      have hx : xs[xs.size - 1 - k]? = some xs[xs.size - 1 - k] := Array.getElem?_eq_getElem (by omega)
      rw [List.range_succ, List.filterMap_append, ih (by omega), List.take_add_one]
      congr 1
      rw [List.filterMap_cons, List.filterMap_nil, e, hx, List.getElem?_reverse (by rw [Array.length_toList]; omega), Array.length_toList, Array.getElem?_toList, hx]
      rfl
  rw [key xs.size (Nat.le_refl _), List.take_of_length_le (by rw [List.length_reverse, Array.length_toList]; omega)]
theorem sliceApplied_rev {sl : Addr} {vl vu vs : Value} {n : Nat} {Q : Int × Int × Nat → Shared → Prop} (hs : s.heap.IsSliceOf sl vl vu vs) (pl : IsPart vl none) (pu : IsPart vu none) (ps : IsPart vs (some (-1)))
    (h : Q ((n : Int) - 1, -1, n) s) : wpAny (model prog w) A (Builtin.Slice.sliceApplied (.ref sl) (pure (n : Int))) Q E s := by
  obtain ⟨os, hos, hcs, hds⟩ := id hs
  unfold Builtin.Slice.sliceApplied Builtin.Slice.sliceFields
  refine wpAny_bind (wpAny_bind (wpAny_field hos hds (x := vl) rfl (wpAny_bind (wpAny_field hos hds (x := vu) rfl (wpAny_bind (wpAny_field hos hds (x := vs) rfl (wpAny_pure ?_)))))))
  refine wpAny_bind (HT.slicePart_ ps ?_)
  show wpAny _ _ (if ((-1 : Int) == 0) = true then _ else _) _ _ s
  rw [if_neg (by decide)]
  refine wpAny_bind (HT.slicePart_ pl (wpAny_bind (HT.slicePart_ pu (wpAny_bind (wpAny_pure ?_)))))
  show wpAny _ _ (pure (((n : Int) - 1), (-1 : Int), Builtin.Slice.slicePlaces ((n : Int) - 1) (-1) (-1))) _ _ s
  rw [places_rev]
  exact wpAny_pure h
theorem getItem_tuple_rev {t sl : Addr} {items : Array Value} {vl vu vs : Value} {Q : Value → Shared → Prop} (ht : IsTup s.heap t items) (hs : s.heap.IsSliceOf sl vl vu vs) (pl : IsPart vl none) (pu : IsPart vu none) (ps : IsPart vs (some (-1)))
    (h : Q (.ref s.heap.objs.size) { s with heap := s.heap.push { cls := .type "tuple", data := .seq items.toList.reverse.toArray } }) (hsz : items.size ≤ sizeLine) : wpAny (model prog w) A (getItem (.ref t) (.ref sl)) Q E s := by
  have htake : sizeOk (.seq items.toList.reverse.toArray) := by
    show items.toList.reverse.toArray.size ≤ sizeLine
    rw [List.size_toArray, List.length_reverse, Array.length_toList]
    exact hsz
  obtain ⟨os, hos, hcs, hds⟩ := id hs
  have hTs : s.TypeIs (.ref sl) "slice" := ⟨os, hos, hcs⟩
  unfold getItem
  try with_reducible refine wpAny_holding ?_
  first | refine wpAny_bind (wpAny_pure ?_) | skip
  refine wpAny_bind (wpAny_sequenceKey ht.typeIs (by decide) ?_)
  refine wpAny_bind (wpAny_callSpecial?_slot (name := Str.ofString "__getitem__") ht.typeIs PyProof.Rows.slot_tuple_getitem
    (wpAny_call_entry PyProof.Rows.slot_tuple_getitem ht.typeIs entry_tuple_getitem ?_ (args_tuple_getitem _ _)))
  show wpAny _ _ (Builtin.Tuple.tupleItemsOf (.ref t) >>= _) _ _ s
  refine wpAny_bind (PyProof.Rows.tupleItemsOf_ ht ?_)
  refine wpAny_bind (wpAny_typeOf hTs ?_)
  rw [if_pos (by decide)]
  refine wpAny_bind (sliceApplied_rev hs pl pu ps ?_)
  have hno : ¬ ((((items.size : Int) - 1) == 0 && (-1 : Int) == 1 && items.size == items.size) = true) := by simp
  show wpAny _ _ (if (((items.size : Int) - 1) == 0 && (-1 : Int) == 1 && items.size == items.size) = true then _ else _) _ _ s
  rw [if_neg hno, pick_rev]
  first
    | exact wpAny_bind (m := Builtin.Tuple.tupleExact _) (wpAny_newObj_type (wpAny_pure ⟨_, rfl, wpAny_pure h⟩) htake)
    | exact wpAny_bind (m := Builtin.Tuple.tupleExact _) (wpAny_newObj_type (wpAny_bind (wpAny_pure (wpAny_pure ⟨_, rfl, wpAny_pure h⟩))) htake)
    | exact wpAny_bind (wpAny_bind (m := Builtin.Tuple.tupleExact _) (wpAny_newObj_type (wpAny_pure (wpAny_pure ⟨_, rfl, wpAny_pure h⟩)) htake))
    | exact wpAny_bind (wpAny_bind (m := Builtin.Tuple.tupleExact _) (wpAny_newObj_type (wpAny_pure ⟨_, rfl, wpAny_pure h⟩) htake))
end
def tRevA (K : PySem.W.Frag) (te : TE) : TE := fun σ H Q => te σ H fun x H1 => ∃ a xs, x = .ref a ∧ ((SqL K H1 a xs ∧ ∀ p, H1 p = none → Q (.ref p) (upd H1 p (.lst xs.reverse))) ∨ (SqT K H1 a xs ∧ XtK H1 Q xs.reverse))
theorem pe_revA {X : Cx} {e : Expr} {te : TE} {k : Nat} {p1 p2 p3 pos : Pos} (he : PE X e te) : PE X (.Subscript e (.Slice none none (some (.UnaryOp .USub (.Constant (.int 1) k p1) p2)) p3) pos) (tRevA X.K te) := by
  refine ⟨fun pins s σ H Q I h => ?_⟩
  refine Subscript_ (thn (he.run pins s σ H _ I h) fun v s1 ⟨x, H1, I1, r1, q1⟩ => ?_)
  obtain ⟨a, xs, ex, hx⟩ := q1
  subst ex
  cases r1
  have hst : PO X (some (.UnaryOp .USub (.Constant (.int 1) k p1) p2)) (tPart (tUn (rU fun i => .int (-i)) (tC (.int 1)))) := po_some (pe_un un_neg pe_int)
  refine wpAny_Slice (thn (po_none.run pins s1 σ H1 (fun o H2 => o = none ∧ H2 = H1) I1 ⟨rfl, rfl⟩) fun vl s2 ⟨l, H2, I2, pl, el, e2⟩ => ?_)
  subst el e2
  refine thn (po_none.run pins s2 σ H2 (fun o H3 => o = none ∧ H3 = H2) I2 ⟨rfl, rfl⟩) fun vu s3 ⟨u, H3, I3, pu, eu, e3⟩ => ?_
  subst eu e3
  refine thn (hst.run pins s3 σ H3 (fun o H4 => o = some (-1) ∧ H4 = H3) I3 ⟨1, rfl, -1, rfl, rfl, rfl⟩) fun vs s4 ⟨o, H4, I4, ps, eo, e4⟩ => ?_
  subst eo e4
  have I5 : Inv X pins σ H4 { s4 with heap := s4.heap.push { cls := .type "slice", data := .fields #[vl, vu, vs] } } := I4.kept (t' := s4.toks) fun b ob q => Heap.get?_push_of_some _ q
  show wpAny (model X.prog X.w) X.A (subscriptTail e (.Slice none none (some (.UnaryOp .USub (.Constant (.int 1) k p1) p2)) p3) (.ref a) (.ref s4.heap.objs.size)) (EP X pins σ Q) X.xe { s4 with heap := s4.heap.push { cls := .type "slice", data := .fields #[vl, vu, vs] } }
  rcases hx with ⟨hx, q⟩ | ⟨hx, q⟩
  · obtain ⟨its, r, ht, hz⟩ := I5.list hx
    have hlen := r.length
    refine tail_any (ops := [.ref a, .ref s4.heap.objs.size]) ht.isList.typeIs (PySem.slot_list_getitem.lookup) ?_ (by with_unfolding_all rfl)
    refine wpAny_getItem_list_slice ht.isList (Heap.IsSliceOf.new _ vl vu vs) pl pu ps (by decide) ?_ (by rw [List.size_toArray]; omega)
    rw [PySem.W.krv_pick]
    refine ⟨.ref _, _, I5.laid (t' := s4.toks) (o := .lst xs.reverse) (fun b ob q => Heap.get?_push_of_some _ q) (Nat.le_refl _) ?_, rfl, q _ (I5.hok.fresh (Nat.le_refl _))⟩
    exact ⟨by rw [List.length_reverse]; exact hz, _, 0, r.reverse, Heap.get?_push_size _ rfl⟩
  · obtain ⟨its, r, ht, hz⟩ := I5.tuple hx
    have hlen := r.length
    refine tail_any (ops := [.ref a, .ref s4.heap.objs.size]) ht.typeIs (PyProof.Rows.slot_tuple_getitem.lookup) ?_ (by with_unfolding_all rfl)
    refine getItem_tuple_rev ht (Heap.IsSliceOf.new _ vl vu vs) pl pu ps ?_ (by rw [List.size_toArray]; omega)
    exact new_tup I5 (by rw [List.length_reverse]; exact hz) r.reverse q
def dRev (m : Bool) (a : D) (s : Sto) (Q : DK) : Prop := match rd s a with
  | .lst ds => newL m ds.reverse s Q
  | .tup ds => Q (.tup ds.reverse) s
  | _ => False
def wRevA (m : Bool) (wa : DE) : DE := fun env st Q => wa env st fun a s => dRev m a s Q
theorem we_revA {X : Cx} {a : Expr} {wa : DE} {pos : Pos} {m : Bool} {k : Nat} {p1 p2 p3 : Pos} (ha : WE X a wa) : WE X (.Subscript a (.Slice none none (some (.UnaryOp .USub (.Constant (.int 1) k p1) p2)) p3) pos) (wRevA m wa) := by
  refine ⟨fun _ _ _ _ h q => ha.mo _ _ _ _ (fun _ _ q => ?_) q, PE_imp (pe_revA ha.pe) fun σ H Q ⟨env, io, F, st, R, q⟩ => ?_⟩
  · unfold dRev at q ⊢
    split at q
    · exact newL_mo h q
    · exact h _ _ q
    · exact q
  refine tE_use ha.mo R q fun d s1 v io1 F1 H1 q1 t1 R1 n1 => ?_
  unfold dRev at q1
  split at q1
  · rename_i ds e
    obtain ⟨p, xs, rfl, h1, h2, h3⟩ := rd_lst R1.toRelH n1 e
    exact ⟨p, xs, rfl, .inl ⟨SqL.of h1, lay_new R1.toRelH h2.rev (by rw [List.length_reverse]; exact h3) (newL_mo (fun _ _ => kE_later t1) q1)⟩⟩
  · rename_i ds e
    cases rd_tup e
    cases n1 with
    | @tup p vs _ s r z =>
      exact ⟨p, vs, rfl, .inr ⟨SqT_mono R1.sub s.t, lay_tup R1.toRelH r.rev (by rw [List.length_reverse]; exact z) (kE_later t1 q1)⟩⟩
  · exact q1.elim
theorem v_revT {m : Bool} {ds : List D} {st : Sto} {Q : DK} : dRev m (.tup ds) st Q = Q (.tup ds.reverse) st := rfl
theorem v_revL {m : Bool} {ds : List D} {st : Sto} {Q : DK} : dRev m (.lst ds) st Q = newL m ds.reverse st Q := rfl
end DL
namespace DL
open PySem PySem.Spec PyProof.Rows L2
variable [Bs]
theorem PlainL.isList {h : Heap} {a : Addr} {its : Array Value} (p : PlainL h a its) : h.IsList a its := by
  obtain ⟨o, n, e, h1, h2, h3⟩ := p
  exact ⟨o, e, h1, n, h3⟩
def dEqE (f : Bool → Bool) : R2D := fun a b st Q => ∃ ds, rd st a = .lst ds ∧ rd st b = .lst [] ∧ Q (.bl (f ds.isEmpty)) st
theorem v_eqE {f : Bool → Bool} {ds : List D} {st : Sto} {Q : DK} : dEqE f (.lst ds) (.lst []) st Q = Q (.bl (f ds.isEmpty)) st :=
  propext ⟨fun ⟨_, e1, _, q⟩ => by cases e1; exact q, fun q => ⟨_, rfl, rfl, q⟩⟩
end DL
namespace DL
open PySem PySem.Spec PyProof.Rows L2
variable [Bs]
def IsKey (h : Heap) (v : Value) (x : Int) : Prop := ∃ a o t y n, v = .ref a ∧ h.get? a = some o ∧ o.cls = .type "tuple" ∧ o.data = .seq #[.int x t, y] n
theorem IsKey.keeps {h h' : Heap} {v : Value} {x : Int} (p : IsKey h v x) (k : ∀ b o, h.get? b = some o → o.cls = .type "tuple" → h'.get? b = some o) : IsKey h' v x := by
  obtain ⟨a, o, t, u, n, e, ho, hc, hd⟩ := p
  exact ⟨a, o, t, u, n, e, k _ _ ho hc, hc, hd⟩
end DL
namespace DL
open PySem PySem.Spec PyProof.Rows L2
theorem fnG_none {P : Program} {w : World} {K : PySem.W.Frag} {mg : Str → Option Value} {base : Heap} {CX : CXT} {k : Nat} {f : Addr} {fd : FuncData} {ps : List Str} {S : Spec} (h : ∀ g st, ¬S.pre g st) : FnG P w K mg base CX k f fd ps (spOf K S) :=
  ⟨fun _ _ _ _ ⟨g, _, _, st, _, _, _, p, _⟩ => absurd p (h g st), fun _ _ _ _ _ _ _ _ _ _ _ _ _ _ ⟨g, _, _, st, _, _, _, p, _⟩ => absurd p (h g st)⟩
variable [Bs]
def bStr : RLD := fun ds st Q => ∃ i : Int, ds = [.int i] ∧ i.natAbs.log2 < 1920 ∧ Q (.str (toString i)) st
theorem z_str {K : PySem.W.Frag} : RzL K (fun xs H Q => ∃ i : Int, xs = [.int i] ∧ i.natAbs.log2 < 1920 ∧ Q (.str (toString i)) H) bStr where
  mo := fun ds s Q Q' h ⟨i, e, z, q⟩ => ⟨i, e, z, h _ _ q⟩
  on := fun R nl ⟨i, e, z, q⟩ => by
    subst e
    obtain ⟨v, rfl, n⟩ := nl.one
    cases n
    exact ⟨i, rfl, z, kE_now R (.str _) q⟩
end DL
namespace PySem.AutoSeq1
end PySem.AutoSeq1
namespace L2
open PySem PySem.Spec PyProof.Rows
end L2
namespace DL
open PySem PySem.Spec PyProof.Rows L2
variable [Bs]
mutual
/-- no cell within -/
def D.okm : D → Bool
  | .non => true
  | .bl _ => true
  | .int _ => true
  | .str _ => true
  | .tup ds => D.okmL ds
  | .lst ds => D.okmL ds
  | .scr _ => false
  | .dct _ => true
  | .ref _ => false
  | .fn _ _ _ => false
  | .exc _ _ _ => false
def D.okmL : List D → Bool
  | [] => true
  | d :: r => d.okm && D.okmL r
end
mutual
inductive DpM (K : PySem.W.Frag) (H : Hp) : V → PyData → Prop
  | non : DpM K H .non .none
  | bl (b : Bool) : DpM K H (.bl b) (.bool b)
  | int (i : Int) : DpM K H (.int i) (.int i)
  | str (x : Str) : DpM K H (.str x) (.str x)
  | tup {a : Addr} {xs : List V} {ds : List PyData} : SqT K H a xs → DpML K H xs ds → DpM K H (.ref a) (.tuple ds)
  | lst {a : Addr} {xs : List V} {ds : List PyData} : SqL K H a xs → DpML K H xs ds → DpM K H (.ref a) (.list ds)
  | dct {a : Addr} {kvs : List (Key × Key)} : H a = some (.dK (kvs.map fun p => (p.1, kV p.2))) → DpM K H (.ref a) (.dict (kvs.map fun p => (kPy p.1, kPy p.2)))
inductive DpML (K : PySem.W.Frag) (H : Hp) : List V → List PyData → Prop
  | nil : DpML K H [] []
  | cons {v : V} {vs : List V} {d : PyData} {ds : List PyData} : DpM K H v d → DpML K H vs ds → DpML K H (v :: vs) (d :: ds)
end
section
variable {X : Cx} {pins : List (Addr × Obj)} {σ : L2.St} {H : Hp} {s : Shared}
mutual
theorem DpM.reads (sm : smB X.K = true) (I : Inv X pins σ H s) : ∀ {v : V} {d : PyData}, DpM X.K H v d → ∀ u : Value, RelV v u → ∃ as, Reads s.heap u d as ∧ sysModules ∉ as
  | _, _, .non, u, r => by cases r; exact ⟨_, .none, by simp⟩
  | _, _, .bl b, u, r => by cases r; exact ⟨_, .bool b, by simp⟩
  | _, _, .int i, u, r => by obtain ⟨t, rfl⟩ := r; exact ⟨_, .int i t, by simp⟩
  | _, _, .str x, u, r => by obtain ⟨t, rfl⟩ := r; exact ⟨_, .str x t, by simp⟩
  | _, _, .tup hs ha, u, r => by
    cases r
    obtain ⟨its, rv, ⟨o, ho, hc, n, hd⟩, _⟩ := I.tuple hs
    obtain ⟨as, hr, hn⟩ := DpML.reads sm I ha its rv
    exact ⟨_, Reads.tuple ho hc hd hr, hn⟩
  | _, _, @DpM.lst _ _ a _ _ hs ha, u, r => by
    cases r
    obtain ⟨its, rv, ⟨o, n, ho, hc, _, hd⟩, _⟩ := I.list hs
    obtain ⟨as, hr, hn⟩ := DpML.reads sm I ha its rv
    refine ⟨_, Reads.list ho hc hd hr, fun z => ?_⟩
    rcases List.mem_cons.mp z with z | z
    · obtain ⟨o2, h1, h2⟩ := smB_ok sm
      have h3 := I.kIn _ _ h1
      rw [z, ho] at h3
      cases h3
      rw [hc] at h2
      exact absurd h2 (by decide)
    · exact hn z
  | _, _, .dct e, u, r => by
    cases r
    obtain ⟨z, hs, vs, rk, hd⟩ := dk_of I.hok e
    refine ⟨_, PyProof.V.reads_dictOf (enc := kPy) (fun k key hk => key_reads (keyIs_rel hk)) hd (pairs_read _ vs rk), ?_⟩
    have hs := beq_eq_false_iff_ne.mp hs
    simp only [List.mem_singleton]
    exact fun z => hs z.symm
theorem DpML.reads (sm : smB X.K = true) (I : Inv X pins σ H s) : ∀ {vs : List V} {ds : List PyData}, DpML X.K H vs ds → ∀ us : List Value, Vals vs us → ∃ as, ReadsAll s.heap us ds as ∧ sysModules ∉ as
  | _, _, .nil, us, r => by cases r; exact ⟨_, .nil, by simp⟩
  | _, _, .cons h1 h2, us, r => by
    cases r with
    | cons r1 r2 =>
      obtain ⟨as, q1, n1⟩ := DpM.reads sm I h1 _ r1
      obtain ⟨bs, q2, n2⟩ := DpML.reads sm I h2 _ r2
      exact ⟨_, .cons q1 q2, fun z => (List.mem_append.mp z).elim n1 n2⟩
end
end
section
variable {K : PySem.W.Frag} {io : List Addr} {F H : Hp}
mutual
theorem den_dpm (hs : ∀ a o, F a = some o → H a = some o) : ∀ {v : V} {d : D}, Den K io F v d → d.okm = true → DpM K H v d.py
  | _, _, .non, _ => by simp only [D.py]; exact .non
  | _, _, .bl b, _ => by simp only [D.py]; exact .bl b
  | _, _, .int i, _ => by simp only [D.py]; exact .int i
  | _, _, .str x, _ => by simp only [D.py]; exact .str x
  | _, _, .tup s r _, h => by simp only [D.py]; exact .tup (SqT_mono hs s.t) (den_dpmL hs r (by simpa only [D.okm] using h))
  | _, _, .lst s r _, h => by simp only [D.py]; exact .lst (SqL.of (hs _ _ s)) (den_dpmL hs r (by simpa only [D.okm] using h))
  | _, _, .dct e, _ => by simp only [D.py]; exact .dct (hs _ _ e)
  | _, _, .scr _ _ _, h => by simp [D.okm] at h
  | _, _, .ref _, h => by simp [D.okm] at h
  | _, _, .fn _ _, h => by simp [D.okm] at h
  | _, _, .exc _ _ _ _ _ _, h => by simp [D.okm] at h
theorem den_dpmL (hs : ∀ a o, F a = some o → H a = some o) : ∀ {vs : List V} {ds : List D}, DenL K io F vs ds → D.okmL ds = true → DpML K H vs (D.pyL ds)
  | _, _, .nil, _ => .nil
  | _, _, .cons a b, h => by
    simp only [D.okmL, Bool.and_eq_true] at h
    exact .cons (den_dpm hs a h.1) (den_dpmL hs b h.2)
end
end
structure D.FitM (d : D) : Prop where
  ok : d.okm = true
  can : d.py.showable = true
  len : d.py.shown.length ≤ sizeLine
  dep : d.dep ≤ 60
def rReprM (K : PySem.W.Frag) : List V → Hp → VK → Prop := fun xs H Q => ∃ x d, xs = [x] ∧ DpM K H x d ∧ d.showable = true ∧ d.depth ≤ 60 ∧ d.shown.length ≤ sizeLine ∧ Q (.str d.shown) H
theorem call_reprM {X : Cx} (sm : smB X.K = true) (hgd : X.A.guards = some []) (hu : X.A.units + 64 < cLine) : CallR X (.builtin "repr") (rReprM X.K) := by
  intro pins s σ H xs us Q I r h
  obtain ⟨x, d, rfl, hd, hs, hz, hl, q⟩ := h
  obtain ⟨u, rfl, ru⟩ := vals1 r
  obtain ⟨as, rd, n⟩ := DpM.reads sm I hd u ru
  have hsm : d.hasDict = true → sysModules ∉ as := fun _ => n
  cases x with
  | ref a =>
    cases ru
    exact repr_of_reads' rd hs hsm hgd (by omega) (fun b o e => e) (fun h' u tk hk => ⟨.str d.shown, H, I.kept hk, ⟨u, rfl⟩, q⟩) hl
  | non => cases ru; cases rd; exact PySem.P.repr_of_none ⟨.str _, H, I.tok _, ⟨_, rfl⟩, q⟩
  | bl b => cases ru; cases rd; exact PySem.P.repr_of_bool ⟨.str _, H, I.tok _, ⟨_, rfl⟩, q⟩
  | int i =>
    obtain ⟨t, rfl⟩ := ru
    cases rd
    exact PySem.P.repr_of_int (by simpa [PyData.showable] using hs) ⟨.str _, H, I.tok _, ⟨_, rfl⟩, q⟩
  | str z =>
    obtain ⟨t, rfl⟩ := ru
    cases rd
    exact PySem.P.repr_of_str ⟨.str _, H, I.tok _, ⟨_, rfl⟩, q⟩ hl
  | byt _ => cases hd
  | flt _ => cases hd
  | ty _ => cases hd
def bReprM : RLD := fun ds st Q => ∃ d, ds = [d] ∧ d.FitM ∧ Q (.str d.rep) st
def b2 (b : Bool) : Int := if b = true then 1 else 0
def rAddB : R2 := fun x y H Q => ∃ (b : Bool) (j : Int), x = .bl b ∧ y = .int j ∧ Q (.int (b2 b + j)) H
def rSubB : R2 := fun x y H Q => (∃ (b : Bool) (j : Int), x = .bl b ∧ y = .int j ∧ Q (.int (b2 b - j)) H) ∨ ∃ (i : Int) (b : Bool), x = .int i ∧ y = .bl b ∧ Q (.int (i - b2 b)) H
theorem op_addB {X : Cx} : OpR X (binaryOp .Add) (fun x y H Q => rAddD X.K x y H Q ∨ rAddB x y H Q) := op_addD.or fun pins s σ H x y v u Q I r1 r2 ⟨b, j, e1, e2, q⟩ => by
  subst e1 e2
  cases r1
  obtain ⟨t, rfl⟩ := r2
  exact PySem.IntBool.add_bool_int ⟨.int _, H, I.tok _, ⟨_, rfl⟩, q⟩
theorem op_subB {X : Cx} : OpR X (binaryOp .Sub) (fun x y H Q => rI0 (fun i j => .int (i - j)) x y H Q ∨ rSubB x y H Q) := op_sub.or fun pins s σ H x y v u Q I r1 r2 h => by
  rcases h with ⟨b, j, e1, e2, q⟩ | ⟨i, b, e1, e2, q⟩
  · subst e1 e2
    cases r1
    obtain ⟨t, rfl⟩ := r2
    exact PySem.IntBool.sub_bool_int ⟨.int _, H, I.tok _, ⟨_, rfl⟩, q⟩
  · subst e1 e2
    cases r2
    obtain ⟨t, rfl⟩ := r1
    exact PySem.IntBool.sub_int_bool ⟨.int _, H, I.tok _, ⟨_, rfl⟩, q⟩
def dAddB : R2D := fun a b st Q => dAdd a b st Q ∨ ∃ (p : Bool) (j : Int), a = .bl p ∧ b = .int j ∧ Q (.int (b2 p + j)) st
def dSubB : R2D := fun a b st Q => dSub a b st Q ∨ (∃ (p : Bool) (j : Int), a = .bl p ∧ b = .int j ∧ Q (.int (b2 p - j)) st) ∨ ∃ (i : Int) (p : Bool), a = .int i ∧ b = .bl p ∧ Q (.int (i - b2 p)) st
def bStrB : RLD := fun ds st Q => bStr ds st Q ∨ ∃ b : Bool, ds = [.bl b] ∧ Q (.str (if b = true then "True" else "False")) st
theorem call_strB {X : Cx} : CallR X (.type "str") (fun xs H Q => (∃ i : Int, xs = [.int i] ∧ i.natAbs.log2 < 1920 ∧ Q (.str (toString i)) H) ∨ ∃ b : Bool, xs = [.bl b] ∧ Q (.str (if b = true then "True" else "False")) H) := by
  intro pins s σ H xs us Q I r h
  rcases h with h | ⟨b, e, q⟩
  · exact call_str_int pins s σ H xs us Q I r h
  · subst e
    obtain ⟨u, rfl, ru⟩ := vals1 r
    cases ru
    exact PySem.P.str_of_bool ⟨.str _, H, I.tok _, ⟨_, rfl⟩, q⟩
section
variable {K : PySem.W.Frag}
theorem z_reprM : RzL K (rReprM K) bReprM where
  mo := fun ds s Q Q' h ⟨d, e, f, q⟩ => ⟨d, e, f, h _ _ q⟩
  on := fun {H io F st vs ds Q} R nl ⟨d, e, f, q⟩ => by
    subst e
    obtain ⟨v, rfl, n⟩ := nl.one
    exact ⟨v, _, rfl, den_dpm R.sub n f.ok, f.can, by rw [py_dep]; exact f.dep, f.len, kE_now R (.str _) q⟩
theorem z_strB : RzL K (fun xs H Q => (∃ i : Int, xs = [.int i] ∧ i.natAbs.log2 < 1920 ∧ Q (.str (toString i)) H) ∨ ∃ b : Bool, xs = [.bl b] ∧ Q (.str (if b = true then "True" else "False")) H) bStrB where
  mo := fun ds s Q Q' h q => q.imp (fun q => z_str.mo (K := K) _ _ _ _ h q) fun ⟨b, e, q⟩ => ⟨b, e, h _ _ q⟩
  on := fun {H io F st vs ds Q} R nl q => by
    rcases q with q | ⟨b, e, q⟩
    · exact .inl (z_str.on R nl q)
    · subst e
      obtain ⟨v, rfl, n⟩ := nl.one
      cases n
      exact .inr ⟨b, rfl, kE_now R (.str _) q⟩
theorem z_addB {X : Cx} : Rz X.K (fun x y H Q => rAddD X.K x y H Q ∨ rAddB x y H Q) dAddB where
  mo := fun a b s Q Q' h q => q.imp (fun q => (z_add (X := X)).mo _ _ _ _ _ h q) fun ⟨p, j, e1, e2, q⟩ => ⟨p, j, e1, e2, h _ _ q⟩
  on := fun {H io F st x y a b Q} R n1 n2 q => by
    rcases q with q | ⟨p, j, e1, e2, q⟩
    · exact .inl ((z_add (X := X)).on R n1 n2 q)
    · subst e1 e2
      cases n1
      cases n2
      exact .inr ⟨p, j, rfl, rfl, kE_now R (.int _) q⟩
theorem z_subB {X : Cx} : Rz X.K (fun x y H Q => rI0 (fun i j => .int (i - j)) x y H Q ∨ rSubB x y H Q) dSubB where
  mo := fun a b s Q Q' h q => q.imp (fun q => (z_sub (X := X)).mo _ _ _ _ _ h q) fun q => q.imp (fun ⟨p, j, e1, e2, q⟩ => ⟨p, j, e1, e2, h _ _ q⟩) fun ⟨i, p, e1, e2, q⟩ => ⟨i, p, e1, e2, h _ _ q⟩
  on := fun {H io F st x y a b Q} R n1 n2 q => by
    rcases q with q | ⟨p, j, e1, e2, q⟩ | ⟨i, p, e1, e2, q⟩
    · exact .inl ((z_sub (X := X)).on R n1 n2 q)
    · subst e1 e2
      cases n1
      cases n2
      exact .inr (.inl ⟨p, j, rfl, rfl, kE_now R (.int _) q⟩)
    · subst e1 e2
      cases n1
      cases n2
      exact .inr (.inr ⟨i, p, rfl, rfl, kE_now R (.int _) q⟩)
end
end DL
namespace DL
open PySem PySem.Spec PyProof.Rows L2
variable [Bs]
abbrev DN := En → Sto → (Int → Prop) → Prop
def dnI (i : Int) : DN := fun _ _ K => K i
def dnLen (i : Nat) : DN := fun env _ K => ∃ ds, env[i]? = some (some (.tup ds)) ∧ K ds.length
section
variable {X : Cx}
/-- an expression of a number that needs nothing but what is there -/
structure QI (X : Cx) (e : Expr) (w : DN) : Prop where
  tr : ∃ t, PE X e t ∧ ∀ (σ : L2.St) (H : Hp) (env : En) (io : List Addr) (F : Hp) (st : Sto) (H' : Hp) (P : Int → Prop) (Q : VK), Rel X.K σ H env io F st → w env st P → (∀ a o, F a = some o → H' a = some o) → (∀ n, P n → Q (.int n) H') → t σ H' Q
theorem qi_int {i : Int} {j} {pos : Pos} : QI X (.Constant (.int i) j pos) (dnI i) := ⟨_, pe_int, fun _ _ _ _ _ _ _ _ _ _ h _ q => q _ h⟩
theorem qi_len {i : Nat} {x : Str} {p p' pos : Pos} (hg : Gl X "len") (hm : X.mg "len" = none) (hN : X.N[i]? = some x) (hv : Vis X.env.scope x) (hd : (x == ("__debug__" : Str)) = false := by decide) (hcd : (x == ("__classdict__" : Str)) = false := by decide) :
    QI X (.Call (.Name "len" p) [.Name x p'] [] pos) (dnLen i) := by
  refine ⟨_, pe_callB (CallR.or call_len_seq call_len_str) hg hm bb_len (pa_cons (pe_var hN hv hd hcd) pa_nil), fun σ H env io F st H' P Q R ⟨ds, e, h⟩ hs q => ?_⟩
  obtain ⟨v, h1, h2⟩ := R.slot i _ e
  refine ⟨v, h1, ?_⟩
  cases h2 with
  | @tup a xs _ s r z =>
    refine .inl ⟨_, _, rfl, .inr (SqT_mono hs s.t), ?_⟩
    rw [r.length]
    exact q _ h
def goD (env : En) (st : Sto) (P : List (Key × Int) → Prop) : List (Str × DN) → List (Key × Int) → Prop
  | [], acc => P acc
  | (k, w) :: r, acc => w env st fun n => goD env st P r (acc ++ [(.inr k, n)])
def encKI (kvs : List (Key × Int)) : List (Key × Key) := kvs.map fun x => (x.1, .inl x.2)
def wDct (kws : List (Str × DN)) : DE := fun env st Q => goD env st (fun kvs => Q (.dct (encKI kvs)) st) kws []
structure QPs (X : Cx) (pos : Pos) (keys : List (Option Expr)) (values : List Expr) (kws : List (Str × DN)) : Prop where
  len : keys.length = kws.length ∧ values.length = kws.length ∧ keys.all (·.isSome) = true
  mo : ∀ env st P P' acc, (∀ kvs, P kvs → P' kvs) → goD env st P kws acc → goD env st P' kws acc
  tr : ∃ trs, PPs X pos keys values trs ∧ ∀ (σ : L2.St) (H : Hp) (env : En) (io : List Addr) (F : Hp) (st : Sto) (H' : Hp) (P : List (Key × Int) → Prop) (Q : List (V × V) → Hp → Prop) (acc : List (Key × Int)), Rel X.K σ H env io F st → goD env st P kws acc → (∀ a o, F a = some o → H' a = some o) →
    (∀ kvs, kvs.map (·.1) = kws.map (fun x => Sum.inr x.1) → P (acc ++ kvs) → Q (kvs.map fun x => (kV x.1, .int x.2)) H') → tPairs trs σ H' Q
theorem qp_nil {pos : Pos} : QPs X pos [] [] [] := ⟨⟨rfl, rfl, rfl⟩, fun _ _ _ _ _ h q => h _ q, [], pps_nil, fun _ _ _ _ _ _ _ _ _ acc _ h _ q => q [] rfl (by rw [List.append_nil]; exact h)⟩
theorem qp_cons {pos : Pos} {k : Str} {j p} {e : Expr} {w : DN} {keys : List (Option Expr)} {values : List Expr} {kws : List (Str × DN)} (mo : ∀ env st (P P' : Int → Prop), (∀ n, P n → P' n) → w env st P → w env st P') (h : QI X e w) (t : QPs X pos keys values kws) :
    QPs X pos (some (.Constant (.str k) j p) :: keys) (e :: values) ((k, w) :: kws) := by
  obtain ⟨te, pe, he⟩ := h.tr
  obtain ⟨trs, pp, hp⟩ := t.tr
  refine ⟨⟨by simp [t.len.1], by simp [t.len.2.1], by simpa using t.len.2.2⟩, fun env st P P' acc hi q => mo _ _ _ _ (fun n q => t.mo _ _ _ _ _ hi q) q, _, pps_cons pe_str pe pp, fun σ H env io F st H' P Q acc R q hs fin => ?_⟩
  refine he σ H env io F st H' _ _ R q hs fun n qn => ?_
  refine hp σ H env io F st H' P _ _ R qn hs fun kvs ek pk => ?_
  rw [List.append_assoc] at pk
  exact fin ((.inr k, n) :: kvs) (by simp [ek]) pk
theorem mo_dnI {i : Int} : ∀ env st (P P' : Int → Prop), (∀ n, P n → P' n) → dnI i env st P → dnI i env st P' := fun _ _ _ _ h q => h _ q
theorem mo_dnLen {i : Nat} : ∀ env st (P P' : Int → Prop), (∀ n, P n → P' n) → dnLen i env st P → dnLen i env st P' := fun _ _ _ _ h ⟨ds, e, q⟩ => ⟨ds, e, h _ q⟩
theorem merge_new : ∀ (more kvs : List (Key × V)), (more.map (·.1)).Nodup → (∀ x ∈ more, ∀ y ∈ kvs, y.1 ≠ x.1) → mergeK kvs more = kvs ++ more
  | [], kvs, _, _ => by simp [mergeK]
  | x :: more, kvs, hn, hd => by
    have h1 : putK kvs x.1 x.2 = kvs ++ [x] := by
      unfold putK
      rw [if_neg]
      intro h
      obtain ⟨y, hy, e⟩ := List.any_eq_true.mp h
      exact hd x List.mem_cons_self y hy (of_decide_eq_true e)
    rw [List.map_cons, List.nodup_cons] at hn
    have ih := merge_new more (kvs ++ [x]) hn.2 fun a ha y hy => by
      rcases List.mem_append.mp hy with hy | hy
      · exact hd a (List.mem_cons_of_mem _ ha) y hy
      · rw [List.mem_singleton.mp hy]
        exact fun e => hn.1 (List.mem_map.mpr ⟨a, ha, e.symm⟩)
    show mergeK (putK kvs x.1 x.2) more = _
    rw [h1, ih, List.append_assoc]
    rfl
theorem we_dct {pos : Pos} {keys : List (Option Expr)} {values : List Expr} {kws : List (Str × DN)} (t : QPs X pos keys values kws) (h0 : kws ≠ []) (h15 : kws.length ≤ 15) (hn : (kws.map (·.1)).Nodup) : WE X (.Dict keys values pos) (wDct kws) := by
  obtain ⟨trs, pp, hp⟩ := t.tr
  refine ⟨fun _ _ _ _ h q => t.mo _ _ _ _ _ (fun _ q => h _ _ q) q, PE_imp (pe_disp pp t.len.2.2 (by rw [t.len.1, t.len.2.1]) (fun e => h0 (by have := t.len.1; rw [e] at this; exact List.eq_nil_of_length_eq_zero this.symm)) (by rw [t.len.1]; exact h15)) fun σ H Q ⟨env, io, F, st, R, q⟩ => fun p hp0 => ?_⟩
  refine hp σ H env io F st (upd H p (.dK [])) _ _ [] R q (fun a o h => by have h2 := R.sub _ _ h; rw [upd_ne (fun e => by rw [e, hp0] at h2; cases h2)]; exact h2) fun kvs ek pk => ?_
  rw [List.nil_append] at pk
  have hm : mergeK [] (kvs.map fun x => (x.1, V.int x.2)) = kvs.map fun x => (x.1, V.int x.2) := by
    rw [merge_new _ [] ?_ (fun _ _ _ h => nomatch h)]
    · rfl
    · rw [List.map_map]
      show (kvs.map fun x => x.1).Nodup
      rw [ek]
      have : (kws.map fun x => (Sum.inr x.1 : Key)) = (kws.map (·.1)).map Sum.inr := by rw [List.map_map]; rfl
      rw [this]
      exact List.Pairwise.map _ (fun a b h e => h (by cases e; rfl)) hn
  refine ⟨upd_same, kvs.map fun x => (x.1, V.int x.2), by rw [List.map_map]; rfl, ?_, ?_⟩
  · have := congrArg List.length ek
    rw [List.length_map, List.length_map] at this
    rw [List.length_map]
    omega
  · rw [hm, upd_upd]
    exact pk _ io (upd F p _) _ (Stp.laid hp0 R.sub) (R.toRelH.laid hp0) (.dct (by rw [upd_same]; unfold encKI; rw [List.map_map]; rfl))
def keyD : D → Option Key
  | .int i => some (.inl i)
  | .str x => some (.inr x)
  | _ => none
def keyV : Key → D
  | .inl i => .int i
  | .inr x => .str x
def getK (kvs : List (Key × Key)) (k : Key) : Option Key := (kvs.find? fun kv => decide (kv.1 = k)).map (·.2)
def wDGet (wa wb : DE) : DE := fun env st Q => wa env st fun a s1 => wb env s1 fun b s2 => ∃ kvs k v, a = .dct kvs ∧ keyD b = some k ∧ getK kvs k = some v ∧ Q (keyV v) s2
theorem get_val {kvs : List (Key × Key)} {k v : Key} (h : getK kvs k = some v) : valV (kvs.map fun p => (p.1, kV p.2)) k = some (kV v) := by
  unfold getK at h
  unfold valV
  rw [List.find?_map]
  cases e : kvs.find? (fun kv => decide (kv.1 = k)) with
  | none => rw [e] at h; cases h
  | some p =>
    rw [e] at h
    cases h
    have : (kvs.find? ((fun kv : Key × V => decide (kv.1 = k)) ∘ fun p => (p.1, kV p.2))) = some p := e
    rw [this]
    rfl
theorem den_key {K : PySem.W.Frag} {io : List Addr} {F : Hp} {v : V} {d : D} {k : Key} (n : Den K io F v d) (h : keyD d = some k) : v = kV k := by
  cases n <;> first | (cases h; rfl) | cases h
theorem den_kD {K : PySem.W.Frag} {io : List Addr} {F : Hp} (k : Key) : Den K io F (kV k) (keyV k) := by
  cases k with
  | inl i => exact .int i
  | inr x => exact .str x
theorem we_dget {o i : Expr} {pos : Pos} {wa wb : DE} (hu : X.A.units + 1 < cLine) (hs : NoSl i) (ha : WE X o wa) (hb : WE X i wb) : WE X (.Subscript o i pos) (wDGet wa wb) := by
  refine ⟨fun _ _ _ _ h q => ha.mo _ _ _ _ (fun _ _ q => hb.mo _ _ _ _ (fun _ _ ⟨kvs, k, v, e1, e2, e3, q⟩ => ⟨kvs, k, v, e1, e2, e3, h _ _ q⟩) q) q, PE_imp (pe_dget hu ha.pe hb.pe hs) fun σ H Q ⟨env, io, F, st, R, q⟩ => ?_⟩
  refine tE_use ha.mo R q fun d s1 v io1 F1 H1 q1 t1 R1 n1 => ?_
  refine tE_use hb.mo R1 q1 fun b s2 y io2 F2 H2 ⟨kvs, k, w, e1, e2, e3, q2⟩ t2 R2 n2 => ?_
  subst e1
  cases n1 with
  | @dct a _ hF =>
    refine ⟨a, kV w, rfl, ?_, ?_⟩
    · rw [den_key n2 e2]
      exact .inl ⟨_, k, .inl (R2.sub _ _ (t2.fr _ _ hF)), rfl, (get_val e3).symm⟩
    · exact q2 _ io2 F2 H2 (t1.trans t2) R2.toRelH (den_kD w)
def bListK : RLD := fun ds st Q => ∃ kvs, ds = [.dct kvs] ∧ kvs.length ≤ sizeLine ∧ Q (.lst (kvs.map fun p => keyV p.1)) st
theorem denKeysL {K : PySem.W.Frag} {io : List Addr} {F : Hp} : ∀ kvs : List (Key × Key), DenL K io F (kvs.map ((fun kv => kV kv.1) ∘ fun p => (p.1, kV p.2))) (kvs.map fun p => keyV p.1)
  | [] => .nil
  | x :: r => .cons (den_kD x.1) (denKeysL r)
theorem z_listK : RzL X.K rListD bListK where
  mo := fun ds s Q Q' h ⟨kvs, e, hl, q⟩ => ⟨kvs, e, hl, h _ _ q⟩
  on := fun {H io F st vs ds Q} R nl ⟨kvs, e, hl, q⟩ => by
    subst e
    obtain ⟨v, rfl, n⟩ := nl.one
    cases n with
    | @dct a _ hF =>
      refine ⟨a, _, rfl, R.sub _ _ hF, fun p hp => ?_⟩
      refine q _ io (upd F p _) _ (Stp.laid hp R.sub) (R.laid hp) (.lst upd_same ?_ (by rw [List.length_map]; exact hl))
      rw [List.map_map]
      exact denKeysL _
end
end DL
namespace PySem.SeqAt
open PySem AutoSeq1 MeetsSeq MeetsSeq2 MeetsSeq3 SeqRoads2
theorem str_eq_declines_dict (b : Str) (u : Tok) (l : Addr) (c : Value) (es : Array DictEntry) (ep : Nat) (dd : Option Addr) (sl : Array (Option Value)) :
    Meets (Builtin.«str.__eq__» ⟨[.str b u, .ref l], []⟩) (fun _ R s => s.heap.get? l = some { cls := c, dict := dd, data := .dict es ep, slots := sl } ∧ R (.ok (.ret .notImplemented)) s) :=
  .of_wp fun prog w A R s h => by obtain ⟨hp, g, d, tk, os⟩ := s; obtain ⟨hl, h⟩ := h; wp_walk using wpAny_loadPart' hl, wpAny_load hl; exact ⟨_, rfl, h⟩
theorem dict_eq_declines_str (b : Str) (u : Tok) (l : Addr) (es : Array DictEntry) (ep : Nat) (dd : Option Addr) (sl : Array (Option Value)) :
    Meets (Builtin.«dict.__eq__» ⟨[.ref l, .str b u], []⟩) (fun _ R s => s.heap.get? l = some { cls := .type "dict", dict := dd, data := .dict es ep, slots := sl } ∧ R (.ok (.ret .notImplemented)) s) :=
  .of_wp fun prog w A R s h => by obtain ⟨hp, g, d, tk, os⟩ := s; obtain ⟨hl, h⟩ := h; have f1 := F.sub_str_dict; wp_walk using wpAny_loadPart' hl, wpAny_load hl; exact ⟨_, rfl, h⟩
theorem RcAt.str_dict {A : Around} {s : Shared} {l : Addr} {o : Obj} {es : Array DictEntry} {ep : Nat} (b : Str) (u : Tok) (ho : s.heap.get? l = some o) (hc : o.cls = .type "dict") (hd : o.data = .dict es ep) (hu : A.units < cLine) : RcAt A s (.str b u) (.ref l) false := fun prog w E Q h => by
  obtain ⟨cls, dd, data, sl⟩ := o
  simp only at hc hd
  subst hc hd
  exact rc_eq_decline_or (k := false) (typeIs_str s b u) ⟨_, ho, rfl⟩ (by decide) F.sub_dict_str F.slot_str_eq F.slot_dict_eq_refl
    (fun _ hq => call_meets F.slot_str_eq (typeIs_str s b u) F.entry_str_eq (F.args_str_eq_2 _ _) (str_eq_declines_dict b u l (.type "dict") es ep dd sl) ⟨ho, hq⟩)
    (fun _ hq => call_meets F.slot_dict_eq_refl ⟨_, ho, rfl⟩ F.entry_dict_eq (F.args_dict_eq_2 _ _) (dict_eq_declines_str b u l es ep dd sl) ⟨ho, hq⟩)
    (fun _ hq => wpAny_of_eq (rfl : isSame (.str b u) (.ref l) = pure false) hq) (.inr hu) h
theorem EqAt.str_dict {A : Around} {s : Shared} {l : Addr} {o : Obj} {es : Array DictEntry} {ep : Nat} (b : Str) (u : Tok) (ho : s.heap.get? l = some o) (hc : o.cls = .type "dict") (hd : o.data = .dict es ep) (hu : A.units < cLine) : EqAt A s (.str b u) (.ref l) false := fun prog w E Q h => by
  unfold eqBool
  refine wpAny_holding ?_
  refine wpAny_ite_split (fun hab => absurd (eq_of_beq hab) nofun) (fun _ => ?_)
  exact wpAny_bind (RcAt.str_dict b u ho hc hd hu prog w E _ (wpAny_truthy_bool h))
end PySem.SeqAt
namespace DL
open PySem PySem.Spec PyProof.Rows L2
def isTxt (ws : List Str) : D → Bool
  | .str x => ws.any (· == x)
  | _ => false
def dInW (f : Bool → Bool) : R2D := fun a b st Q => ∃ ws : List Str, rd st b = .lst (ws.map .str) ∧ a.noRef ∧ Q (.bl (f (isTxt ws a))) st
/-- a thing, seen from a text -/
inductive TxV (K : PySem.W.Frag) (H : Hp) : V → (Str → Bool) → Prop
  | non : TxV K H .non fun _ => false
  | bl (b : Bool) : TxV K H (.bl b) fun _ => false
  | int (i : Int) : TxV K H (.int i) fun _ => false
  | str (x : Str) : TxV K H (.str x) fun y => y == x
  | lst {a : Addr} {xs : List V} : SqL K H a xs → TxV K H (.ref a) fun _ => false
  | tup {a : Addr} {xs : List V} : SqT K H a xs → TxV K H (.ref a) fun _ => false
  | dct {a : Addr} {kvs : List (Key × V)} : H a = some (.dK kvs) → TxV K H (.ref a) fun _ => false
theorem TxV.at {X : Cx} {A : Around} {pins : List (Addr × Obj)} {σ : L2.St} {H : Hp} {s : Shared} {x : V} {v : Value} {e : Str → Bool} (hu : A.units < cLine) (I : Inv X pins σ H s) (h : TxV X.K H x e) (r : RelV x v) (y : Str) (u : Tok) : SeqAt.EqAt A s (.str y u) v (e y) := by
  cases h with
  | non => cases (show v = Value.none from r); exact SeqAt.EqAt.str_none y u
  | bl b => cases (show v = Value.bool b from r); exact SeqAt.EqAt.str_bool y u b
  | int i => obtain ⟨t, rfl⟩ := (show ∃ t, v = Value.int i t from r); exact SeqAt.EqAt.str_int y u i t
  | str x => obtain ⟨t, rfl⟩ := (show ∃ t, v = Value.str x t from r); exact SeqAt.EqAt.str_str y u x t
  | lst h =>
    obtain ⟨its, _, p, _⟩ := I.list h
    cases (show v = Value.ref _ from r)
    exact SeqAt.EqAt.str_list y u p.isList hu
  | tup h =>
    obtain ⟨its, _, p, _⟩ := I.tuple h
    cases (show v = Value.ref _ from r)
    exact SeqAt.EqAt.str_tuple y u p hu
  | dct h =>
    obtain ⟨_, _, vs, _, o, es, ep, ho, hx, hd, _⟩ := (show ObjOk X.prog X.w H s.heap _ (.dK _) from I.hok _ _ h)
    cases (show v = Value.ref _ from r)
    exact SeqAt.EqAt.str_dict y u ho hx.1 hd hu
def rInW (K : PySem.W.Frag) (f : Bool → Bool) : R2 := fun x y H Q => ∃ (a : Addr) (ws : List Str) (e : Str → Bool), y = .ref a ∧ SqL K H a (ws.map V.str) ∧ TxV K H x e ∧ Q (.bl (f (ws.any e))) H
theorem any_strs {e : Str → Bool} {g : Value → Bool} (hg : ∀ y u, g (.str y u) = e y) : ∀ {ws : List Str} {its : List Value}, Vals (ws.map V.str) its → its.any g = ws.any e
  | [], _, .nil => rfl
  | w :: ws, _, .cons r rs => by
    obtain ⟨t, rfl⟩ := (show ∃ t, _ = Value.str w t from r)
    rw [List.any_cons, List.any_cons, hg, any_strs hg rs]
theorem mem_strs : ∀ {ws : List Str} {its : List Value}, Vals (ws.map V.str) its → ∀ y ∈ its, ∃ w t, y = .str w t
  | [], _, .nil, y, h => by cases h
  | w :: ws, _, .cons r rs, y, h => by
    rcases List.mem_cons.mp h with rfl | h
    · obtain ⟨t, rfl⟩ := (show ∃ t, _ = Value.str w t from r)
      exact ⟨w, t, rfl⟩
    · exact mem_strs rs y h
def gOf (e : Str → Bool) : Value → Bool
  | .str y _ => e y
  | _ => false
theorem op_notInW {X : Cx} (hu : X.A.units + 64 < cLine) : OpR X (compareOp .NotIn) (rInW X.K fun b => !b) := by
  intro pins s σ H x y v u Q I rx ry h
  obtain ⟨a, ws, e, rfl, hl, hx, q⟩ := h
  obtain rfl : u = Value.ref a := ry
  obtain ⟨its, rv, p, hz⟩ := I.list hl
  refine SeqAt.notIn_listAt (gOf e) p.isList (fun y hy => ?_) ⟨.bl _, H, I, ?_, q⟩
  · obtain ⟨w, t, rfl⟩ := mem_strs rv y (by simpa using hy)
    exact TxV.at (by show X.A.in1.units < cLine; have : X.A.in1.units ≤ X.A.units + 1 := by first | exact Nat.le_refl _ | simp [Around.in1]
                     omega) I hx rx w t
  · show Value.bool _ = Value.bool _
    rw [← any_strs (g := gOf e) (fun _ _ => rfl) rv]
    simp
theorem txV_den {K : PySem.W.Frag} {H : Hp} {io : List Addr} {F : Hp} {st : Sto} {v : V} {d : D} (R : RelH K H io F st) (n : Den K io F v d) (h : d.noRef) : ∃ e : Str → Bool, TxV K H v e ∧ ∀ ws : List Str, ws.any e = isTxt ws d := by
  have no : ∀ ws : List Str, (ws.any fun _ => false) = false := fun ws => by simp
  cases n with
  | non => exact ⟨_, .non, no⟩
  | bl b => exact ⟨_, .bl b, no⟩
  | int i => exact ⟨_, .int i, no⟩
  | str x => exact ⟨_, .str x, fun ws => rfl⟩
  | tup s r z => exact ⟨_, .tup (SqT_mono R.sub s.t), no⟩
  | lst s r z => exact ⟨_, .lst (SqL.of (R.sub _ _ s)), no⟩
  | scr s r z => exact ⟨_, .lst (SqL_mono R.sub s), no⟩
  | dct s => exact ⟨_, .dct (R.sub _ _ s), no⟩
  | ref _ => exact h.elim
  | fn _ _ => exact h.elim
  | exc => exact h.elim
theorem den_strs {K : PySem.W.Frag} {io : List Addr} {F : Hp} : ∀ {ws : List Str} {vs : List V}, DenL K io F vs (ws.map .str) → vs = ws.map .str
  | [], _, .nil => rfl
  | w :: ws, _, .cons a r => by cases a; rw [den_strs r]; rfl
variable [Bs]
theorem z_inW {K : PySem.W.Frag} {f : Bool → Bool} : Rz K (rInW K f) (dInW f) where
  mo := fun a b s Q Q' h ⟨ws, h1, h2, q⟩ => ⟨ws, h1, h2, h _ _ q⟩
  on := fun {H io F st x y a b Q} R n1 n2 ⟨ws, h1, h2, q⟩ => by
    obtain ⟨e, t, he⟩ := txV_den R n1 h2
    obtain ⟨p, xs, rfl, hp, hx, _⟩ := rd_lst R n2 h1
    refine ⟨p, ws, e, rfl, ?_, t, ?_⟩
    · rw [den_strs hx] at hp
      exact SqL.of hp
    · rw [he]
      exact kE_now R (.bl _) q
end DL
namespace DL
open PySem PySem.Spec PyProof.Rows L2
def rEqT (K : PySem.W.Frag) (f : Bool → Bool) : R2 := fun x y H Q => ∃ a b xs, x = .ref a ∧ y = .ref b ∧ SqT K H a xs ∧ SqT K H b [] ∧ Q (.bl (f xs.isEmpty)) H
theorem op_eqT {X : Cx} (hu : X.A.units + 64 < cLine) : OpR X (compareOp .Eq) (rEqT X.K fun b => b) := by
  intro pins s σ H x y v u Q I rx ry h
  obtain ⟨a, b, xs, rfl, rfl, h1, h2, q⟩ := h
  cases rx
  cases ry
  obtain ⟨its, hv, hp, _⟩ := I.tuple h1
  obtain ⟨its2, hv2, hp2, _⟩ := I.tuple h2
  cases hv2
  refine SeqAt.eq_tupleAt (e := fun _ => true) hp hp2 (by omega) (fun j _ h2 => by simp at h2) ⟨.bl _, H, I, ?_, q⟩
  cases hv <;> simp <;> rfl
variable [Bs]
def dEqT (f : Bool → Bool) : R2D := fun a b st Q => ∃ ds, a = .tup ds ∧ b = .tup [] ∧ Q (.bl (f ds.isEmpty)) st
theorem z_eqT {K : PySem.W.Frag} {f : Bool → Bool} : Rz K (rEqT K f) (dEqT f) where
  mo := fun a b s Q Q' h ⟨ds, h1, h2, q⟩ => ⟨ds, h1, h2, h _ _ q⟩
  on := fun {H io F st x y a b Q} R n1 n2 ⟨ds, h1, h2, q⟩ => by
    subst h1 h2
    cases n1 with
    | tup s r z => cases n2 with
      | tup s2 r2 z2 =>
        cases r2
        refine ⟨_, _, _, rfl, rfl, SqT_mono R.sub s.t, SqT_mono R.sub s2.t, ?_⟩
        rw [show ∀ {vs : List V} {ds : List D}, DenL K io F vs ds → vs.isEmpty = ds.isEmpty from fun h => by cases h <;> rfl] 
        · exact kE_now R (.bl _) q
        · exact r
theorem v_eqT {f : Bool → Bool} {ds : List D} {st : Sto} {Q : DK} : dEqT f (.tup ds) (.tup []) st Q = Q (.bl (f ds.isEmpty)) st := propext ⟨fun ⟨_, e, _, q⟩ => by cases e; exact q, fun q => ⟨_, rfl, rfl, q⟩⟩
end DL
namespace DL
open PySem PySem.Spec PyProof.Rows L2
/-- no wish looks on from here -/
instance (priority := low) : Bs := ⟨fun _ => none, [], fun _ => none⟩
def dInts (ns : List Int) : D := .tup (ns.map .int)
structure Wk where
  len : Int
  ahead : List Int
  able : List Int
def Wk.d (w : Wk) : D := .tup [.int w.len, dInts w.ahead, dInts w.able]
structure Ws where
  work : Int
  kind : Int
  day : Int
  weight : Int
  rank : Int
def Ws.d (w : Ws) : D := .tup [.int w.work, .int w.kind, .int w.day, .int w.weight, .int w.rank]
structure Sy where
  days : Int
  hands : List (List Int)
  works : List Wk
  wishes : List Ws
def Sy.d (s : Sy) : D := .tup [.int s.days, .tup (s.hands.map dInts), .tup (s.works.map Wk.d), .tup (s.wishes.map Ws.d)]
section
variable {st : Sto} {Q : DK} {env : En} {s : Sy} {w : Wk} {u : Ws} {ns : List Int}
theorem sy_ix0 : dIx s.d (.int 0) st Q = Q (.int s.days) st := by unfold Sy.d; rw [v_ixT]; simp only [at0, v_some]
theorem sy_ix1 : dIx s.d (.int 1) st Q = Q (.tup (s.hands.map dInts)) st := by unfold Sy.d; rw [v_ixT]; simp only [at1, v_some]
theorem sy_ix2 : dIx s.d (.int 2) st Q = Q (.tup (s.works.map Wk.d)) st := by unfold Sy.d; rw [v_ixT]; simp only [at2, v_some]
theorem sy_ix3 : dIx s.d (.int 3) st Q = Q (.tup (s.wishes.map Ws.d)) st := by unfold Sy.d; rw [v_ixT]; simp only [at3, v_some]
theorem sy_sl3 : dSl false s.d none (some 3) st Q = Q (.tup [.int s.days, .tup (s.hands.map dInts), .tup (s.works.map Wk.d)]) st := rfl
theorem sy_tp {gs : DGs} {Q : En → Sto → Prop} : gTp 4 gs s.d env st Q = gs [.int s.days, .tup (s.hands.map dInts), .tup (s.works.map Wk.d), .tup (s.wishes.map Ws.d)] env st Q := by unfold Sy.d; rw [v_gTp]; simp
theorem wk_ix0 : dIx w.d (.int 0) st Q = Q (.int w.len) st := by unfold Wk.d; rw [v_ixT]; simp only [at0, v_some]
theorem wk_ix1 : dIx w.d (.int 1) st Q = Q (dInts w.ahead) st := by unfold Wk.d; rw [v_ixT]; simp only [at1, v_some]
theorem wk_ix2 : dIx w.d (.int 2) st Q = Q (dInts w.able) st := by unfold Wk.d; rw [v_ixT]; simp only [at2, v_some]
theorem wk_tp {gs : DGs} {Q : En → Sto → Prop} : gTp 3 gs w.d env st Q = gs [.int w.len, dInts w.ahead, dInts w.able] env st Q := by unfold Wk.d; rw [v_gTp]; simp
theorem ws_tp {gs : DGs} {Q : En → Sto → Prop} : gTp 5 gs u.d env st Q = gs [.int u.work, .int u.kind, .int u.day, .int u.weight, .int u.rank] env st Q := by unfold Ws.d; rw [v_gTp]; simp
theorem ns_seq {R : GK} : seqI (dInts ns) st R = R (ns.map .int) (fun _ => True) st := rfl
theorem ns_len : bLen [dInts ns] st Q = Q (.int ns.length) st := by unfold dInts; rw [v_lenT, List.length_map]
theorem ns_ix {i : Int} : dIx (dInts ns) (.int i) st Q = ∃ d, atI (ns.map D.int) i = some d ∧ Q d st := v_ixT
theorem ns_rd : rd st (dInts ns) = dInts ns := rfl
theorem sy_rd : rd st s.d = s.d := rfl
theorem wk_rd : rd st w.d = w.d := rfl
theorem ws_rd : rd st u.d = u.d := rfl
end
section
variable {st : Sto} {Q : DK} {env : En} {ds : List D} {f : Bool → Bool} {c0 c1 : Cel} {i : Int}
theorem seqI_tup {R : GK} : seqI (.tup ds) st R = R ds (fun _ => True) st := rfl
theorem seqI_lst {R : GK} : seqI (.lst ds) st R = R ds (fun _ => True) st := rfl
theorem seqI_scr {R : GK} : seqI (.scr ds) st R = R ds (fun _ => True) st := rfl
theorem seqJ_tup {R : GK} : seqJ (.tup ds) st R = R ds (fun _ => True) st := rfl
theorem seqJ_lst {R : GK} : seqJ (.lst ds) st R = R ds (fun _ => True) st := rfl
theorem okL_ints : ∀ ns : List Int, D.okL (ns.map .int) = true
  | [] => rfl
  | _ :: r => by rw [List.map_cons]; simp only [D.okL, D.ok, okL_ints r, Bool.and_self]
theorem isE_eqvL : ∀ ds : List D, D.eqvL ds [] = ds.isEmpty
  | [] => by simp only [D.eqvL]; rfl
  | _ :: _ => by simp only [D.eqvL]; rfl
theorem v_eqN {a : D} (h : rd st a = .lst ds) : dEqB f a (.lst []) st Q = (D.okL ds = true ∧ Q (.bl (f ds.isEmpty)) st) := by
  rw [v_eqO (fun x e => by subst e; cases h)]
  unfold dEqO
  simp only [h, rd_lst', D.ok, D.okL, D.dep, D.depL, D.eqv, isE_eqvL, true_and]
  apply propext
  constructor
  · exact fun ⟨h1, _, q⟩ => ⟨h1, q⟩
  · exact fun ⟨h1, q⟩ => ⟨h1, by omega, q⟩
theorem v_eqNl : dEqB f (.lst ds) (.lst []) st Q = (D.okL ds = true ∧ Q (.bl (f ds.isEmpty)) st) := v_eqN rfl
theorem v_eqNt : dEqB f (.tup ds) (.tup []) st Q = (D.okL ds = true ∧ Q (.bl (f ds.isEmpty)) st) := by
  rw [v_eqO (a := .tup ds) (fun _ h => nomatch h)]
  unfold dEqO
  simp only [rd_tup', D.ok, D.okL, D.dep, D.depL, D.eqv, isE_eqvL, true_and]
  apply propext
  constructor
  · exact fun ⟨h1, _, q⟩ => ⟨h1, q⟩
  · exact fun ⟨h1, q⟩ => ⟨h1, by omega, q⟩
theorem rd_r0 : rd (.lst ds :: st) (.ref 0) = .lst ds := rfl
theorem rd_r1 : rd (c0 :: .lst ds :: st) (.ref 1) = .lst ds := rfl
theorem rd_r2 : rd (c0 :: c1 :: .lst ds :: st) (.ref 2) = .lst ds := rfl
theorem v_ixR {a : D} (h : rd st a = .lst ds) : dIx a (.int i) st Q = ∃ d, atI ds i = some d ∧ Q d st := propext ⟨fun ⟨_, e, q⟩ => by cases e; rw [h] at q; exact q, fun q => ⟨_, rfl, by rw [h]; exact q⟩⟩
theorem v_lenR {a : D} (h : rd st a = .lst ds) : bLen [a] st Q = Q (.int ds.length) st := v_len (by rw [h]; rfl)
theorem v_ix0 : dIx (.ref 0) (.int i) (.lst ds :: st) Q = ∃ d, atI ds i = some d ∧ Q d (.lst ds :: st) := v_ixR rfl
theorem v_ix1 : dIx (.ref 1) (.int i) (c0 :: .lst ds :: st) Q = ∃ d, atI ds i = some d ∧ Q d (c0 :: .lst ds :: st) := v_ixR rfl
theorem v_ix2 : dIx (.ref 2) (.int i) (c0 :: c1 :: .lst ds :: st) Q = ∃ d, atI ds i = some d ∧ Q d (c0 :: c1 :: .lst ds :: st) := v_ixR rfl
theorem v_eq0 : dEqB f (.ref 0) (.lst []) (.lst ds :: st) Q = (D.okL ds = true ∧ Q (.bl (f ds.isEmpty)) (.lst ds :: st)) := v_eqN rfl
theorem v_len0 : bLen [.ref 0] (.lst ds :: st) Q = Q (.int ds.length) (.lst ds :: st) := v_lenR rfl
theorem v_len1 : bLen [.ref 1] (c0 :: .lst ds :: st) Q = Q (.int ds.length) (c0 :: .lst ds :: st) := v_lenR rfl
theorem v_app0 {d : D} : mAppend (.ref 0) [d] (.lst ds :: st) Q = (ds.length < sizeLine ∧ Q .non (.lst (ds ++ [d]) :: st)) := v_app rfl
theorem v_app1 {d : D} : mAppend (.ref 1) [d] (c0 :: .lst ds :: st) Q = (ds.length < sizeLine ∧ Q .non (c0 :: .lst (ds ++ [d]) :: st)) := v_app rfl
theorem v_ex0 : (∃ x, D.lst ds = .lst x) = True := by simp
end
/-- increasing numbers below n -/
def Row (n : Int) (r : List Int) : Prop := r.Pairwise (· < ·) ∧ ∀ x ∈ r, 0 ≤ x ∧ x < n
structure Wk.Ok (w : Wk) (i hands length : Int) : Prop where
  len : 1 ≤ w.len ∧ w.len ≤ length
  ahead : Row i w.ahead
  able : Row hands w.able
  any : w.able ≠ []
structure Ws.Ok (w : Ws) (works days : Int) : Prop where
  work : 0 ≤ w.work ∧ w.work < works
  kind : 0 ≤ w.kind ∧ w.kind ≤ 1
  day : 0 ≤ w.day ∧ w.day ≤ days
  weight : 1 ≤ w.weight ∧ w.weight ≤ 100
  rank : 0 ≤ w.rank ∧ w.rank ≤ 3
structure Sy.Ok (s : Sy) (days hands works length wishes : Int) : Prop where
  days : 1 ≤ s.days ∧ s.days ≤ days
  hands : 1 ≤ s.hands.length ∧ s.hands.length ≤ hands
  rows : ∀ r ∈ s.hands, Row s.days r
  works : s.works.length ≤ works
  work : ∀ (i : Nat) (w : Wk), s.works[i]? = some w → w.Ok i s.hands.length length
  wishes : s.wishes.length ≤ wishes
  wish : ∀ w ∈ s.wishes, w.Ok s.works.length s.days
theorem Row.len {n : Int} : ∀ {r : List Int}, Row n r → (r.length : Int) ≤ max n 0 := by
  have key : ∀ (r : List Int) (lo : Int), r.Pairwise (· < ·) → (∀ x ∈ r, lo ≤ x ∧ x < n) → (r.length : Int) ≤ max (n - lo) 0 := fun r => by
    induction r with
    | nil => intro lo _ _; simp only [List.length_nil]; omega
    | cons a t ih =>
      intro lo hp hb
      rw [List.pairwise_cons] at hp
      have ha := hb a List.mem_cons_self
      have := ih (a + 1) hp.2 fun x hx => ⟨by have := hp.1 x hx; omega, (hb x (List.mem_cons_of_mem _ hx)).2⟩
      rw [List.length_cons]
      omega
  intro r h
  have := key r 0 h.1 h.2
  omega
structure FitN (k n : Nat) (d : D) : Prop where
  ok : d.ok = true
  sml : d.sml = true
  blk : d.blk ≤ n
  dep : d.dep ≤ k
theorem FitN.fit {k n : Nat} {d : D} (h : FitN k n d) (hk : k ≤ 60) (hn : n ≤ 1000000) : d.Fit := fit_mk h.ok h.sml (Nat.le_trans h.blk hn) (Nat.le_trans h.dep hk)
theorem FitN.mono {k n k' n' : Nat} {d : D} (h : FitN k n d) (hk : k ≤ k') (hn : n ≤ n') : FitN k' n' d := ⟨h.ok, h.sml, Nat.le_trans h.blk hn, Nat.le_trans h.dep hk⟩
structure FitL (k n : Nat) (ds : List D) : Prop where
  ok : D.okL ds = true
  sml : D.smlL ds = true
  blk : D.blkL ds ≤ n
  dep : D.depL ds ≤ k
theorem fitL_nil {k n : Nat} : FitL k n [] := ⟨rfl, rfl, Nat.zero_le _, Nat.zero_le _⟩
theorem fitL_cons {k n m : Nat} {d : D} {ds : List D} (h : FitN k n d) (t : FitL k m ds) : FitL k (n + 1 + m) (d :: ds) := by
  have h1 := h.blk
  have h2 := h.dep
  have h3 := t.blk
  have h4 := t.dep
  refine ⟨?_, ?_, ?_, ?_⟩
  · simp only [D.okL, h.ok, t.ok, Bool.and_self]
  · simp only [D.smlL, h.sml, t.sml, Bool.and_self]
  · simp only [D.blkL]; omega
  · simp only [D.depL]; omega
theorem fitL_map {α : Type} {k n : Nat} {enc : α → D} : ∀ {xs : List α}, (∀ x ∈ xs, FitN k n (enc x)) → FitL k (xs.length * (n + 1)) (xs.map enc)
  | [], _ => ⟨rfl, rfl, Nat.zero_le _, Nat.zero_le _⟩
  | x :: xs, h => by
    have h1 := fitL_cons (h x List.mem_cons_self) (fitL_map fun y hy => h y (List.mem_cons_of_mem _ hy))
    rw [List.map_cons, List.length_cons, Nat.succ_mul, Nat.add_comm]
    exact h1
theorem fit_tup {k n : Nat} {ds : List D} (h : FitL k n ds) : FitN (k + 1) n (.tup ds) := ⟨by simp only [D.ok, h.ok], by simp only [D.sml, h.sml], by simp only [D.blk]; exact h.blk, by simp only [D.dep]; have := h.dep; omega⟩
theorem fit_int {k n : Nat} {i : Int} (h : -1000000000 ≤ i ∧ i ≤ 100000000000) : FitN k n (.int i) := ⟨rfl, by simp only [D.sml, decide_eq_true_eq]; omega, Nat.zero_le _, Nat.zero_le _⟩
theorem fit_ints {k n : Nat} {ns : List Int} (h : ∀ x ∈ ns, -1000000000 ≤ x ∧ x ≤ 100000000000) (hn : ns.length ≤ n) : FitN (k + 1) n (dInts ns) :=
  (fit_tup (fitL_map (n := 0) (k := k) fun x hx => fit_int (h x hx))).mono (Nat.le_refl _) (by omega)
theorem fit_row {k n : Nat} {b : Int} {ns : List Int} (h : Row b ns) (hb : b ≤ n) (hb2 : b ≤ 1000000) (hlen : (ns.length : Int) ≤ max b 0) : FitN (k + 1) n (dInts ns) :=
  fit_ints (fun x hx => by have := h.2 x hx; omega) (by omega)
def Dk (B : Int) (rest st : Sto) : Prop := ∃ (ds cs : List Int) (t : Int), st = .lst (ds.map .int) :: .lst (cs.map .int) :: .lst [.ref 0, .ref 1, .int t] :: rest ∧
  (∀ x ∈ ds, 0 ≤ x ∧ x < 2147483629) ∧ (∀ x ∈ cs, 0 ≤ x ∧ x < 2147483629) ∧ cs ≠ [] ∧ ds.length ≤ 2000 ∧ cs.length ≤ 2000 ∧ 0 ≤ t ∧ t ≤ B
theorem Dk.mono {B B' : Int} {rest st : Sto} (h : Dk B rest st) (hb : B ≤ B') : Dk B' rest st := by
  obtain ⟨ds, cs, t, e, h1, h2, h3, h4, h5, h6, h7⟩ := h
  exact ⟨ds, cs, t, e, h1, h2, h3, h4, h5, h6, by omega⟩
theorem fit_wk {w : Wk} {i h l : Int} (o : w.Ok i h l) (hi : i ≤ 900) (hh : h ≤ 900) (hl : l ≤ 900) : FitN 2 2000 w.d := by
  have h1 := o.ahead.len
  have h2 := o.able.len
  have h3 := o.len
  exact (fit_tup (fitL_cons (n := 0) (fit_int (by omega)) (fitL_cons (fit_row (k := 0) (n := 900) o.ahead hi (by omega) h1) (fitL_cons (fit_row (n := 900) o.able hh (by omega) h2) (fitL_nil (n := 0)))))).mono (Nat.le_refl _) (by omega)
theorem fit_ws {w : Ws} {n h : Int} (o : w.Ok n h) (hn : n ≤ 900) (hh : h ≤ 900) : FitN 1 10 w.d := by
  have h1 := o.work
  have h2 := o.kind
  have h3 := o.day
  have h4 := o.weight
  have h5 := o.rank
  exact (fit_tup (k := 0) (fitL_cons (n := 0) (fit_int (by omega)) (fitL_cons (n := 0) (fit_int (by omega)) (fitL_cons (n := 0) (fit_int (by omega)) (fitL_cons (n := 0) (fit_int (by omega)) (fitL_cons (n := 0) (fit_int (by omega)) (fitL_nil (n := 0)))))))).mono (Nat.le_refl _) (by omega)
end DL
namespace DL.M
open PySem PySem.Spec PyProof.Rows L2
local macro_rules
  | `(tactic| simp? only [$as,*] $[$loc]?) => `(tactic| simp only [$as,*, v_eqE, wComp, wipeE, wFor, wIsi, iEnum, iZip, zipI_tup, zipI_lst, zipI_lt, zipI_tl, seqJ_tup, seqJ_lst, v_app0, v_app1, v_eqNl, v_eqNt, rd_r0, rd_r1, rd_r2, v_ix0, v_ix1, v_ix2, v_eq0, v_len0, v_len1, v_ex0, v_mulS, wRevA, v_revT, v_revL, wRgL1, wRgL2, wRgT1, wRgT2, v_rgx1, v_rgx2, sy_ix0, sy_ix1, sy_ix2, sy_ix3, sy_sl3, sy_tp, wk_ix0, wk_ix1, wk_ix2, wk_tp, ws_tp, ns_seq, ns_len, ns_ix, ns_rd, sy_rd, wk_rd, ws_rd, wSeq, wAsg, wRet, wIf, wDrop, wOp, wCons, wNil, wTup, wLst, wCB, wCall, wTest, wAnd, wOr, wNot, wNotV, wAndV, wOrV, wChain, wNeg, wC, wM, wSl, oNo, oPart, iSeq, seqI_tup, seqI_lst, seqI_scr, v_rg1, v_rg2, gNm, v_gTp, v_gCn, v_gNl, v_var0, v_varS, v_sub, v_mod, v_fdiv, v_pow, v_iadd, v_add, v_addT, v_addL, v_mul, v_lt, v_le, v_gt, v_ge, v_eqi, v_ixT, v_ixL, v_ixS, v_lenT, v_lenL, v_lenS, v_abs, v_min2, v_max2, v_intI, v_intB, v_tupl, v_tupT, v_bl, v_in, v_some, v_newT, v_newF, startE, rd_int', rd_bl', rd_str', rd_tup', rd_lst', rd_scr', rd_non', at0, at1, at2, at3, at4, List.map_cons, List.map_nil, List.length_cons, List.length_nil, List.length_map, List.replicate_succ, List.replicate_zero, Nat.reduceSub, Nat.reduceAdd, List.cons_append, List.nil_append, List.set_cons_zero, List.set_cons_succ, List.getElem?_cons_zero, List.getElem?_cons_succ, Bool.not_true, Bool.not_false, if_true, if_false, Bool.false_eq_true, reduceCtorEq, true_and, and_true, bodyEnds, Nat.zero_add, decide_eq_true_eq] $[$loc]?)
  | `(tactic| simp?! only [$as,*] $[$loc]?) => `(tactic| simp only [$as,*, v_eqE, wComp, wipeE, wFor, wIsi, iEnum, iZip, zipI_tup, zipI_lst, zipI_lt, zipI_tl, seqJ_tup, seqJ_lst, v_app0, v_app1, v_eqNl, v_eqNt, rd_r0, rd_r1, rd_r2, v_ix0, v_ix1, v_ix2, v_eq0, v_len0, v_len1, v_ex0, v_mulS, wRevA, v_revT, v_revL, wRgL1, wRgL2, wRgT1, wRgT2, v_rgx1, v_rgx2, sy_ix0, sy_ix1, sy_ix2, sy_ix3, sy_sl3, sy_tp, wk_ix0, wk_ix1, wk_ix2, wk_tp, ws_tp, ns_seq, ns_len, ns_ix, ns_rd, sy_rd, wk_rd, ws_rd, wAsg, wRet, wIf, wDrop, wOp, wCons, wNil, wTup, wLst, wCB, wCall, wTest, wAnd, wOr, wNot, wNotV, wAndV, wOrV, wChain, wNeg, wC, wM, wSl, oNo, oPart, iSeq, seqI_tup, seqI_lst, seqI_scr, v_rg1, v_rg2, gNm, v_gTp, v_gCn, v_gNl, v_var0, v_varS, v_sub, v_mod, v_fdiv, v_pow, v_iadd, v_add, v_addT, v_addL, v_mul, v_lt, v_le, v_gt, v_ge, v_eqi, v_ixT, v_ixL, v_ixS, v_lenT, v_lenL, v_lenS, v_abs, v_min2, v_max2, v_intI, v_intB, v_tupl, v_tupT, v_bl, v_in, v_some, v_newT, v_newF, startE, rd_int', rd_bl', rd_str', rd_tup', rd_lst', rd_scr', rd_non', at0, at1, at2, at3, at4, List.map_cons, List.map_nil, List.length_cons, List.length_nil, List.length_map, List.replicate_succ, List.replicate_zero, Nat.reduceSub, Nat.reduceAdd, List.cons_append, List.nil_append, List.set_cons_zero, List.set_cons_succ, List.getElem?_cons_zero, List.getElem?_cons_succ, Bool.not_true, Bool.not_false, if_true, if_false, Bool.false_eq_true, reduceCtorEq, true_and, and_true, bodyEnds, Nat.zero_add, decide_eq_true_eq] $[$loc]?)
def w_f_law_deck_1 : DT := wAnd (wTest (wOp dGe (wVar 3) (wOp dPow (wC (.int 10)) (wC (.int 18))))) (wTest (wOp dLt (wCB bLen (wCons (wVar 1) (wNil))) (wC (.int 900))))
def w_f_law_deck_2 : DS := wSeq (wDrop (wM mAppend (wVar 1) (wCons (wOp dMod (wVar 3) (wC (.int 2147483629))) (wNil)))) (wAsg (wOp dFdiv (wVar 3) (wC (.int 2147483629))) (gNm 3))
def w_f_law_deck_3 : DS := wSeq (wAsg (wCB bAbs (wCons (wVar 3) (wNil))) (gNm 3)) (wSeq (wDrop (wM mAppend (wVar 2) (wCons (wOp dMod (wVar 3) (wC (.int 2147483629))) (wNil)))) (wWhile w_f_law_deck_1 w_f_law_deck_2))
def w_f_law_deck : DS := wSeq (wAsg (wLst true (wNil)) (gNm 1)) (wSeq (wAsg (wLst true (wCons (wCB bLen (wCons (wVar 0) (wNil))) (wNil))) (gNm 2)) (wSeq (wFor (iSeq (wSl false (wVar 0) oNo (oPart (wC (.int 60))))) (gNm 3) w_f_law_deck_3) (wRet (wLst true (wCons (wVar 1) (wCons (wVar 2) (wCons (wC (.int 0)) (wNil))))))))
def S_f_law_deck : DL.Spec := ⟨1, List Int, fun ns => [.scr (ns.map .int)], fun ns st => ns.length ≤ 63 ∧ st = [], fun _ _ d st' => d = .ref 2 ∧ Dk 0 [] st'⟩
def goodM (ns : List Int) : Prop := ∀ x ∈ ns, 0 ≤ x ∧ x < 2147483629
theorem goodM.snoc {ns : List Int} {x : Int} (h : goodM ns) (h0 : 0 ≤ x) (h1 : x < 2147483629) : goodM (ns ++ [x]) := fun y hy => by
  rcases List.mem_append.mp hy with z | z
  · exact h y z
  · simp at z; subst z; exact ⟨h0, h1⟩
theorem cut60 (ns : List Int) : cutL (ns.map D.int) none (some 60) = (ns.take 60).map D.int := by
  have e1 : HT.sIx (ns.map D.int).length 0 none = 0 := rfl
  have e2 : HT.sIx (ns.map D.int).length (ns.map D.int).length (some 60) = min 60 ns.length := by rw [List.length_map]; exact HT.sIx_nat ns.length ns.length 60
  unfold cutL
  rw [e1, e2, List.drop_zero, Nat.sub_zero, List.map_take]
  rcases Nat.le_total 60 ns.length with h | h
  · rw [Nat.min_eq_left h]
  · rw [Nat.min_eq_right h, List.take_of_length_le (by rw [List.length_map]; omega), List.take_of_length_le (by rw [List.length_map]; omega)]
theorem vc_f_law_deck : ∀ g sto, (S_f_law_deck.args g).length = S_f_law_deck.n → S_f_law_deck.pre g sto → w_f_law_deck (bodyEnds (S_f_law_deck.post g sto)) (startE ["_law_script", "_law_digits", "_law_cells", "_law_cell"] (S_f_law_deck.args g)) sto := by
  rintro (ns : List Int) sto _ ⟨hl, rfl⟩
  have z3 : 3 ≤ sizeLine := by decide
  simp? only [w_f_law_deck, S_f_law_deck, wFor, dSl]
  refine ⟨Nat.zero_le _, by omega, ?_⟩
  have ec : cutL (ns.map D.int) none (some 60) = (ns.take 60).map D.int := cut60 ns
  rw [ec]
  refine forL_inv (fun i e s => ∃ x3 ds cs, e = [some (.scr (ns.map .int)), some (.ref 0), some (.ref 1), x3] ∧ s = [.lst (ds.map .int), .lst (cs.map .int)] ∧ goodM ds ∧ goodM cs ∧ ds.length ≤ 900 ∧ cs.length = i + 1) ?_ ?_ _ _ ?_
  · rintro i env st d ⟨x3, ds, cs, rfl, rfl, gd, gc, ld, lc⟩ hd R hR
    refine ⟨trivial, ?_⟩
    obtain ⟨hi, hd⟩ := List.getElem?_eq_some_iff.mp hd
    rw [List.getElem_map] at hd
    subst hd
    generalize (ns.take 60)[i]'_ = c0
    simp only [w_f_law_deck_3, v_eqE, wComp, wipeE, wFor, wIsi, iEnum, iZip, zipI_tup, zipI_lst, zipI_lt, zipI_tl, seqJ_tup, seqJ_lst, v_app0, v_app1, v_eqNl, v_eqNt, rd_r0, rd_r1, rd_r2, v_ix0, v_ix1, v_ix2, v_eq0, v_len0, v_len1, v_ex0, v_mulS, wRevA, v_revT, v_revL, wRgL1, wRgL2, wRgT1, wRgT2, v_rgx1, v_rgx2, sy_ix0, sy_ix1, sy_ix2, sy_ix3, sy_sl3, sy_tp, wk_ix0, wk_ix1, wk_ix2, wk_tp, ws_tp, ns_seq, ns_len, ns_ix, ns_rd, sy_rd, wk_rd, ws_rd, wSeq, wAsg, wRet, wIf, wDrop, wOp, wCons, wNil, wTup, wLst, wCB, wCall, wTest, wAnd, wOr, wNot, wNotV, wAndV, wOrV, wChain, wNeg, wC, wM, wSl, oNo, oPart, iSeq, seqI_tup, seqI_lst, seqI_scr, v_rg1, v_rg2, gNm, v_gTp, v_gCn, v_gNl, v_var0, v_varS, v_sub, v_mod, v_fdiv, v_pow, v_iadd, v_add, v_addT, v_addL, v_mul, v_lt, v_le, v_gt, v_ge, v_eqi, v_ixT, v_ixL, v_ixS, v_lenT, v_lenL, v_lenS, v_abs, v_min2, v_max2, v_intI, v_intB, v_tupl, v_tupT, v_bl, v_in, v_some, v_newT, v_newF, startE, rd_int', rd_bl', rd_str', rd_tup', rd_lst', rd_scr', rd_non', at0, at1, at2, at3, at4, List.map_cons, List.map_nil, List.length_cons, List.length_nil, List.length_map, List.replicate_succ, List.replicate_zero, Nat.reduceSub, Nat.reduceAdd, List.cons_append, List.nil_append, List.set_cons_zero, List.set_cons_succ, List.getElem?_cons_zero, List.getElem?_cons_succ, Bool.not_true, Bool.not_false, if_true, if_false, Bool.false_eq_true, reduceCtorEq, true_and, and_true, bodyEnds, Nat.zero_add, decide_eq_true_eq, wM, rd_r1, v_ex0, v_abs, v_app1, List.length_map]
    have hi' := hi
    rw [List.length_map, List.length_take] at hi'
    refine ⟨by decide, by rw [lc, sizeLine_eq]; omega, ?_⟩
    have hc : 0 ≤ (if c0 < 0 then -c0 else c0) := by split <;> omega
    generalize (if c0 < 0 then -c0 else c0) = c at hc
    obtain ⟨k, hk⟩ : ∃ k, k = c % 2147483629 := ⟨_, rfl⟩
    rw [← hk]
    have hm : 0 ≤ k ∧ k < 2147483629 := by omega
    refine ⟨fun m e s => ∃ c ds, m = Int.toNat c ∧ 0 ≤ c ∧ e = [some (.scr (ns.map .int)), some (.ref 0), some (.ref 1), some (.int c)] ∧ s = [.lst (ds.map .int), .lst ((cs ++ [k]).map .int)] ∧ goodM ds ∧ ds.length ≤ 900, ?_, ?_⟩
    · exact ⟨_, c, ds, rfl, hc, rfl, by simp, gd, ld⟩
    · rintro m e s ⟨c, ds, rfl, hc, rfl, rfl, gd, ld⟩
      simp? only [w_f_law_deck_1]
      refine ⟨by decide, ?_⟩
      by_cases hg : (10 : Int) ^ (18 : Int).toNat ≤ c
      · by_cases hl : (ds.length : Int) < 900
        · simp only [hg, hl, decide_true, v_eqE, wComp, wipeE, wFor, wIsi, iEnum, iZip, zipI_tup, zipI_lst, zipI_lt, zipI_tl, seqJ_tup, seqJ_lst, v_app0, v_app1, v_eqNl, v_eqNt, rd_r0, rd_r1, rd_r2, v_ix0, v_ix1, v_ix2, v_eq0, v_len0, v_len1, v_ex0, v_mulS, wRevA, v_revT, v_revL, wRgL1, wRgL2, wRgT1, wRgT2, v_rgx1, v_rgx2, sy_ix0, sy_ix1, sy_ix2, sy_ix3, sy_sl3, sy_tp, wk_ix0, wk_ix1, wk_ix2, wk_tp, ws_tp, ns_seq, ns_len, ns_ix, ns_rd, sy_rd, wk_rd, ws_rd, wSeq, wAsg, wRet, wIf, wDrop, wOp, wCons, wNil, wTup, wLst, wCB, wCall, wTest, wAnd, wOr, wNot, wNotV, wAndV, wOrV, wChain, wNeg, wC, wM, wSl, oNo, oPart, iSeq, seqI_tup, seqI_lst, seqI_scr, v_rg1, v_rg2, gNm, v_gTp, v_gCn, v_gNl, v_var0, v_varS, v_sub, v_mod, v_fdiv, v_pow, v_iadd, v_add, v_addT, v_addL, v_mul, v_lt, v_le, v_gt, v_ge, v_eqi, v_ixT, v_ixL, v_ixS, v_lenT, v_lenL, v_lenS, v_abs, v_min2, v_max2, v_intI, v_intB, v_tupl, v_tupT, v_bl, v_in, v_some, v_newT, v_newF, startE, rd_int', rd_bl', rd_str', rd_tup', rd_lst', rd_scr', rd_non', at0, at1, at2, at3, at4, List.map_cons, List.map_nil, List.length_cons, List.length_nil, List.length_map, List.replicate_succ, List.replicate_zero, Nat.reduceSub, Nat.reduceAdd, List.cons_append, List.nil_append, List.set_cons_zero, List.set_cons_succ, List.getElem?_cons_zero, List.getElem?_cons_succ, Bool.not_true, Bool.not_false, if_true, if_false, Bool.false_eq_true, reduceCtorEq, true_and, and_true, bodyEnds, Nat.zero_add, decide_eq_true_eq, w_f_law_deck_2, wM]
          refine ⟨by decide, by rw [sizeLine_eq]; omega, ⟨by decide, by decide⟩, _, ?_, c / 2147483629, ds ++ [c % 2147483629], rfl, by omega, rfl, by simp, gd.snoc (by omega) (by omega), by simp; omega⟩
          have : (10 : Int) ^ (18 : Int).toNat = 1000000000000000000 := by decide
          omega
        · simp? only [hg, hl, decide_true, decide_false]
          exact hR _ _ ⟨_, ds, cs ++ [k], rfl, rfl, gd, gc.snoc hm.1 hm.2, ld, by simp; omega⟩
      · simp? only [hg, decide_false]
        exact hR _ _ ⟨_, ds, cs ++ [k], rfl, rfl, gd, gc.snoc hm.1 hm.2, ld, by simp; omega⟩
  · rintro env st ⟨x3, ds, cs, rfl, rfl, gd, gc, ld, lc⟩
    refine ⟨trivial, ?_⟩
    simp? only [true_and]
    refine ⟨z3, ds, cs, 0, rfl, gd, gc, ?_, by omega, ?_, by decide, by decide⟩
    · intro e; rw [e] at lc; simp at lc
    · rw [List.length_map, List.length_take] at lc; omega
  · refine ⟨none, [], [((ns.length : Nat) : Int)], rfl, rfl, fun _ h => (nomatch h), ?_, by simp, rfl⟩
    intro x hx
    rw [List.mem_singleton] at hx
    rw [hx]
    omega
theorem v_pop0 {rest : Sto} {Q : DK} {x : D} {ds : List D} : mPopAt (.ref 0) [.int 0] (.lst (x :: ds) :: rest) Q = Q x (.lst ds :: rest) := by
  have e0 : ixN (x :: ds).length 0 = some 0 := by simp [ixN]
  apply propext
  constructor
  · rintro ⟨n, es, i, k, y, e1, e2, e3, _, _, e4, e5, q⟩
    cases e1
    cases e2
    cases e3
    rw [e0] at e4
    cases e4
    cases e5
    exact q
  · exact fun q => ⟨0, x :: ds, 0, 0, x, rfl, rfl, rfl, by decide, by decide, e0, rfl, q⟩
theorem v_gset2 {rest : Sto} {c0 c1 : Cel} {x y z d : D} {env : En} {Q : En → Sto → Prop} : gSet (wVar 0) (wC (.int 2)) d (some (.ref 2) :: env) (c0 :: c1 :: .lst [x, y, z] :: rest) Q = Q (some (.ref 2) :: env) (c0 :: c1 :: .lst [x, y, d] :: rest) := by
  apply propext
  constructor
  · rintro ⟨o, e0, n, es, i, k, e1, e2, e3, e4, q⟩
    cases e0
    cases e1
    cases e2
    cases e3
    cases e4
    exact q
  · exact fun q => ⟨_, rfl, 2, _, 2, 2, rfl, rfl, rfl, rfl, q⟩
def w_f_law_next : DS := wSeq (wIf (wTest (wOp dNe (wOp dIx (wVar 0) (wC (.int 0))) (wLst false (wNil)))) (wRet (wM mPopAt (wOp dIx (wVar 0) (wC (.int 0))) (wCons (wC (.int 0)) (wNil)))) ((fun D env st => D.nx env st))) (wSeq (wAsg (wOp dIx (wVar 0) (wC (.int 2))) (gNm 1)) (wSeq (wAsg (wOp dAdd (wVar 1) (wC (.int 1))) (gSet (wVar 0) (wC (.int 2)))) (wSeq (wAsg (wTup (wCons (wC (.int 48271)) (wCons (wC (.int 69621)) (wCons (wC (.int 16807)) (wCons (wC (.int 39373)) (wCons (wC (.int 30323)) (wCons (wC (.int 51749)) (wCons (wC (.int 44417)) (wCons (wC (.int 27449)) (wCons (wC (.int 63073)) (wCons (wC (.int 55001)) (wCons (wC (.int 33791)) (wCons (wC (.int 40009)) (wNil)))))))))))))) (gNm 2)) (wSeq (wAsg (wOp dAdd (wOp dIx (wOp dIx (wVar 0) (wC (.int 1))) (wOp dMod (wOp dAdd (wVar 1) (wC (.int 1))) (wCB bLen (wCons (wOp dIx (wVar 0) (wC (.int 1))) (wNil))))) (wOp dMul (wC (.int 7)) (wVar 1))) (gNm 3)) (wSeq (wAsg (wOp dMod (wOp dPow (wOp dAdd (wVar 3) (wOp dMul (wOp dIx (wVar 2) (wOp dMod (wVar 1) (wC (.int 12)))) (wOp dAdd (wVar 1) (wC (.int 1))))) (wC (.int 5))) (wC (.int 2147483647))) (gNm 4)) (wRet (wOp dMod (wOp dAdd (wVar 4) (wOp dMul (wOp dIx (wVar 2) (wOp dMod (wOp dAdd (wVar 1) (wC (.int 5))) (wC (.int 12)))) (wVar 3))) (wC (.int 2147483629)))))))))
def S_f_law_next : DL.Spec := ⟨1, Sto × Int, fun _ => [.ref 2], fun (r, B) st => Dk B r st ∧ B < 2 ^ 40, fun (r, B) _ d st' => ∃ x, d = .int x ∧ 0 ≤ x ∧ x < 2147483629 ∧ Dk (B + 1) r st'⟩
def primes : List Int := [48271, 69621, 16807, 39373, 30323, 51749, 44417, 27449, 63073, 55001, 33791, 40009]
theorem prime_at {i : Int} (h0 : 0 ≤ i) (h1 : i < 12) : ∃ p, atI (primes.map D.int) i = some (.int p) ∧ 0 ≤ p ∧ p < 100000 := by
  have key : ∀ k : Fin 12, ∃ p, primes[k.val]? = some p ∧ 0 ≤ p ∧ p < 100000 := by
    intro k
    have hk : k.val < primes.length := k.isLt
    have all : ∀ x ∈ primes, 0 ≤ x ∧ x < 100000 := by decide
    exact ⟨_, List.getElem?_eq_getElem hk, all _ (List.getElem_mem hk)⟩
  obtain ⟨p, h2, h3⟩ := key ⟨i.toNat, by omega⟩
  exact ⟨p, atI_map (atI_of h0 h2), h3⟩
theorem vc_f_law_next : ∀ g sto, (S_f_law_next.args g).length = S_f_law_next.n → S_f_law_next.pre g sto → w_f_law_next (bodyEnds (S_f_law_next.post g sto)) (startE ["_law_deck_here", "_law_at", "_law_primes", "_law_cell", "_law_mixed"] (S_f_law_next.args g)) sto := by
  rintro ⟨rest, B⟩ sto _ ⟨⟨ds, cs, t, rfl, gd, gc, ne, l1, l2, t0, t1⟩, hB⟩
  have z12 : 12 ≤ sizeLine := by decide
  simp? only [w_f_law_next, S_f_law_next, v_gset2]
  refine ⟨Nat.zero_le _, okL_ints _, ?_⟩
  cases ds with
  | cons x ds =>
    simp only [v_eqE, wComp, wipeE, wFor, wIsi, iEnum, iZip, zipI_tup, zipI_lst, zipI_lt, zipI_tl, seqJ_tup, seqJ_lst, v_app0, v_app1, v_eqNl, v_eqNt, rd_r0, rd_r1, rd_r2, v_ix0, v_ix1, v_ix2, v_eq0, v_len0, v_len1, v_ex0, v_mulS, wRevA, v_revT, v_revL, wRgL1, wRgL2, wRgT1, wRgT2, v_rgx1, v_rgx2, sy_ix0, sy_ix1, sy_ix2, sy_ix3, sy_sl3, sy_tp, wk_ix0, wk_ix1, wk_ix2, wk_tp, ws_tp, ns_seq, ns_len, ns_ix, ns_rd, sy_rd, wk_rd, ws_rd, wSeq, wAsg, wRet, wIf, wDrop, wOp, wCons, wNil, wTup, wLst, wCB, wCall, wTest, wAnd, wOr, wNot, wNotV, wAndV, wOrV, wChain, wNeg, wC, wM, wSl, oNo, oPart, iSeq, seqI_tup, seqI_lst, seqI_scr, v_rg1, v_rg2, gNm, v_gTp, v_gCn, v_gNl, v_var0, v_varS, v_sub, v_mod, v_fdiv, v_pow, v_iadd, v_add, v_addT, v_addL, v_mul, v_lt, v_le, v_gt, v_ge, v_eqi, v_ixT, v_ixL, v_ixS, v_lenT, v_lenL, v_lenS, v_abs, v_min2, v_max2, v_intI, v_intB, v_tupl, v_tupT, v_bl, v_in, v_some, v_newT, v_newF, startE, rd_int', rd_bl', rd_str', rd_tup', rd_lst', rd_scr', rd_non', at0, at1, at2, at3, at4, List.map_cons, List.map_nil, List.length_cons, List.length_nil, List.length_map, List.replicate_succ, List.replicate_zero, Nat.reduceSub, Nat.reduceAdd, List.cons_append, List.nil_append, List.set_cons_zero, List.set_cons_succ, List.getElem?_cons_zero, List.getElem?_cons_succ, Bool.not_true, Bool.not_false, if_true, if_false, Bool.false_eq_true, reduceCtorEq, true_and, and_true, bodyEnds, Nat.zero_add, decide_eq_true_eq, List.isEmpty, v_pop0]
    have := gd x List.mem_cons_self
    exact ⟨this.1, this.2, ds, cs, t, rfl, fun y hy => gd y (List.mem_cons_of_mem _ hy), gc, ne, by simp at l1; omega, l2, t0, by omega⟩
  | nil =>
    simp only [v_eqE, wComp, wipeE, wFor, wIsi, iEnum, iZip, zipI_tup, zipI_lst, zipI_lt, zipI_tl, seqJ_tup, seqJ_lst, v_app0, v_app1, v_eqNl, v_eqNt, rd_r0, rd_r1, rd_r2, v_ix0, v_ix1, v_ix2, v_eq0, v_len0, v_len1, v_ex0, v_mulS, wRevA, v_revT, v_revL, wRgL1, wRgL2, wRgT1, wRgT2, v_rgx1, v_rgx2, sy_ix0, sy_ix1, sy_ix2, sy_ix3, sy_sl3, sy_tp, wk_ix0, wk_ix1, wk_ix2, wk_tp, ws_tp, ns_seq, ns_len, ns_ix, ns_rd, sy_rd, wk_rd, ws_rd, wSeq, wAsg, wRet, wIf, wDrop, wOp, wCons, wNil, wTup, wLst, wCB, wCall, wTest, wAnd, wOr, wNot, wNotV, wAndV, wOrV, wChain, wNeg, wC, wM, wSl, oNo, oPart, iSeq, seqI_tup, seqI_lst, seqI_scr, v_rg1, v_rg2, gNm, v_gTp, v_gCn, v_gNl, v_var0, v_varS, v_sub, v_mod, v_fdiv, v_pow, v_iadd, v_add, v_addT, v_addL, v_mul, v_lt, v_le, v_gt, v_ge, v_eqi, v_ixT, v_ixL, v_ixS, v_lenT, v_lenL, v_lenS, v_abs, v_min2, v_max2, v_intI, v_intB, v_tupl, v_tupT, v_bl, v_in, v_some, v_newT, v_newF, startE, rd_int', rd_bl', rd_str', rd_tup', rd_lst', rd_scr', rd_non', at0, at1, at2, at3, at4, List.map_cons, List.map_nil, List.length_cons, List.length_nil, List.length_map, List.replicate_succ, List.replicate_zero, Nat.reduceSub, Nat.reduceAdd, List.cons_append, List.nil_append, List.set_cons_zero, List.set_cons_succ, List.getElem?_cons_zero, List.getElem?_cons_succ, Bool.not_true, Bool.not_false, if_true, if_false, Bool.false_eq_true, reduceCtorEq, true_and, and_true, bodyEnds, Nat.zero_add, decide_eq_true_eq, List.isEmpty, v_gset2]
    have hl : 0 < cs.length := List.length_pos_iff.mpr ne
    refine ⟨z12, by omega, ?_⟩
    obtain ⟨c, hc⟩ : ∃ c, cs[((t + 1) % (cs.length : Int)).toNat]? = some c := ⟨_, List.getElem?_eq_getElem (by
      have := Int.emod_lt_of_pos (t + 1) (show (0 : Int) < cs.length by omega)
      have := Int.emod_nonneg (t + 1) (show (cs.length : Int) ≠ 0 by omega)
      omega)⟩
    have hc1 := gc c (List.mem_of_getElem? hc)
    obtain ⟨p1, hp1, q1⟩ := prime_at (i := t % 12) (by omega) (by omega)
    obtain ⟨p2, hp2, q2⟩ := prime_at (i := (t + 5) % 12) (by omega) (by omega)
    simp only [primes, List.map_cons, List.map_nil] at hp1 hp2
    refine ⟨_, atI_map (atI_of (Int.emod_nonneg _ (by omega)) hc), ?_⟩
    simp? only [hp1, hp2]
    have m1 : p1 * (t + 1) ≤ 100000 * (2 ^ 40 + 1) := Int.mul_le_mul (by omega) (by omega) (by omega) (by decide)
    have m2 : 0 ≤ p1 * (t + 1) := Int.mul_nonneg q1.1 (by omega)
    refine ⟨.inl ⟨by decide, by decide⟩, by decide, .inl ⟨by omega, by omega⟩, ⟨by decide, by decide, ?_⟩, by decide, by decide, .inl ⟨by omega, by omega⟩, by decide, Int.emod_nonneg _ (by decide), Int.emod_lt_of_pos _ (by decide), [], cs, t + 1, rfl, gd, gc, ne, l1, l2, by omega, by omega⟩
    generalize p1 * (t + 1) = m at m1 m2
    omega
/-- the next number is asked -/
theorem next_use {B : Int} {rest st : Sto} {Q : DK} (h : Dk B rest st) (hb : B < 2 ^ 40) (q : ∀ x st', 0 ≤ x → x < 2147483629 → Dk (B + 1) rest st' → Q (.int x) st') :
    ∃ g, [D.ref 2] = S_f_law_next.args g ∧ (S_f_law_next.args g).length = S_f_law_next.n ∧ S_f_law_next.pre g st ∧ ∀ d s2, S_f_law_next.post g st d s2 → Q d s2 :=
  ⟨(rest, B), rfl, rfl, ⟨h, hb⟩, fun d s2 ⟨x, e, h0, h1, h2⟩ => by subst e; exact q x s2 h0 h1 h2⟩
def w_f_law_rows_of_1 : DT := wTest (wOp dEq (wOp dMod (wCall S_f_law_next (wCons (wVar 0) (wNil))) (wVar 2)) (wC (.int 0)))
def w_f_law_rows_of : DS := wRet (wCB bTuple (wCons (wComp false (iRange1 (wCons (wOp dAdd (wVar 1) (wC (.int 1))) (wNil))) (.nm 3) w_f_law_rows_of_1 (wVar 3) [3]) (wNil)))
def S_f_law_rows_of : DL.Spec := ⟨3, Sto × Int × Int × Int, fun (_, _, h, s) => [.ref 2, .int h, .int s], fun (r, B, h, s) st => Dk B r st ∧ B < 2 ^ 39 ∧ -1 ≤ h ∧ h ≤ 900 ∧ 0 < s, fun (r, B, h, _) _ d st' => ∃ row, d = dInts row ∧ Row (h + 1) row ∧ Dk (B + 1000) r st'⟩
theorem vc_f_law_rows_of : ∀ g sto, (S_f_law_rows_of.args g).length = S_f_law_rows_of.n → S_f_law_rows_of.pre g sto → w_f_law_rows_of (bodyEnds (S_f_law_rows_of.post g sto)) (startE ["_law_deck_here", "_law_high", "_law_some", "_law_one"] (S_f_law_rows_of.args g)) sto := by
  rintro ⟨rest, B, h, s⟩ sto _ ⟨hD, hB, h0, h1, hs⟩
  simp? only [w_f_law_rows_of, S_f_law_rows_of, wComp, wipeE, rangeD_len]
  refine ⟨⟨by omega, by omega⟩, by rw [sizeLine_eq]; omega, ?_⟩
  refine compL_inv (fun i st acc => ∃ row, acc = row.map D.int ∧ Row i row ∧ Dk (B + i) rest st) ?_ ?_ _ _ ⟨[], rfl, ⟨.nil, fun _ h => (nomatch h)⟩, by simpa using hD⟩
  · rintro i st acc d ⟨row, rfl, hr, hd⟩ he R hR
    obtain ⟨hi, rfl⟩ := rangeD_at he
    simp? only [Tg.dg, w_f_law_rows_of_1]
    refine next_use hd (by omega) fun x st' x0 x1 hd' => ?_
    simp? only [true_and]
    refine ⟨hs, ?_⟩
    have e1 : B + (i : Int) + 1 = B + ((i + 1 : Nat) : Int) := by omega
    rw [e1] at hd'
    by_cases hx : (x % s == 0) = true
    · rw [if_pos hx]
      refine hR _ _ ⟨row ++ [(i : Int)], by simp, ⟨?_, ?_⟩, hd'⟩
      · rw [List.pairwise_append]
        refine ⟨hr.1, List.pairwise_singleton .., fun a ha b hb => ?_⟩
        rw [List.mem_singleton] at hb
        have := (hr.2 a ha).2
        omega
      · intro y hy
        rcases List.mem_append.mp hy with z | z
        · have := hr.2 y z; omega
        · rw [List.mem_singleton] at z; omega
    · rw [if_neg hx]
      exact hR _ _ ⟨row, rfl, ⟨hr.1, fun y hy => by have := hr.2 y hy; omega⟩, hd'⟩
  · rintro st acc ⟨row, rfl, hr, hd⟩
    rw [rangeD_len] at hr hd
    exact ⟨trivial, row, rfl, ⟨hr.1, fun y hy => by have := hr.2 y hy; omega⟩, hd.mono (by omega)⟩
theorem rows_use {B h s : Int} {rest st : Sto} {Q : DK} (hD : Dk B rest st) (hb : B < 2 ^ 39) (h0 : -1 ≤ h) (h1 : h ≤ 900) (hs : 0 < s) (q : ∀ row st', Row (h + 1) row → Dk (B + 1000) rest st' → Q (dInts row) st') :
    ∃ g, [D.ref 2, .int h, .int s] = S_f_law_rows_of.args g ∧ (S_f_law_rows_of.args g).length = S_f_law_rows_of.n ∧ S_f_law_rows_of.pre g st ∧ ∀ d s2, S_f_law_rows_of.post g st d s2 → Q d s2 :=
  ⟨(rest, B, h, s), rfl, rfl, ⟨hD, hb, h0, h1, hs⟩, fun d s2 ⟨x, e, h0, h1⟩ => by subst e; exact q x s2 h0 h1⟩
theorem pick {α : Type} {xs : List α} {i : Int} (h0 : 0 ≤ i) (h1 : i < xs.length) : ∃ v, atI xs i = some v ∧ v ∈ xs := by
  have hl : i.toNat < xs.length := by omega
  exact ⟨_, atI_of h0 (List.getElem?_eq_getElem hl), List.getElem_mem hl⟩
theorem pickI {ns : List Int} {i : Int} (h0 : 0 ≤ i) (h1 : i < ns.length) : ∃ v, atI (ns.map D.int) i = some (.int v) ∧ v ∈ ns := by
  obtain ⟨v, h2, h3⟩ := pick h0 h1
  exact ⟨v, atI_map h2, h3⟩
def w_f_law_work_1 : DT := wOr (wTest (wOp dEq (wVar 6) (wC (.int 0)))) (wTest (wOp dEq (wOp dMod (wCall S_f_law_next (wCons (wVar 0) (wNil))) (wC (.int 2))) (wC (.int 0))))
def w_f_law_work : DS := wSeq (wAsg (wOp dAdd (wC (.int 1)) (wOp dMod (wCall S_f_law_next (wCons (wVar 0) (wNil))) (wVar 3))) (gNm 4)) (wSeq (wAsg (wCall S_f_law_rows_of (wCons (wVar 0) (wCons (wOp dSub (wVar 1) (wC (.int 1))) (wCons (wOp dIx (wLst false (wCons (wC (.int 3)) (wCons (wC (.int 5)) (wCons (wC (.int 100)) (wNil))))) (wOp dMod (wCall S_f_law_next (wCons (wVar 0) (wNil))) (wC (.int 3)))) (wNil))))) (gNm 5)) (wSeq (wAsg (wOp dMod (wCall S_f_law_next (wCons (wVar 0) (wNil))) (wC (.int 3))) (gNm 6)) (wSeq (wAsg (wCB bTuple (wCons (wComp false (iRange1 (wCons (wVar 2) (wNil))) (.nm 8) w_f_law_work_1 (wVar 8) [8]) (wNil))) (gNm 7)) (wSeq (wIf (wTest (wOp dEq (wVar 7) (wTup (wNil)))) (wAsg (wTup (wCons (wOp dMod (wCall S_f_law_next (wCons (wVar 0) (wNil))) (wVar 2)) (wNil))) (gNm 7)) ((fun D env st => D.nx env st))) (wRet (wTup (wCons (wVar 4) (wCons (wVar 5) (wCons (wVar 7) (wNil))))))))))
def S_f_law_work : DL.Spec := ⟨4, Sto × Int × Int × Int × Int, fun (_, _, n, h, l) => [.ref 2, .int n, .int h, .int l], fun (r, B, n, h, l) st => Dk B r st ∧ B < 2 ^ 38 ∧ 0 ≤ n ∧ n ≤ 900 ∧ 1 ≤ h ∧ h ≤ 900 ∧ 1 ≤ l,
  fun (r, B, n, h, l) _ d st' => ∃ w : Wk, d = w.d ∧ w.Ok n h l ∧ Dk (B + 10000) r st'⟩
theorem vc_f_law_work : ∀ g sto, (S_f_law_work.args g).length = S_f_law_work.n → S_f_law_work.pre g sto → w_f_law_work (bodyEnds (S_f_law_work.post g sto)) (startE ["_law_deck_here", "_law_number", "_law_hands", "_law_length", "_law_much", "_law_ahead", "_law_way", "_law_able", "_law_hand"] (S_f_law_work.args g)) sto := by
  rintro ⟨rest, B, n, h, l⟩ sto _ ⟨hD, hB, n0, n1, h0, h1, hl⟩
  have z3 : 3 ≤ sizeLine := by decide
  have z1 : 1 ≤ sizeLine := by decide
  simp? only [w_f_law_work, S_f_law_work]
  refine next_use hD (by omega) fun x1 st1 a1 b1 hD => ?_
  (try simp? only [true_and])
  refine ⟨by omega, z3, ?_⟩
  refine next_use hD (by omega) fun x2 st2 a2 b2 hD => ?_
  obtain ⟨p, hp, hp2⟩ := pickI (ns := [3, 5, 100]) (i := x2 % 3) (by omega) (by simp; omega)
  have hp0 : 0 < p := by simp at hp2; omega
  simp only [List.map_cons, List.map_nil] at hp
  simp? only [hp]
  refine ⟨by decide, ?_⟩
  refine rows_use hD (by omega) (by omega) (by omega) hp0 fun ahead st3 hA hD => ?_
  (try simp? only [true_and])
  refine next_use hD (by omega) fun x3 st4 a3 b3 hD => ?_
  simp? only [wComp, wipeE, rangeD_len]
  refine ⟨by decide, ⟨by omega, by omega⟩, by rw [sizeLine_eq]; omega, ?_⟩
  refine compL_inv (fun i st acc => ∃ row, acc = row.map D.int ∧ Row i row ∧ Dk (B + 1003 + i) rest st) ?_ ?_ _ _ ⟨[], rfl, ⟨.nil, fun _ h => (nomatch h)⟩, hD.mono (by omega)⟩
  · rintro i st acc d ⟨row, rfl, hr, hd⟩ he R hR
    obtain ⟨hi, rfl⟩ := rangeD_at he
    have yes : ∀ s, Dk (B + 1003 + ((i + 1 : Nat) : Int)) rest s → R s (row.map D.int ++ [.int (0 + i)]) := fun s hd' => by
      refine hR _ _ ⟨row ++ [(i : Int)], by simp, ⟨?_, ?_⟩, hd'⟩
      · rw [List.pairwise_append]
        refine ⟨hr.1, List.pairwise_singleton .., fun a ha b hb => ?_⟩
        rw [List.mem_singleton] at hb
        have := (hr.2 a ha).2
        omega
      · intro y hy
        rcases List.mem_append.mp hy with z | z
        · have := hr.2 y z; omega
        · rw [List.mem_singleton] at z; omega
    have no : ∀ s, Dk (B + 1003 + ((i + 1 : Nat) : Int)) rest s → R s (row.map D.int) := fun s hd' => hR _ _ ⟨row, rfl, ⟨hr.1, fun y hy => by have := hr.2 y hy; omega⟩, hd'⟩
    simp? only [Tg.dg, w_f_law_work_1]
    by_cases hx : (x3 % 3 == 0) = true
    · rw [if_pos hx]
      exact yes _ (hd.mono (by omega))
    · rw [if_neg hx]
      refine next_use hd (by omega) fun x st' x0 x1 hd' => ?_
      have e1 : B + 1003 + (i : Int) + 1 = B + 1003 + ((i + 1 : Nat) : Int) := by omega
      rw [e1] at hd'
      (try simp? only [true_and])
      refine ⟨by decide, ?_⟩
      by_cases hx : (x % 2 == 0) = true
      · rw [if_pos hx]; exact yes _ hd'
      · rw [if_neg hx]; exact no _ hd'
  · rintro st acc ⟨row, rfl, hr, hd⟩
    rw [rangeD_len] at hr hd
    have hr' : Row h row := ⟨hr.1, fun y hy => by have := hr.2 y hy; omega⟩
    have hA' : Row n ahead := ⟨hA.1, fun y hy => by have := hA.2 y hy; omega⟩
    have hm : 1 ≤ 1 + x1 % l ∧ 1 + x1 % l ≤ l := by
      have := Int.emod_nonneg x1 (show l ≠ 0 by omega)
      have := Int.emod_lt_of_pos x1 (show 0 < l by omega)
      omega
    refine ⟨trivial, Nat.zero_le _, okL_ints _, ?_⟩
    cases row with
    | cons y row =>
      rw [if_neg (by simp)]
      exact ⟨z3, ⟨_, ahead, y :: row⟩, rfl, ⟨hm, hA', hr', by simp⟩, hd.mono (by omega)⟩
    | nil =>
      rw [if_pos (show (List.map D.int []).isEmpty = true from rfl)]
      refine next_use hd (by omega) fun x st' y0 y1 hd' => ?_
      (try simp? only [true_and])
      have hq := Int.emod_nonneg x (show h ≠ 0 by omega)
      have hq2 := Int.emod_lt_of_pos x (show 0 < h by omega)
      refine ⟨by omega, z1, z3, ⟨_, ahead, [x % h]⟩, rfl, ⟨hm, hA', ⟨List.pairwise_singleton .., fun y hy => ?_⟩, by simp⟩, hd'.mono (by omega)⟩
      rw [List.mem_singleton] at hy
      omega
theorem work_use {B n h l : Int} {rest st : Sto} {Q : DK} (hD : Dk B rest st) (hb : B < 2 ^ 38) (n0 : 0 ≤ n) (n1 : n ≤ 900) (h0 : 1 ≤ h) (h1 : h ≤ 900) (hl : 1 ≤ l) (q : ∀ (w : Wk) st', w.Ok n h l → Dk (B + 10000) rest st' → Q w.d st') :
    ∃ g, [D.ref 2, .int n, .int h, .int l] = S_f_law_work.args g ∧ (S_f_law_work.args g).length = S_f_law_work.n ∧ S_f_law_work.pre g st ∧ ∀ d s2, S_f_law_work.post g st d s2 → Q d s2 :=
  ⟨(rest, B, n, h, l), rfl, rfl, ⟨hD, hb, n0, n1, h0, h1, hl⟩, fun d s2 ⟨w, e, h0, h1⟩ => by subst e; exact q w s2 h0 h1⟩
def w_f_law_wish : DS := wSeq (wAsg (wOp dIx (wLst false (wCons (wC (.int 1)) (wCons (wC (.int 2)) (wCons (wC (.int 4)) (wNil))))) (wOp dMod (wCall S_f_law_next (wCons (wVar 0) (wNil))) (wC (.int 3)))) (gNm 3)) (wSeq (wAsg (wOp dIx (wLst false (wCons (wOp dAdd (wC (.int 1)) (wOp dMod (wCall S_f_law_next (wCons (wVar 0) (wNil))) (wC (.int 3)))) (wCons (wOp dAdd (wC (.int 1)) (wOp dMod (wCall S_f_law_next (wCons (wVar 0) (wNil))) (wC (.int 100)))) (wNil)))) (wOp dMod (wCall S_f_law_next (wCons (wVar 0) (wNil))) (wC (.int 2)))) (gNm 4)) (wRet (wTup (wCons (wOp dMod (wCall S_f_law_next (wCons (wVar 0) (wNil))) (wVar 1)) (wCons (wOp dMod (wCall S_f_law_next (wCons (wVar 0) (wNil))) (wC (.int 2))) (wCons (wOp dMod (wCall S_f_law_next (wCons (wVar 0) (wNil))) (wOp dAdd (wVar 2) (wC (.int 1)))) (wCons (wVar 4) (wCons (wOp dMod (wCall S_f_law_next (wCons (wVar 0) (wNil))) (wVar 3)) (wNil)))))))))
def S_f_law_wish : DL.Spec := ⟨3, Sto × Int × Int × Int, fun (_, _, n, h) => [.ref 2, .int n, .int h], fun (r, B, n, h) st => Dk B r st ∧ B < 2 ^ 38 ∧ 1 ≤ n ∧ 0 ≤ h,
  fun (r, B, n, h) _ d st' => ∃ w : Ws, d = w.d ∧ w.Ok n h ∧ Dk (B + 100) r st'⟩
theorem vc_f_law_wish : ∀ g sto, (S_f_law_wish.args g).length = S_f_law_wish.n → S_f_law_wish.pre g sto → w_f_law_wish (bodyEnds (S_f_law_wish.post g sto)) (startE ["_law_deck_here", "_law_works", "_law_days", "_law_ranks", "_law_weight"] (S_f_law_wish.args g)) sto := by
  rintro ⟨rest, B, n, h⟩ sto _ ⟨hD, hB, n1, h0⟩
  have z3 : 3 ≤ sizeLine := by decide
  have z2 : 2 ≤ sizeLine := by decide
  have z5 : 5 ≤ sizeLine := by decide
  simp? only [w_f_law_wish, S_f_law_wish]
  refine ⟨z3, next_use hD (by omega) fun x1 st1 a1 b1 hD => ?_⟩
  obtain ⟨p, hp, hp2⟩ := pickI (ns := [1, 2, 4]) (i := x1 % 3) (by omega) (by simp; omega)
  have hp0 : 0 < p ∧ p ≤ 4 := by simp at hp2; omega
  simp only [List.map_cons, List.map_nil] at hp
  simp? only [hp]
  refine ⟨by decide, next_use hD (by omega) fun x2 st2 a2 b2 hD => ?_⟩
  (try simp? only [true_and])
  refine ⟨by decide, next_use hD (by omega) fun x3 st3 a3 b3 hD => ?_⟩
  (try simp? only [true_and])
  refine ⟨by decide, z2, next_use hD (by omega) fun x4 st4 a4 b4 hD => ?_⟩
  (try simp? only [true_and])
  obtain ⟨q, hq, hq2⟩ := pickI (ns := [1 + x2 % 3, 1 + x3 % 100]) (i := x4 % 2) (by omega) (by simp; omega)
  have hq0 : 0 < q ∧ q ≤ 100 := by simp at hq2; omega
  simp only [List.map_cons, List.map_nil] at hq
  simp? only [hq]
  refine ⟨by decide, next_use hD (by omega) fun x5 st5 a5 b5 hD => ?_⟩
  (try simp? only [true_and])
  refine ⟨by omega, next_use hD (by omega) fun x6 st6 a6 b6 hD => ?_⟩
  (try simp? only [true_and])
  refine ⟨by decide, next_use hD (by omega) fun x7 st7 a7 b7 hD => ?_⟩
  (try simp? only [true_and])
  refine ⟨by omega, next_use hD (by omega) fun x8 st8 a8 b8 hD => ?_⟩
  (try simp? only [true_and])
  have := Int.emod_nonneg x5 (show n ≠ 0 by omega)
  have := Int.emod_lt_of_pos x5 (show 0 < n by omega)
  have := Int.emod_nonneg x7 (show h + 1 ≠ 0 by omega)
  have := Int.emod_lt_of_pos x7 (show 0 < h + 1 by omega)
  have := Int.emod_nonneg x8 (show p ≠ 0 by omega)
  have := Int.emod_lt_of_pos x8 (show 0 < p by omega)
  exact ⟨hp0.1, z5, ⟨_, _, _, q, _⟩, rfl, ⟨⟨by dsimp only; omega, by dsimp only; omega⟩, ⟨by dsimp only; omega, by dsimp only; omega⟩, ⟨by dsimp only; omega, by dsimp only; omega⟩, hq0, ⟨by dsimp only; omega, by dsimp only; omega⟩⟩, hD.mono (by omega)⟩
theorem wish_use {B n h : Int} {rest st : Sto} {Q : DK} (hD : Dk B rest st) (hb : B < 2 ^ 38) (n0 : 1 ≤ n) (h0 : 0 ≤ h) (q : ∀ (w : Ws) st', w.Ok n h → Dk (B + 100) rest st' → Q w.d st') :
    ∃ g, [D.ref 2, .int n, .int h] = S_f_law_wish.args g ∧ (S_f_law_wish.args g).length = S_f_law_wish.n ∧ S_f_law_wish.pre g st ∧ ∀ d s2, S_f_law_wish.post g st d s2 → Q d s2 :=
  ⟨(rest, B, n, h), rfl, rfl, ⟨hD, hb, n0, h0⟩, fun d s2 ⟨w, e, h0, h1⟩ => by subst e; exact q w s2 h0 h1⟩
def w_f_law_system_1 : DE := wCall S_f_law_rows_of (wCons (wVar 0) (wCons (wOp dSub (wVar 6) (wC (.int 1))) (wCons (wVar 7) (wNil))))
def w_f_law_system_2 : DE := wCall S_f_law_work (wCons (wVar 0) (wCons (wVar 14) (wCons (wCB bLen (wCons (wVar 8) (wNil))) (wCons (wVar 10) (wNil)))))
def w_f_law_system_3 : DE := wCall S_f_law_wish (wCons (wVar 0) (wCons (wVar 9) (wCons (wVar 6) (wNil))))
def w_f_law_system : DS := wSeq (wAsg (wOp dAdd (wC (.int 1)) (wOp dMod (wCall S_f_law_next (wCons (wVar 0) (wNil))) (wVar 1))) (gNm 6)) (wSeq (wAsg (wOp dIx (wLst false (wCons (wC (.int 100)) (wCons (wC (.int 6)) (wCons (wC (.int 3)) (wNil))))) (wOp dMod (wCall S_f_law_next (wCons (wVar 0) (wNil))) (wC (.int 3)))) (gNm 7)) (wSeq (wAsg (wCB bTuple (wCons (wComp false (iRange1 (wCons (wOp dAdd (wC (.int 1)) (wOp dMod (wCall S_f_law_next (wCons (wVar 0) (wNil))) (wVar 2))) (wNil))) (.nm 13) wYes w_f_law_system_1 [13]) (wNil))) (gNm 8)) (wSeq (wAsg (wOp dMod (wCall S_f_law_next (wCons (wVar 0) (wNil))) (wOp dAdd (wVar 3) (wC (.int 1)))) (gNm 9)) (wSeq (wAsg (wOp dIx (wLst false (wCons (wCB bMin2 (wCons (wVar 4) (wCons (wVar 6) (wNil)))) (wCons (wVar 4) (wNil)))) (wCB bInt (wCons (wOp dEq (wOp dMod (wCall S_f_law_next (wCons (wVar 0) (wNil))) (wC (.int 9))) (wC (.int 4))) (wNil)))) (gNm 10)) (wSeq (wAsg (wCB bTuple (wCons (wComp false (iRange1 (wCons (wVar 9) (wNil))) (.nm 14) wYes w_f_law_system_2 [14]) (wNil))) (gNm 11)) (wSeq (wAsg (wOp dMul (wOp dMod (wCall S_f_law_next (wCons (wVar 0) (wNil))) (wOp dAdd (wVar 5) (wC (.int 1)))) (wCB bInt (wCons (wOp dGt (wVar 9) (wC (.int 0))) (wNil)))) (gNm 12)) (wRet (wTup (wCons (wVar 6) (wCons (wVar 8) (wCons (wVar 11) (wCons (wCB bTuple (wCons (wComp false (iRange1 (wCons (wVar 12) (wNil))) (.nm 15) wYes w_f_law_system_3 [15]) (wNil))) (wNil)))))))))))))
def S_f_law_system : DL.Spec := ⟨6, Sto × Int × Int × Int × Int × Int × Int, fun (_, _, a, b, c, d, e) => [.ref 2, .int a, .int b, .int c, .int d, .int e],
  fun (r, B, a, b, c, d, e) st => Dk B r st ∧ B < 2 ^ 37 ∧ (1 ≤ a ∧ a ≤ 900) ∧ (1 ≤ b ∧ b ≤ 100) ∧ (0 ≤ c ∧ c ≤ 100) ∧ (1 ≤ d ∧ d ≤ 900) ∧ (0 ≤ e ∧ e ≤ 100),
  fun (r, B, a, b, c, d, e) _ x st' => ∃ s : Sy, x = s.d ∧ s.Ok a b c d e ∧ Dk (B + 10000000) r st'⟩
theorem vc_f_law_system : ∀ g sto, (S_f_law_system.args g).length = S_f_law_system.n → S_f_law_system.pre g sto → w_f_law_system (bodyEnds (S_f_law_system.post g sto)) (startE ["_law_deck_here", "_law_days", "_law_hands", "_law_works", "_law_length", "_law_wishes", "_law_many", "_law_some", "_law_rows", "_law_count", "_law_longest", "_law_works_drawn", "_law_wished", "_law_hand", "_law_work_here", "_law_k"] (S_f_law_system.args g)) sto := by
  rintro ⟨rest, B, a, b, c, l, e⟩ sto _ ⟨hD, hB, ha, hb, hc, hl, he⟩
  have z3 : 3 ≤ sizeLine := by decide
  have z2 : 2 ≤ sizeLine := by decide
  have z4 : 4 ≤ sizeLine := by decide
  simp? only [w_f_law_system, S_f_law_system, wComp, wipeE]
  refine next_use hD (by omega) fun x1 st1 a1 b1 hD => ?_
  (try simp? only [true_and])
  have hx1 := Int.emod_nonneg x1 (show a ≠ 0 by omega)
  have hx2 := Int.emod_lt_of_pos x1 (show 0 < a by omega)
  obtain ⟨D, eD⟩ : ∃ D, D = 1 + x1 % a := ⟨_, rfl⟩
  simp only [← eD]
  refine ⟨by omega, z3, next_use hD (by omega) fun x2 st2 a2 b2 hD => ?_⟩
  (try simp? only [true_and])
  obtain ⟨p, hp, hp2⟩ := pickI (ns := [100, 6, 3]) (i := x2 % 3) (by omega) (by simp; omega)
  have hp0 : 0 < p := by simp at hp2; omega
  simp only [List.map_cons, List.map_nil] at hp
  simp? only [hp]
  refine ⟨by decide, next_use hD (by omega) fun x3 st3 a3 b3 hD => ?_⟩
  (try simp? only [true_and])
  have hx3 := Int.emod_nonneg x3 (show b ≠ 0 by omega)
  have hx4 := Int.emod_lt_of_pos x3 (show 0 < b by omega)
  obtain ⟨h, eh⟩ : ∃ h, h = 1 + x3 % b := ⟨_, rfl⟩
  simp only [← eh, rangeD_len]
  refine ⟨by omega, ⟨by omega, by omega⟩, by rw [sizeLine_eq]; omega, ?_⟩
  refine compL_inv (fun i st acc => ∃ rows : List (List Int), acc = rows.map dInts ∧ rows.length = i ∧ (∀ r ∈ rows, Row D r) ∧ Dk (B + 3 + i * 1000) rest st) ?_ ?_ _ _ ⟨[], rfl, rfl, fun _ h => (nomatch h), hD.mono (by omega)⟩
  · rintro i st acc d ⟨rows, rfl, hn, hr, hd⟩ he R hR
    obtain ⟨hi, rfl⟩ := rangeD_at he
    simp? only [Tg.dg, wYes, w_f_law_system_1]
    refine rows_use hd (by omega) (by omega) (by omega) hp0 fun row st' hrow hd' => ?_
    refine hR _ _ ⟨rows ++ [row], by simp, by simp; omega, fun r hm => ?_, hd'.mono (by omega)⟩
    rcases List.mem_append.mp hm with z | z
    · exact hr r z
    · rw [List.mem_singleton] at z
      subst z
      rwa [show D - 1 + 1 = D by omega] at hrow
  · rintro st acc ⟨rows, rfl, hn, hr, hd⟩
    rw [rangeD_len] at hn hd
    refine ⟨trivial, ?_⟩
    (try simp? only [true_and])
    refine next_use hd (by omega) fun x4 st4 a4 b4 hD => ?_
    (try simp? only [true_and])
    have hx5 := Int.emod_nonneg x4 (show c + 1 ≠ 0 by omega)
    have hx6 := Int.emod_lt_of_pos x4 (show 0 < c + 1 by omega)
    obtain ⟨k, ek⟩ : ∃ k, k = x4 % (c + 1) := ⟨_, rfl⟩
    simp only [← ek]
    refine ⟨by omega, z2, next_use hD (by omega) fun x5 st5 a5 b5 hD => ?_⟩
    (try simp? only [true_and])
    refine ⟨by decide, ?_⟩
    obtain ⟨m, hm, hm2⟩ := pickI (ns := [if D < l then D else l, l]) (i := if (x5 % 9 == 4) = true then 1 else 0) (by split <;> decide) (by simp only [List.length_cons, List.length_nil]; split <;> decide)
    have hm0 : 1 ≤ m ∧ m ≤ l := by
      simp only [List.mem_cons, List.not_mem_nil, or_false] at hm2
      rcases hm2 with z | z
      · subst z; split <;> omega
      · omega
    simp only [List.map_cons, List.map_nil] at hm
    simp? only [hm]
    refine ⟨⟨by omega, by omega⟩, by (try rw [rangeD_len]); rw [sizeLine_eq]; omega, ?_⟩
    refine compL_inv (fun i st acc => ∃ ws : List Wk, acc = ws.map Wk.d ∧ ws.length = i ∧ (∀ (j : Nat) (w : Wk), ws[j]? = some w → w.Ok j rows.length l) ∧ Dk (B + 100100 + i * 10000) rest st) ?_ ?_ _ _ ⟨[], rfl, rfl, fun _ _ h => (nomatch h), hD.mono (by omega)⟩
    · rintro i st acc d ⟨ws, rfl, hn2, hr2, hd⟩ he R hR
      obtain ⟨hi, rfl⟩ := rangeD_at he
      simp? only [Tg.dg, wYes, w_f_law_system_2]
      refine work_use hd (by omega) (by omega) (by omega) (by omega) (by omega) (by omega) fun w st' hw hd' => ?_
      refine hR _ _ ⟨ws ++ [w], by simp, by simp; omega, fun j w' hm => ?_, hd'.mono (by omega)⟩
      by_cases hj : j < ws.length
      · rw [List.getElem?_append_left hj] at hm
        exact hr2 j w' hm
      · rw [List.getElem?_append_right (by omega)] at hm
        have e0 : j = ws.length := by
          have := (List.getElem?_eq_some_iff.mp hm).1
          rw [List.length_singleton] at this
          omega
        subst e0
        rw [Nat.sub_self] at hm
        cases hm
        have e1 : (0 : Int) + (i : Int) = (ws.length : Nat) := by omega
        rw [e1] at hw
        exact ⟨⟨hw.len.1, by have := hw.len.2; omega⟩, hw.ahead, hw.able, hw.any⟩
    · rintro st acc ⟨ws, rfl, hn2, hr2, hd⟩
      rw [rangeD_len] at hn2 hd
      refine ⟨trivial, ?_⟩
      (try simp? only [true_and])
      refine next_use hd (by omega) fun x6 st6 a6 b6 hD => ?_
      (try simp? only [true_and])
      have hx7 := Int.emod_nonneg x6 (show e + 1 ≠ 0 by omega)
      have hx8 := Int.emod_lt_of_pos x6 (show 0 < e + 1 by omega)
      obtain ⟨u, eu⟩ : ∃ u, u = x6 % (e + 1) := ⟨_, rfl⟩
      simp only [← eu]
      have hw : 0 ≤ u * (if 0 < k then 1 else 0) ∧ u * (if 0 < k then 1 else 0) ≤ e ∧ (0 < u * (if 0 < k then 1 else 0) → 0 < k) := by
        by_cases hk : 0 < k
        · rw [if_pos hk]; omega
        · rw [if_neg hk]; omega
      obtain ⟨v, ev⟩ : ∃ v, v = u * (if 0 < k then 1 else 0) := ⟨_, rfl⟩
      rw [← ev] at hw
      refine ⟨by omega, .inl ⟨by omega, by omega⟩, ?_⟩
      (try simp only [← ev])
      refine ⟨⟨by omega, by omega⟩, by (try rw [rangeD_len]); rw [sizeLine_eq]; omega, ?_⟩
      refine compL_inv (fun i st acc => ∃ us : List Ws, acc = us.map Ws.d ∧ us.length = i ∧ (∀ u ∈ us, u.Ok ws.length D) ∧ Dk (B + 2000000 + i * 100) rest st) ?_ ?_ _ _ ⟨[], rfl, rfl, fun _ h => (nomatch h), hD.mono (by omega)⟩
      · rintro i st acc d ⟨us, rfl, hn3, hr3, hd⟩ he R hR
        obtain ⟨hi, rfl⟩ := rangeD_at he
        simp? only [Tg.dg, wYes, w_f_law_system_3]
        refine wish_use hd (by omega) (by omega) (by omega) fun w st' hw hd' => ?_
        refine hR _ _ ⟨us ++ [w], by simp, by simp; omega, fun r hm => ?_, hd'.mono (by omega)⟩
        rcases List.mem_append.mp hm with z | z
        · exact hr3 r z
        · rw [List.mem_singleton] at z
          subst z
          rwa [show k = (ws.length : Int) by omega] at hw
      · rintro st acc ⟨us, rfl, hn3, hr3, hd⟩
        rw [rangeD_len] at hn3 hd
        refine ⟨trivial, ?_⟩
        (try simp? only [true_and])
        exact ⟨z4, ⟨D, rows, ws, us⟩, rfl, ⟨⟨by dsimp only; omega, by dsimp only; omega⟩, ⟨by dsimp only; omega, by dsimp only; omega⟩, hr, by dsimp only; omega, hr2, by dsimp only; omega, hr3⟩, hd.mono (by omega)⟩
theorem deck_use {ns : List Int} {Q : DK} (h : ns.length ≤ 63) (q : ∀ st', Dk 0 [] st' → Q (.ref 2) st') :
    ∃ g, [D.scr (ns.map .int)] = S_f_law_deck.args g ∧ (S_f_law_deck.args g).length = S_f_law_deck.n ∧ S_f_law_deck.pre g [] ∧ ∀ d s2, S_f_law_deck.post g [] d s2 → Q d s2 :=
  ⟨ns, rfl, rfl, ⟨h, rfl⟩, fun d s2 ⟨e1, e2⟩ => by subst e1; exact q s2 e2⟩
theorem sys_use {B a b c l e : Int} {rest st : Sto} {Q : DK} (hD : Dk B rest st) (hb : B < 2 ^ 37) (ha : 1 ≤ a ∧ a ≤ 900) (hb' : 1 ≤ b ∧ b ≤ 100) (hc : 0 ≤ c ∧ c ≤ 100) (hl : 1 ≤ l ∧ l ≤ 900) (he : 0 ≤ e ∧ e ≤ 100) (q : ∀ (s : Sy) st', s.Ok a b c l e → Dk (B + 10000000) rest st' → Q s.d st') :
    ∃ g, [D.ref 2, .int a, .int b, .int c, .int l, .int e] = S_f_law_system.args g ∧ (S_f_law_system.args g).length = S_f_law_system.n ∧ S_f_law_system.pre g st ∧ ∀ d s2, S_f_law_system.post g st d s2 → Q d s2 :=
  ⟨(rest, B, a, b, c, l, e), rfl, rfl, ⟨hD, hb, ha, hb', hc, hl, he⟩, fun d s2 ⟨w, e, h0, h1⟩ => by subst e; exact q w s2 h0 h1⟩
def S_f_law_says : DL.Spec := ⟨2, Bool × Bool, fun (a, b) => [.bl a, .bl b], fun _ _ => True, fun (a, b) st d st' => st' = st ∧ d = .bl (a == b)⟩
def w_f_law_says : DS := wSeq (wIf (wTest (wVar 1)) (wRet (wOp (dIsBl fun b => b) (wVar 0) (wC (.bl true)))) ((fun D env st => D.nx env st))) (wRet (wOp (dIsBl fun b => b) (wVar 0) (wC (.bl false))))
theorem vc_f_law_says : ∀ g sto, (S_f_law_says.args g).length = S_f_law_says.n → S_f_law_says.pre g sto → w_f_law_says (bodyEnds (S_f_law_says.post g sto)) (startE ["_law_found", "_law_due"] (S_f_law_says.args g)) sto := by
  rintro ⟨a, b⟩ sto _ _
  simp? only [w_f_law_says, S_f_law_says, dIsBl]
  cases b
  · exact ⟨a, _, rfl, rfl, by cases a <;> rfl⟩
  · exact ⟨a, _, rfl, rfl, by cases a <;> rfl⟩
theorem says_use {a b : Bool} {st : Sto} {Q : DK} (k : Q (.bl (a == b)) st) :
    ∃ g, [D.bl a, .bl b] = S_f_law_says.args g ∧ (S_f_law_says.args g).length = S_f_law_says.n ∧ S_f_law_says.pre g st ∧ ∀ d s2, S_f_law_says.post g st d s2 → Q d s2 :=
  ⟨(a, b), rfl, rfl, trivial, fun d s2 ⟨e1, e2⟩ => by subst e1; subst e2; exact k⟩
theorem fm_filter {α : Type} {enc : α → D} (P : α → Bool) : ∀ xs : List α, (xs.filterMap fun x => if P x = true then some (enc x) else none) = (xs.filter P).map enc
  | [] => rfl
  | x :: r => by
    rw [List.filterMap_cons, List.filter_cons]
    cases P x with
    | true => simp only [if_true, List.map_cons]; rw [fm_filter P r]
    | false => exact fm_filter P r
def pureS (n : Nat) {G : Type} (args : G → List D) (pre : G → Prop) (val : G → D) : DL.Spec := ⟨n, G, args, fun g _ => pre g, fun g st d st' => st' = st ∧ d = val g⟩
theorem use_pure {n : Nat} {G : Type} {args : G → List D} {pre : G → Prop} {val : G → D} {a : List D} {st : Sto} {Q : DK} (g : G) (e : a = args g) (hl : (args g).length = n) (hp : pre g) (q : Q (val g) st) :
    ∃ g, a = (pureS n args pre val).args g ∧ ((pureS n args pre val).args g).length = (pureS n args pre val).n ∧ (pureS n args pre val).pre g st ∧ ∀ d s2, (pureS n args pre val).post g st d s2 → Q d s2 :=
  ⟨g, e, hl, hp, fun d s2 ⟨e1, e2⟩ => by subst e1; subst e2; exact q⟩
/-- a def that draws from the deck, at most c times -/
def deckS (n : Nat) (c : Int) {G : Type} (args : G → List D) (pre : G → Prop) (post : G → D → Prop) : DL.Spec :=
  ⟨n, Sto × Int × G, fun x => .ref 2 :: args x.2.2, fun x st => Dk x.2.1 x.1 st ∧ x.2.1 + c < 2 ^ 36 ∧ pre x.2.2, fun x _ d st' => post x.2.2 d ∧ Dk (x.2.1 + c) x.1 st'⟩
theorem use_deck {n : Nat} {c : Int} {G : Type} {args : G → List D} {pre : G → Prop} {post : G → D → Prop} {a : List D} {B : Int} {r st : Sto} {Q : DK} (g : G) (e : a = .ref 2 :: args g) (hl : (args g).length + 1 = n)
    (hD : Dk B r st) (hB : B + c < 2 ^ 36) (hp : pre g) (q : ∀ d st', post g d → Dk (B + c) r st' → Q d st') :
    ∃ g, a = (deckS n c args pre post).args g ∧ ((deckS n c args pre post).args g).length = (deckS n c args pre post).n ∧ (deckS n c args pre post).pre g st ∧ ∀ d s2, (deckS n c args pre post).post g st d s2 → Q d s2 :=
  ⟨(r, B, g), e, hl, ⟨hD, hB, hp⟩, fun d s2 ⟨e1, e2⟩ => q d s2 e1 e2⟩
section
variable {B B0 : Int} {rest ex st st' sto : Sto} {c c' : Cel}
theorem _root_.DL.Dk.len (h : Dk B rest st) : st.length = rest.length + 3 := by
  obtain ⟨ds, cs, t, rfl, _⟩ := h
  rfl
theorem _root_.DL.Dk.push (h : Dk B rest st) : Dk B (rest ++ [c]) (st ++ [c]) := by
  obtain ⟨ds, cs, t, rfl, r⟩ := h
  exact ⟨ds, cs, t, rfl, r⟩
theorem _root_.DL.Dk.top (h : Dk B (rest ++ [c]) st) : st[rest.length + 3]? = some c := by
  obtain ⟨ds, cs, t, rfl, r⟩ := h
  simp only [List.getElem?_cons_succ]
  exact get_last _ _
end
theorem compL_flt {α β : Type} {G : Sto → Prop} {t : Tg} {c : DT} {w : DE} {env : En} {Q : LK} {st : Sto} (enc : α → D) (P : α → Bool) (f : α → β) (enc' : β → D) (hG : G st) (xs : List α)
    (step : ∀ x ∈ xs, ∀ R : Option D → Sto → Prop, (if P x = true then R (some (enc' (f x))) st else R none st) → t.dg (enc x) env st fun e s => c e s fun b s1 => if b = true then w e s1 fun y s2 => R (some y) s2 else R none s1)
    (q : Q (((xs.filter P).map f).map enc') st) : wCompL G t c w env (xs.map enc) st [] Q := by
  refine compL_map enc (fun x => if P x = true then some (enc' (f x)) else none) hG xs [] (fun x hx R hR => step x hx R ?_) ?_
  · cases h : P x with
    | true => rw [h] at hR; exact hR
    | false => rw [h] at hR; exact hR
  · rw [List.nil_append, fm_filter, List.map_map] at *
    exact q
theorem compL_all {α β : Type} {G : Sto → Prop} {t : Tg} {c : DT} {w : DE} {env : En} {Q : LK} {st : Sto} (enc : α → D) (f : α → β) (enc' : β → D) (hG : G st) (xs : List α)
    (step : ∀ x ∈ xs, ∀ R : Option D → Sto → Prop, R (some (enc' (f x))) st → t.dg (enc x) env st fun e s => c e s fun b s1 => if b = true then w e s1 fun y s2 => R (some y) s2 else R none s1)
    (q : Q ((xs.map f).map enc') st) : wCompL G t c w env (xs.map enc) st [] Q := by
  refine compL_map enc (fun x => some (enc' (f x))) hG xs [] (fun x hx R hR => step x hx R hR) ?_
  rw [List.nil_append]
  have e : xs.filterMap (fun x => some (enc' (f x))) = (xs.map f).map enc' := by
    rw [List.map_map]; exact congrFun (List.filterMap_eq_map (f := enc' ∘ f)) xs
  rw [e]; exact q
/-- a comprehension whose items are drawn -/
theorem compL_deck {α : Type} {t : Tg} {c : DT} {w : DE} {env : En} {Q : LK} {rest st : Sto} (enc : α → D) (P : Nat → α → Prop) (f : Nat → Int) (ds : List D) (hD : Dk (f 0) rest st)
    (step : ∀ (i : Nat) d st, ds[i]? = some d → i < ds.length → Dk (f i) rest st → ∀ R : Option D → Sto → Prop, (∀ x st', P i x → Dk (f (i + 1)) rest st' → R (some (enc x)) st') → t.dg d env st fun e s => c e s fun b s1 => if b = true then w e s1 fun y s2 => R (some y) s2 else R none s1)
    (q : ∀ xs : List α, xs.length = ds.length → (∀ (j : Nat) x, xs[j]? = some x → P j x) → ∀ st', Dk (f ds.length) rest st' → Q (xs.map enc) st') : wCompL (fun _ => True) t c w env ds st [] Q := by
  refine compL_inv (fun i st acc => ∃ xs : List α, acc = xs.map enc ∧ xs.length = i ∧ (∀ (j : Nat) x, xs[j]? = some x → P j x) ∧ Dk (f i) rest st) ?_ ?_ _ _ ⟨[], rfl, rfl, fun j x h => by simp at h, hD⟩
  · rintro i st acc d ⟨xs, rfl, hn, hP, hd⟩ he R hR
    have hi := (List.getElem?_eq_some_iff.mp he).1
    refine ⟨trivial, step i d st he hi hd (fun o s => match o with | some y => R s (xs.map enc ++ [y]) | none => R s (xs.map enc)) fun x st' hx hd' => ?_⟩
    refine hR _ _ ⟨xs ++ [x], by simp, by simp; omega, fun j y hy => ?_, hd'⟩
    by_cases hj : j < xs.length
    · rw [List.getElem?_append_left hj] at hy; exact hP j y hy
    · rw [List.getElem?_append_right (by omega)] at hy
      have e0 : j - xs.length = 0 := by have := (List.getElem?_eq_some_iff.mp hy).1; rw [List.length_singleton] at this; omega
      rw [e0] at hy
      cases hy
      rw [show j = i by omega]
      exact hx
  · rintro st acc ⟨xs, rfl, hn, hP, hd⟩
    exact ⟨trivial, q xs hn hP st hd⟩
theorem isE_map {α β : Type} (f : α → β) (xs : List α) : (xs.map f).isEmpty = xs.isEmpty := by cases xs <;> rfl
theorem isE_filter {α : Type} (P : α → Bool) : ∀ xs : List α, (xs.filter P).isEmpty = !xs.any P
  | [] => rfl
  | x :: r => by
    rw [List.filter_cons, List.any_cons]
    cases P x with
    | true => rfl
    | false => exact isE_filter P r
theorem pk2 {a b x : Int} : ∃ v : Int, atI [D.int a, .int b] (x % 2) = some (.int v) ∧ (v = a ∨ v = b) := by
  have h : x % 2 = 0 ∨ x % 2 = 1 := by omega
  rcases h with h | h
  · exact ⟨a, by rw [h]; rfl, .inl rfl⟩
  · exact ⟨b, by rw [h]; rfl, .inr rfl⟩
theorem modb (x : Int) {n : Int} (h : 0 < n) : 0 ≤ x % n ∧ x % n < n := ⟨Int.emod_nonneg _ (by omega), Int.emod_lt_of_pos _ h⟩
theorem seq_go {a k : DS} {A : DEnds} {env : En} {st : Sto} (h : a { nx := fun e s => k A e s, rt := A.rt, bk := A.bk, ct := A.ct } env st) : wSeq a k A env st := h
/-- what holds behind a statement, whichever way -/
theorem seq_cut {a k : DS} {A : DEnds} {env : En} {st : Sto} (J : En → Sto → Prop) (h : ∀ K : En → Sto → Prop, (∀ e s, J e s → K e s) → a { nx := K, rt := A.rt, bk := A.bk, ct := A.ct } env st) (hk : ∀ e s, J e s → k A e s) : wSeq a k A env st := h _ hk
@[simp] theorem enum_len (ds : List D) : (enumD ds).length = ds.length := by unfold enumD; rw [List.length_map, List.length_zipIdx]
theorem v_slT {ds : List D} {a b : Option Int} {m : Bool} {st : Sto} {Q : DK} : dSl m (.tup ds) a b st Q = Q (.tup (cutL ds a b)) st := rfl
def wkAt (s : Sy) (i : Nat) : Wk := (s.works[i]?).getD ⟨0, [], []⟩
structure SubF (f g : List (List (Int × Int))) : Prop where
  len : f.length = g.length
  sub : ∀ (i : Nat) r, f[i]? = some r → ∃ r', g[i]? = some r' ∧ r.Sublist r'
theorem SubF.trans {f g h : List (List (Int × Int))} (a : SubF f g) (b : SubF g h) : SubF f h :=
  ⟨a.len.trans b.len, fun i r e => by obtain ⟨r1, e1, s1⟩ := a.sub i r e; obtain ⟨r2, e2, s2⟩ := b.sub i r1 e1; exact ⟨r2, e2, s1.trans s2⟩⟩
theorem SubF.nil : SubF [] [] := ⟨rfl, fun _ _ h => by simp at h⟩
theorem SubF.snoc {f g : List (List (Int × Int))} {r r' : List (Int × Int)} (a : SubF f g) (b : r.Sublist r') : SubF (f ++ [r]) (g ++ [r']) := by
  refine ⟨by rw [List.length_append, List.length_append, a.len]; rfl, fun i x h => ?_⟩
  by_cases hi : i < f.length
  · rw [List.getElem?_append_left hi] at h
    rw [List.getElem?_append_left (by rw [← a.len]; exact hi)]
    exact a.sub i x h
  · rw [List.getElem?_append_right (by omega)] at h
    rw [List.getElem?_append_right (by rw [← a.len]; omega), ← a.len]
    have e0 : i - f.length = 0 := by
      have := (List.getElem?_eq_some_iff.mp h).1
      rw [List.length_singleton] at this
      omega
    rw [e0] at h ⊢
    cases h
    exact ⟨r', rfl, b⟩
theorem take_snoc {α : Type} {xs : List α} {i : Nat} {x : α} (h : xs[i]? = some x) : xs.take (i + 1) = xs.take i ++ [x] := by
  rw [List.take_add_one, h]; rfl
theorem cell_of {st : Sto} {n : Nat} {ds : List D} (h : rd st (.ref n) = .lst ds) : st[n]? = some (.lst ds) := by
  cases e : st[n]? with
  | none => simp only [rd, e] at h; cases h
  | some c => cases c with
    | lst es => simp only [rd, e] at h; cases h; rfl
    | dead => simp only [rd, e] at h; cases h
    | ins _ _ => simp only [rd, e] at h; cases h
    | dct _ _ => simp only [rd, e] at h; cases h
theorem seqI_of {st : Sto} {d : D} {ds : List D} {R : GK} (h : rd st d = .lst ds) (q : ∀ G : Sto → Prop, (∀ st', rd st' d = .lst ds → G st') → R ds G st) : seqI d st R := by
  cases d with
  | lst es => cases h; exact q _ fun _ _ => trivial
  | ref n => exact ⟨ds, cell_of h, q _ fun st' h' => cell_of h'⟩
  | _ => cases h
theorem cut_take {α : Type} (xs : List α) (i : Nat) : cutL xs none (some (i : Int)) = xs.take i := by
  unfold cutL
  rw [show HT.sIx xs.length 0 none = 0 from rfl, HT.sIx_nat, List.drop_zero, Nat.sub_zero]
  rcases Nat.le_total i xs.length with h | h
  · rw [Nat.min_eq_left h]
  · rw [Nat.min_eq_right h, List.take_of_length_le (by omega), List.take_of_length_le h]
theorem cut_drop {α : Type} (xs : List α) (i : Nat) : cutL xs (some (i : Int)) none = xs.drop i := by
  unfold cutL
  rw [show HT.sIx xs.length xs.length none = xs.length from rfl, HT.sIx_nat]
  rcases Nat.le_total i xs.length with h | h
  · rw [Nat.min_eq_left h, List.take_of_length_le (by rw [List.length_drop]; omega)]
  · rw [Nat.min_eq_right h, Nat.sub_self, List.take_zero, List.drop_of_length_le h]
theorem wk_at {s : Sy} {i : Nat} (h : i < s.works.length) : atI s.works (i : Int) = some (wkAt s i) := by
  refine atI_of (by omega) ?_
  rw [Int.toNat_natCast]
  unfold wkAt
  rw [List.getElem?_eq_getElem h]
  rfl
def D.isNum : D → Bool
  | .int _ => true
  | _ => false
def fromF (d : D) (a b : Int) : Bool := match d with
  | .int i => if a ≤ i then decide (i ≤ b) else false
  | _ => false
theorem noRef_of {d : D} (h : d.blw 0 = true) : d.noRef := by
  cases d with
  | ref n => simp [D.blw] at h
  | fn => simp [D.blw] at h
  | exc => simp [D.blw] at h
  | _ => trivial
def w_p_is_number : DS := wRet (wAndV (wIsi "int" (wVar 0)) (wNotV (wIsi "bool" (wVar 0))))
def S_p_is_number : DL.Spec := pureS 1 (fun d : D => [d]) D.noRef (fun d => .bl (D.isNum d))
theorem vc_p_is_number : ∀ g sto, (S_p_is_number.args g).length = S_p_is_number.n → S_p_is_number.pre g sto → w_p_is_number (bodyEnds (S_p_is_number.post g sto)) (startE ["thing"] (S_p_is_number.args g)) sto := by
  rintro (d : D) sto _ (h : d.noRef)
  simp? only [w_p_is_number, S_p_is_number, pureS, wIsi]
  refine ⟨h, ?_⟩
  cases d with
  | ref n => exact h.elim
  | fn => exact h.elim
  | exc => exact h.elim
  | _ => simp [D.isa, D.ty, D.isNum, D.noRef]
def w_p_is_from : DS := wRet (wAndV (wCall S_p_is_number (wCons (wVar 0) (wNil))) (wChain dLe dLe (wVar 1) (wVar 0) (wVar 2)))
def S_p_is_from : DL.Spec := pureS 3 (fun x : D × Int × Int => [x.1, .int x.2.1, .int x.2.2]) (fun x => x.1.noRef) (fun x => .bl (fromF x.1 x.2.1 x.2.2))
theorem vc_p_is_from : ∀ g sto, (S_p_is_from.args g).length = S_p_is_from.n → S_p_is_from.pre g sto → w_p_is_from (bodyEnds (S_p_is_from.post g sto)) (startE ["thing", "low", "high"] (S_p_is_from.args g)) sto := by
  rintro ⟨d, a, b⟩ sto _ h
  simp? only [w_p_is_from, S_p_is_from, pureS]
  refine use_pure d rfl rfl h ?_
  cases d with
  | int i =>
    simp? only [D.isNum, fromF]
    by_cases h : a ≤ i
    · simp [h]
    · simp [h]
  | _ => simp [D.isNum, fromF]
theorem blw_items {ds : List D} {n : Nat} (h : D.blw n (.tup ds) = true) : ∀ d ∈ ds, d.blw n = true := by
  simp only [D.blw] at h
  induction ds with
  | nil => intro d hd; cases hd
  | cons x r ih =>
    simp only [D.blwL, Bool.and_eq_true] at h
    intro d hd
    rcases List.mem_cons.mp hd with z | z
    · subst z; exact h.1
    · exact ih h.2 d z
noncomputable def tr (P : Prop) : Bool := @decide P (Classical.propDecidable P)
theorem tr_true {P : Prop} (h : P) : tr P = true := @decide_eq_true P (Classical.propDecidable P) h
theorem tr_false {P : Prop} (h : ¬P) : tr P = false := @decide_eq_false P (Classical.propDecidable P) h
theorem tr_iff {P : Prop} : tr P = true ↔ P := @decide_eq_true_iff P (Classical.propDecidable P)
theorem tr_eq {P : Prop} {b : Bool} (h : b = true ↔ P) : b = tr P := by
  cases b with
  | true => exact (tr_true (h.mp rfl)).symm
  | false => exact (tr_false fun p => Bool.false_ne_true (h.mpr p)).symm
def w_f_law_is_from : DS := wRet (wAndV (wIsi "int" (wVar 0)) (wAndV (wNotV (wIsi "bool" (wVar 0))) (wChain dLe dLe (wVar 1) (wVar 0) (wVar 2))))
def S_f_law_is_from : DL.Spec := pureS 3 (fun x : D × Int × Int => [x.1, .int x.2.1, .int x.2.2]) (fun x => x.1.noRef) (fun x => .bl (fromF x.1 x.2.1 x.2.2))
theorem vc_f_law_is_from : ∀ g sto, (S_f_law_is_from.args g).length = S_f_law_is_from.n → S_f_law_is_from.pre g sto → w_f_law_is_from (bodyEnds (S_f_law_is_from.post g sto)) (startE ["_law_thing", "_law_low", "_law_high"] (S_f_law_is_from.args g)) sto := by
  rintro ⟨d, a, b⟩ sto _ h
  have h' : d.noRef := h
  simp? only [w_f_law_is_from, S_f_law_is_from, pureS, wIsi]
  refine ⟨h, ?_⟩
  cases d with
  | int i =>
    simp [fromF, D.isa, D.ty, v_le, D.noRef]
    by_cases h : a ≤ i
    · simp [h]
    · simp [h]; omega
  | ref n => exact h'.elim
  | fn => exact h'.elim
  | exc => exact h'.elim
  | _ => simp [fromF, D.isa, D.ty, D.noRef]
theorem wk_get {s : Sy} {i : Nat} (h : i < s.works.length) : s.works[i]? = some (wkAt s i) := by
  unfold wkAt; rw [List.getElem?_eq_getElem h]; rfl
def w_f_law_any_system_1 : DE := wCall S_f_law_rows_of (wCons (wVar 0) (wCons (wOp dSub (wVar 2) (wC (.int 1))) (wCons (wOp dIx (wLst false (wCons (wC (.int 4)) (wCons (wC (.int 100)) (wNil)))) (wOp dMod (wVar 7) (wC (.int 2)))) (wNil))))
def w_f_law_any_system_2 : DE := wCall S_f_law_work (wCons (wVar 0) (wCons (wVar 8) (wCons (wCB bLen (wCons (wVar 3) (wNil))) (wCons (wC (.int 10)) (wNil)))))
def w_f_law_any_system_3 : DE := wCall S_f_law_wish (wCons (wVar 0) (wCons (wVar 4) (wCons (wVar 2) (wNil))))
def w_f_law_any_system : DS := wSeq (wAsg (wOp dMod (wCall S_f_law_next (wCons (wVar 0) (wNil))) (wC (.int 4))) (gNm 1)) (wSeq (wIf (wTest (wOp dGt (wVar 1) (wC (.int 0)))) (wRet (wCall S_f_law_system (wCons (wVar 0) (wCons (wC (.int 14)) (wCons (wC (.int 4)) (wCons (wC (.int 5)) (wCons (wC (.int 5)) (wCons (wC (.int 6)) (wNil))))))))) ((fun D env st => D.nx env st))) (wSeq (wAsg (wOp dAdd (wC (.int 1)) (wOp dMod (wCall S_f_law_next (wCons (wVar 0) (wNil))) (wC (.int 30)))) (gNm 2)) (wSeq (wAsg (wCB bTuple (wCons (wComp false (iRange1 (wCons (wOp dAdd (wC (.int 4)) (wOp dMod (wCall S_f_law_next (wCons (wVar 0) (wNil))) (wC (.int 2)))) (wNil))) (.nm 7) wYes w_f_law_any_system_1 [7]) (wNil))) (gNm 3)) (wSeq (wAsg (wOp dAdd (wC (.int 11)) (wOp dMod (wCall S_f_law_next (wCons (wVar 0) (wNil))) (wC (.int 2)))) (gNm 4)) (wSeq (wAsg (wCB bTuple (wCons (wComp false (iRange1 (wCons (wVar 4) (wNil))) (.nm 8) wYes w_f_law_any_system_2 [8]) (wNil))) (gNm 5)) (wSeq (wAsg (wOp dAdd (wC (.int 23)) (wOp dMod (wCall S_f_law_next (wCons (wVar 0) (wNil))) (wC (.int 2)))) (gNm 6)) (wRet (wTup (wCons (wVar 2) (wCons (wVar 3) (wCons (wVar 5) (wCons (wCB bTuple (wCons (wComp false (iRange1 (wCons (wVar 6) (wNil))) (.nm 9) wYes w_f_law_any_system_3 [9]) (wNil))) (wNil)))))))))))))
def S_f_law_any_system : DL.Spec := deckS 1 20000000 (fun _ : Unit => []) (fun _ => True) fun _ d => ∃ s : Sy, d = s.d ∧ s.Ok 30 5 12 10 24
theorem vc_f_law_any_system : ∀ g sto, (S_f_law_any_system.args g).length = S_f_law_any_system.n → S_f_law_any_system.pre g sto → w_f_law_any_system (bodyEnds (S_f_law_any_system.post g sto)) (startE ["_law_deck_here", "_law_sort", "_law_many", "_law_hands", "_law_count", "_law_works", "_law_wished", "_law_hand", "_law_work_here", "_law_k"] (S_f_law_any_system.args g)) sto := by
  rintro ⟨rest, B, _⟩ sto _ ⟨hD, hB, _⟩
  dsimp only at hD hB
  have z2 : 2 ≤ sizeLine := by decide
  have z4 : 4 ≤ sizeLine := by decide
  simp? only [w_f_law_any_system, S_f_law_any_system, deckS]
  refine next_use hD (by omega) fun x st x0 x1 hD => ?_
  (try simp? only [true_and])
  refine ⟨by decide, ?_⟩
  by_cases h0 : 0 < x % 4
  · rw [if_pos h0]
    refine sys_use hD (by omega) (by omega) (by omega) (by omega) (by omega) (by omega) fun s st hs hD => ?_
    exact ⟨⟨s, rfl, ⟨by have := hs.days; omega, by have := hs.hands; omega, hs.rows, by have := hs.works; omega, fun i w h => by have := hs.work i w h; exact ⟨by have := this.len; omega, this.ahead, this.able, this.any⟩, by have := hs.wishes; omega, hs.wish⟩⟩, hD.mono (by omega)⟩
  · rw [if_neg h0]
    refine next_use hD (by omega) fun m st m0 m1 hD => ?_
    (try simp? only [true_and])
    have hm := modb m (show (0 : Int) < 30 by decide)
    generalize m % 30 = m at hm
    refine ⟨by decide, next_use hD (by omega) fun h st h0 h1 hD => ?_⟩
    (try simp? only [true_and])
    refine ⟨by decide, ⟨by omega, by omega⟩, by rw [rangeD_len, sizeLine_eq]; omega, ?_⟩
    refine compL_deck dInts (fun _ r => Row (1 + m) r) (fun i => B + 3 + i * 1000) _ (hD.mono (by omega)) (fun i d st he hi hD R hR => ?_) fun rows hrl hrows st hD => ?_
    · obtain ⟨hi, rfl⟩ := rangeD_at he
      obtain ⟨v, hv, hv2⟩ := pk2 (a := 4) (b := 100) (x := 0 + (i : Int))
      simp? only [Tg.dg, wYes, w_f_law_any_system_1, hv]
      refine ⟨z2, by decide, rows_use hD (by omega) (by omega) (by omega) (by omega) fun row st' hrow hD => ?_⟩
      rw [show 1 + m - 1 + 1 = 1 + m by omega] at hrow
      exact hR row st' hrow (hD.mono (by omega))
    · rw [rangeD_len] at hrl hD
      (try simp? only [true_and])
      refine next_use hD (by omega) fun c st c0 c1 hD => ?_
      (try simp? only [true_and])
      refine ⟨by decide, ⟨by omega, by omega⟩, by rw [rangeD_len, sizeLine_eq]; omega, ?_⟩
      have hrl2 : 4 ≤ rows.length ∧ rows.length ≤ 5 := by omega
      refine compL_deck Wk.d (fun i w => w.Ok i rows.length 10) (fun i => B + 10000 + i * 10000) _ (hD.mono (by omega)) (fun i d st he hi hD R hR => ?_) fun ws hwl hws st hD => ?_
      · obtain ⟨hi, rfl⟩ := rangeD_at he
        simp? only [Tg.dg, wYes, w_f_law_any_system_2]
        refine work_use hD (by omega) (by omega) (by omega) (by omega) (by omega) (by omega) fun w st' hw hD => ?_
        rw [Int.zero_add] at hw
        exact hR w st' hw (hD.mono (by omega))
      · rw [rangeD_len] at hwl hD
        (try simp? only [true_and])
        refine next_use hD (by omega) fun u st u0 u1 hD => ?_
        (try simp? only [true_and])
        refine ⟨by decide, ⟨by omega, by omega⟩, by rw [rangeD_len, sizeLine_eq]; omega, ?_⟩
        refine compL_deck Ws.d (fun _ u => u.Ok ws.length (1 + m)) (fun i => B + 1000000 + i * 100) _ (hD.mono (by omega)) (fun i d st he hi hD R hR => ?_) fun us hul hus st hD => ?_
        · obtain ⟨hi, rfl⟩ := rangeD_at he
          simp? only [Tg.dg, wYes, w_f_law_any_system_3]
          refine wish_use hD (by omega) (by omega) (by omega) fun w st' hw hD => ?_
          rw [show (11 + c % 2 : Int) = (ws.length : Nat) by omega] at hw
          exact hR w st' hw (hD.mono (by omega))
        · rw [rangeD_len] at hul hD
          (try simp? only [true_and])
          have mem : ∀ {α : Type} {P : α → Prop} {xs : List α}, (∀ (j : Nat) x, xs[j]? = some x → P x) → ∀ x ∈ xs, P x := fun h x hx => by
            obtain ⟨i, hi, rfl⟩ := List.getElem_of_mem hx
            exact h i _ (List.getElem?_eq_getElem hi)
          exact ⟨z4, ⟨⟨1 + m, rows, ws, us⟩, rfl, ⟨⟨by dsimp only; omega, by dsimp only; omega⟩, ⟨by dsimp only; omega, by dsimp only; omega⟩, mem hrows, by dsimp only; omega, hws, by dsimp only; omega, mem hus⟩⟩, hD.mono (by omega)⟩
theorem inc_zipR {α : Type} (lt : α → α → Bool) (tr : ∀ a b c, lt a b = true → lt b c = true → lt a c = true) : ∀ r : List α, ((r.dropLast.zip (r.drop 1)).all fun x => lt x.1 x.2) = true ↔ r.Pairwise fun p q => lt p q = true
  | [] => by simp
  | [x] => by simp
  | x :: y :: r => by
    have ih := inc_zipR lt tr (y :: r)
    have e : ((x :: y :: r).dropLast.zip ((x :: y :: r).drop 1)) = (x, y) :: ((y :: r).dropLast.zip ((y :: r).drop 1)) := by simp
    rw [e, List.all_cons, Bool.and_eq_true, ih]
    rw [List.pairwise_cons (a := x)]
    constructor
    · rintro ⟨h1, h2⟩
      refine ⟨fun z hz => ?_, h2⟩
      rcases List.mem_cons.mp hz with rfl | hz
      · exact h1
      · exact tr _ _ _ h1 ((List.pairwise_cons.mp h2).1 z hz)
    · rintro ⟨h1, h2⟩
      exact ⟨h1 y List.mem_cons_self, h2⟩
theorem cut_last {α : Type} (xs : List α) : cutL xs none (some (-1)) = xs.dropLast := by
  have e : HT.sIx xs.length xs.length (some (-1)) = xs.length - 1 := by
    show (if (-1 : Int) < 0 then ((-1 : Int) + (xs.length : Int)).toNat else min (-1 : Int).toNat xs.length) = xs.length - 1
    rw [if_pos (by decide)]
    omega
  unfold cutL
  rw [show HT.sIx xs.length 0 none = 0 from rfl, e, List.drop_zero, Nat.sub_zero, List.dropLast_eq_take]
theorem v_neg {i : Int} {env : En} {st : Sto} {Q : DK} : wNeg (wC (.int i)) env st Q = Q (.int (-i)) st := by
  unfold wNeg wC
  exact propext ⟨fun ⟨_, e, q⟩ => by cases e; exact q, fun q => ⟨_, rfl, q⟩⟩
theorem len_blk : ∀ ds : List D, ds.length ≤ D.blkL ds
  | [] => Nat.zero_le _
  | d :: r => by simp only [D.blkL, List.length_cons]; have := len_blk r; omega
theorem item_blk : ∀ {ds : List D} {d : D}, d ∈ ds → d.blk ≤ D.blkL ds
  | [], _, h => by cases h
  | x :: r, d, h => by
    simp only [D.blkL]
    rcases List.mem_cons.mp h with rfl | h
    · omega
    · have := item_blk h; omega
structure Any (d : D) : Prop where
  blw : d.blw 0 = true
  blk : d.blk ≤ 1000000
theorem Any.noRef {d : D} (h : Any d) : d.noRef := noRef_of h.blw
theorem Any.item {ds : List D} (h : Any (.tup ds)) {d : D} (hd : d ∈ ds) : Any d := ⟨blw_items h.blw d hd, by have := item_blk hd; have h2 := h.blk; simp only [D.blk] at h2; omega⟩
theorem Any.len {ds : List D} (h : Any (.tup ds)) : ds.length ≤ 1000000 := by have := len_blk ds; have h2 := h.blk; simp only [D.blk] at h2; omega
theorem decode {α : Type} {enc : α → D} : ∀ {ds : List D} {P : Nat → α → Prop}, (∀ (i : Nat) x, ds[i]? = some x → ∃ a, x = enc a ∧ P i a) → ∃ xs : List α, ds = xs.map enc ∧ ∀ (i : Nat) a, xs[i]? = some a → P i a
  | [], _, _ => ⟨[], rfl, fun i a h => by simp at h⟩
  | d :: r, P, h => by
    obtain ⟨a, e, h0⟩ := h 0 d rfl
    obtain ⟨xs, e2, h2⟩ := decode (ds := r) (P := fun i => P (i + 1)) fun i x hx => h (i + 1) x hx
    refine ⟨a :: xs, by rw [e, e2]; rfl, fun i b hb => ?_⟩
    cases i with
    | zero => cases hb; exact h0
    | succ i => exact h2 i b hb
theorem isa_tup {d : D} : (∃ ds, d = .tup ds) ∨ (d.isa "tuple" = false ∧ ∀ ds, d ≠ .tup ds) := by
  cases d with
  | tup ds => exact .inl ⟨ds, rfl⟩
  | _ => exact .inr ⟨rfl, fun ds h => nomatch h⟩
theorem isa_tupT {ds : List D} : D.isa "tuple" (.tup ds) = true := rfl
theorem dInts_inj {a b : List Int} (h : dInts a = dInts b) : a = b := by
  unfold dInts at h
  injection h with h
  exact (List.map_inj_right fun _ _ e => by injection e).mp h
theorem fromF_iff {d : D} {a b : Int} : fromF d a b = true ↔ ∃ i, d = .int i ∧ a ≤ i ∧ i ≤ b := by
  cases d with
  | int i =>
    simp only [fromF]
    by_cases h : a ≤ i
    · rw [if_pos h, decide_eq_true_iff]
      exact ⟨fun h2 => ⟨i, rfl, h, h2⟩, fun ⟨j, e, _, h2⟩ => by cases e; exact h2⟩
    · rw [if_neg h]
      exact ⟨fun h => (nomatch h), fun ⟨j, e, h2, _⟩ => by cases e; exact absurd h2 h⟩
  | _ => exact ⟨fun h => (nomatch h), fun ⟨j, e, _⟩ => nomatch e⟩
noncomputable def risD (d : D) (hi : Int) : Bool := tr (∃ ns, d = dInts ns ∧ Row (hi + 1) ns)
def w_p_is_rising_1 : DE := wCall S_p_is_from (wCons (wVar 2) (wCons (wC (.int 0)) (wCons (wVar 1) (wNil))))
def w_p_is_rising_2 : DE := wOp dLt (wVar 2) (wVar 3)
def w_p_is_rising : DS := wSeq (wIf (wOr (wNot (wTest (wIsi "tuple" (wVar 0)))) (wNot (wTest (wCB bAll (wCons (wComp false (iSeq (wVar 0)) (.nm 2) wYes w_p_is_rising_1 [2]) (wNil)))))) (wRet (wC (.bl false))) ((fun D env st => D.nx env st))) (wRet (wCB bAll (wCons (wComp false (iZip (wSl false (wVar 0) oNo (oPart (wNeg (wC (.int 1))))) (wSl false (wVar 0) (oPart (wC (.int 1))) oNo)) (.tp [2, 3]) wYes w_p_is_rising_2 [2, 3]) (wNil))))
noncomputable def S_p_is_rising : DL.Spec := pureS 2 (fun x : D × Int => [x.1, .int x.2]) (fun x => Any x.1) (fun x => .bl (risD x.1 x.2))
theorem vc_p_is_rising : ∀ g sto, (S_p_is_rising.args g).length = S_p_is_rising.n → S_p_is_rising.pre g sto → w_p_is_rising (bodyEnds (S_p_is_rising.post g sto)) (startE ["thing", "high", "one", "other"] (S_p_is_rising.args g)) sto := by
  rintro ⟨d, hi⟩ sto _ (hA : Any d)
  simp? only [w_p_is_rising, S_p_is_rising, pureS]
  refine ⟨hA.noRef, ?_⟩
  rcases isa_tup (d := d) with ⟨ds, rfl⟩ | ⟨h1, h2⟩
  · have hl := hA.len
    simp? only [isa_tupT]
    refine ⟨by rw [sizeLine_eq]; omega, ?_⟩
    have em : ds = ds.map id := (List.map_id ds).symm
    rw [em]
    refine compL_all id (fun x => fromF x 0 hi) D.bl trivial _ (fun x hx R hR => ?_) ?_
    · simp? only [Tg.dg, wYes, w_p_is_rising_1]
      exact use_pure (x, 0, hi) rfl rfl (hA.item hx).noRef hR
    · simp? only [List.map_id, v_all]
      cases ha : (ds.map fun x => fromF x 0 hi).all id with
      | false =>
        (try simp? only [true_and])
        refine congrArg D.bl (tr_false ?_).symm
        rintro ⟨ns, e, h⟩
        unfold dInts at e
        injection e with e
        subst e
        rw [List.all_map, List.all_eq_false] at ha
        obtain ⟨x, hx, hx2⟩ := ha
        obtain ⟨n, hn, rfl⟩ := List.mem_map.mp hx
        have := h.2 n hn
        exact hx2 (fromF_iff.mpr ⟨n, rfl, by omega, by omega⟩)
      | true =>
        rw [List.all_map, List.all_eq_true] at ha
        obtain ⟨ns, rfl, hns⟩ := decode (enc := D.int) (ds := ds) (P := fun _ n => 0 ≤ n ∧ n ≤ hi) fun i x hx => fromF_iff.mp (ha x (List.mem_of_getElem? hx))
        have hns2 : ∀ x ∈ ns, 0 ≤ x ∧ x < hi + 1 := fun x hx => by
          obtain ⟨i, hi', rfl⟩ := List.getElem_of_mem hx
          have := hns i _ (List.getElem?_eq_getElem hi')
          omega
        have e1 : (some (1 : Int)) = some ((1 : Nat) : Int) := rfl
        simp? only [v_neg, v_slT]
        rw [cut_last, e1, cut_drop, ← List.map_dropLast, ← List.map_drop, zip_map]
        rw [List.length_map] at hl
        refine ⟨by rw [List.length_map, List.length_zip, List.length_dropLast, List.length_drop, sizeLine_eq]; omega, ?_⟩
        refine compL_all (fun x : Int × Int => .tup [.int x.1, .int x.2]) (fun x => decide (x.1 < x.2)) D.bl trivial _ (fun x hx R hR => ?_) ?_
        · simp? only [Tg.dg, List.foldr_cons, List.foldr_nil, wYes, w_p_is_rising_2]
          exact hR
        · (try simp? only [true_and])
          simp? only [v_all, List.all_map]
          refine congrArg D.bl ?_
          apply tr_eq
          have key := inc_zipR (fun a b : Int => decide (a < b)) (fun a b c h1 h2 => decide_eq_true (by have := of_decide_eq_true h1; have := of_decide_eq_true h2; omega)) ns
          show ((ns.dropLast.zip (ns.drop 1)).all fun x => decide (x.1 < x.2)) = true ↔ _
          rw [key]
          constructor
          · exact fun h => ⟨ns, rfl, h.imp fun {a b} h => of_decide_eq_true h, hns2⟩
          · rintro ⟨ns', e, h, _⟩
            rw [dInts_inj (a := ns) (b := ns') e]
            exact h.imp fun {a b} h => decide_eq_true h
  · simp? only [h1]
    exact congrArg D.bl (tr_false fun ⟨ns, e, _⟩ => h2 _ e).symm
def w_f_law_is_rising_1 : DS := wSeq (wIf (wNot (wTest (wCall S_f_law_is_from (wCons (wVar 3) (wCons (wVar 2) (wCons (wVar 1) (wNil))))))) (wRet (wC (.bl false))) ((fun D env st => D.nx env st))) (wAsg (wOp dAdd (wVar 3) (wC (.int 1))) (gNm 2))
def w_f_law_is_rising : DS := wSeq (wIf (wNot (wTest (wIsi "tuple" (wVar 0)))) (wRet (wC (.bl false))) ((fun D env st => D.nx env st))) (wSeq (wAsg (wC (.int 0)) (gNm 2)) (wSeq (wFor (iSeq (wVar 0)) (gNm 3) w_f_law_is_rising_1) (wRet (wC (.bl true)))))
noncomputable def S_f_law_is_rising : DL.Spec := pureS 2 (fun x : D × Int => [x.1, .int x.2]) (fun x => Any x.1) (fun x => .bl (risD x.1 x.2))
theorem row_snoc {n x : Int} {ns : List Int} : Row n (ns ++ [x]) ↔ Row n ns ∧ (∀ y ∈ ns, y < x) ∧ 0 ≤ x ∧ x < n := by
  unfold Row
  rw [List.pairwise_append]
  constructor
  · rintro ⟨⟨h1, _, h2⟩, h3⟩
    exact ⟨⟨h1, fun y hy => h3 y (List.mem_append_left _ hy)⟩, fun y hy => h2 y hy x List.mem_cons_self, h3 x (List.mem_append_right _ List.mem_cons_self)⟩
  · rintro ⟨⟨h1, h2⟩, h3, h4⟩
    refine ⟨⟨h1, List.pairwise_singleton _ _, fun a ha b hb => ?_⟩, fun y hy => ?_⟩
    · rw [List.mem_singleton] at hb; subst hb; exact h3 a ha
    · rcases List.mem_append.mp hy with z | z
      · exact h2 y z
      · rw [List.mem_singleton] at z; subst z; exact h4
theorem vc_f_law_is_rising : ∀ g sto, (S_f_law_is_rising.args g).length = S_f_law_is_rising.n → S_f_law_is_rising.pre g sto → w_f_law_is_rising (bodyEnds (S_f_law_is_rising.post g sto)) (startE ["_law_thing", "_law_high", "_law_least", "_law_one"] (S_f_law_is_rising.args g)) sto := by
  rintro ⟨d, hi⟩ sto _ (hA : Any d)
  simp? only [w_f_law_is_rising, S_f_law_is_rising, pureS]
  refine ⟨hA.noRef, ?_⟩
  rcases isa_tup (d := d) with ⟨ds, rfl⟩ | ⟨h1, h2⟩
  · simp? only [isa_tupT]
    refine forL_inv (fun i e st => ∃ x3 lo ns, e = [some (.tup ds), some (.int hi), some (.int lo), x3] ∧ st = sto ∧ ds.take i = ns.map .int ∧ Row (hi + 1) ns ∧ (∀ y ∈ ns, y < lo) ∧ (lo = 0 ∨ lo - 1 ∈ ns) ∧ 0 ≤ lo) ?_ ?_ _ _ ⟨_, 0, [], rfl, rfl, rfl, ⟨.nil, fun _ h => (nomatch h)⟩, fun _ h => (nomatch h), .inl rfl, by decide⟩
    · rintro i e st x ⟨x3, lo, ns, rfl, rfl, ht, hrow, hlo, hlo2, hlo3⟩ hx R hR
      refine ⟨trivial, ?_⟩
      simp? only [w_f_law_is_rising_1]
      refine use_pure (x, lo, hi) rfl rfl (hA.item (List.mem_of_getElem? hx)).noRef ?_
      dsimp only
      cases hf : fromF x lo hi with
      | true =>
        obtain ⟨n, rfl, h3, h4⟩ := fromF_iff.mp hf
        (try simp? only [true_and])
        refine hR _ _ ⟨_, _, ns ++ [n], rfl, rfl, by rw [take_snoc hx, ht, List.map_append]; rfl, row_snoc.mpr ⟨hrow, fun y hy => by have := hlo y hy; omega, by omega, by omega⟩, fun y hy => ?_, .inr (List.mem_append_right _ (List.mem_singleton.mpr (by omega))), by omega⟩
        rcases List.mem_append.mp hy with z | z
        · have := hlo y z; omega
        · rw [List.mem_singleton] at z; omega
      | false =>
        (try simp? only [true_and])
        refine congrArg D.bl (tr_false ?_).symm
        rintro ⟨ms, e, h⟩
        unfold dInts at e
        injection e with e
        subst e
        rw [← List.map_take] at ht
        have hm : ns = ms.take i := ((List.map_inj_right fun _ _ e => by injection e).mp ht).symm
        rw [List.getElem?_map] at hx
        cases e : ms[i]? with
        | none => rw [e] at hx; cases hx
        | some n =>
          rw [e] at hx
          cases hx
          have h5 := take_snoc e
          have h6 : Row (hi + 1) (ms.take (i + 1)) := ⟨h.1.sublist (List.take_sublist _ _), fun y hy => h.2 y (List.mem_of_mem_take hy)⟩
          rw [h5, ← hm, row_snoc] at h6
          have : fromF (.int n) lo hi = true := fromF_iff.mpr ⟨n, rfl, by
            rcases hlo2 with z | z
            · omega
            · have := h6.2.1 _ z; omega, by omega⟩
          rw [this] at hf
          cases hf
    · rintro e st ⟨x3, lo, ns, rfl, rfl, ht, hrow, _⟩
      rw [List.take_length] at ht
      subst ht
      exact ⟨trivial, rfl, congrArg D.bl (tr_true ⟨ns, rfl, hrow⟩).symm⟩
  · simp? only [h1]
    exact congrArg D.bl (tr_false fun ⟨ns, e, _⟩ => h2 _ e).symm
inductive Chg where
  | wish (u : Ws) | unwish (k : Nat) | work (w : Wk) | drop (k : Nat) | longer (k : Nat) (l : Int) | away (h : Nat) (a b : Int) | hand (row able : List Int)
def Chg.d : Chg → D
  | .wish u => .tup [.str "wish", .int u.work, .int u.kind, .int u.day, .int u.weight, .int u.rank]
  | .unwish k => .tup [.str "unwish", .int k]
  | .work w => .tup [.str "work", .int w.len, dInts w.ahead, dInts w.able]
  | .drop k => .tup [.str "drop", .int k]
  | .longer k l => .tup [.str "longer", .int k, .int l]
  | .away h a b => .tup [.str "away", .int h, .int a, .int b]
  | .hand row able => .tup [.str "hand", dInts row, dInts able]
abbrev Sy24 (s : Sy) : Prop := s.Ok 30 5 12 10 24
def ChgOk (s : Sy) : Chg → Prop
  | .wish u => u.Ok s.works.length s.days ∧ s.wishes.length < 24
  | .unwish k => k < s.wishes.length
  | .work w => w.Ok s.works.length s.hands.length 10 ∧ s.works.length < 12
  | .drop k => k < s.works.length
  | .longer k l => k < s.works.length ∧ 1 ≤ l ∧ l ≤ 10
  | .away h a b => h < s.hands.length ∧ 0 ≤ a ∧ a ≤ s.days ∧ 0 ≤ b ∧ b ≤ s.days
  | .hand row able => Row s.days row ∧ Row s.works.length able ∧ s.hands.length < 5
theorem fit_word {k : Nat} {x : Str} (h : ((D.str x).ok && (D.str x).sml && decide ((D.str x).blk ≤ 10)) = true) : FitN k 10 (.str x) := by
  simp only [Bool.and_eq_true, decide_eq_true_eq] at h
  exact ⟨h.1.1, h.1.2, h.2, Nat.zero_le _⟩
/-- a tuple of so many -/
theorem tup3 {ds : List D} (h : ds.length = 3) : ∃ a b c, ds = [a, b, c] := by
  match ds, h with
  | [a, b, c], _ => exact ⟨a, b, c, rfl⟩
theorem tup5 {ds : List D} (h : ds.length = 5) : ∃ a b c d e, ds = [a, b, c, d, e] := by
  match ds, h with
  | [a, b, c, d, e], _ => exact ⟨a, b, c, d, e, rfl⟩
theorem len_ne {n : Nat} {m : Int} (h : (n : Int) ≠ m) : (!((n : Int) == m)) = true := by rw [Bool.not_eq_true', beq_eq_false_iff_ne]; exact h
theorem ris_iff {d : D} {n : Int} : risD d (n - 1) = true ↔ ∃ ns, d = dInts ns ∧ Row n ns := by
  unfold risD
  rw [tr_iff, show n - 1 + 1 = n by omega]
noncomputable def workD (d : D) (number hands : Int) : Bool := tr (∃ w : Wk, d = w.d ∧ w.Ok number hands 10)
theorem dInts_nil {ns : List Int} : dInts ns = .tup [] ↔ ns = [] := by
  constructor
  · intro h; exact dInts_inj (b := []) h
  · rintro rfl; rfl
theorem work_iff {a b c : D} {n h : Int} : (∃ w : Wk, D.tup [a, b, c] = w.d ∧ w.Ok n h 10) ↔ fromF a 1 10 = true ∧ risD b (n - 1) = true ∧ risD c (h - 1) = true ∧ c ≠ .tup [] := by
  rw [fromF_iff, ris_iff, ris_iff]
  constructor
  · rintro ⟨⟨l, ah, ab⟩, e, ok⟩
    unfold Wk.d at e
    injection e with e
    injection e with e1 e
    injection e with e2 e
    injection e with e3 _
    subst e1 e2 e3
    exact ⟨⟨l, rfl, ok.len⟩, ⟨ah, rfl, ok.ahead⟩, ⟨ab, rfl, ok.able⟩, fun h => ok.any (dInts_nil.mp h)⟩
  · rintro ⟨⟨l, rfl, h1⟩, ⟨ah, rfl, h2⟩, ⟨ab, rfl, h3⟩, h4⟩
    exact ⟨⟨l, ah, ab⟩, rfl, h1, h2, h3, fun h => h4 (by rw [show ab = [] from h]; rfl)⟩
def w_p_is_work : DS := wSeq (wIf (wOr (wNot (wTest (wIsi "tuple" (wVar 0)))) (wTest (wOp dNe (wCB bLen (wCons (wVar 0) (wNil))) (wC (.int 3))))) (wRet (wC (.bl false))) ((fun D env st => D.nx env st))) (wSeq (wAsg (wVar 0) (gTp 3 (gCn (gNm 3) (gCn (gNm 4) (gCn (gNm 5) gNl))))) (wSeq (wIf (wOr (wNot (wTest (wCall S_p_is_from (wCons (wVar 3) (wCons (wC (.int 1)) (wCons (wC (.int 10)) (wNil))))))) (wNot (wTest (wCall S_p_is_rising (wCons (wVar 4) (wCons (wOp dSub (wVar 1) (wC (.int 1))) (wNil))))))) (wRet (wC (.bl false))) ((fun D env st => D.nx env st))) (wRet (wAndV (wCall S_p_is_rising (wCons (wVar 5) (wCons (wOp dSub (wVar 2) (wC (.int 1))) (wNil)))) (wOp dGt (wCB bLen (wCons (wVar 5) (wNil))) (wC (.int 0)))))))
noncomputable def S_p_is_work : DL.Spec := pureS 3 (fun x : D × Int × Int => [x.1, .int x.2.1, .int x.2.2]) (fun x => Any x.1) (fun x => .bl (workD x.1 x.2.1 x.2.2))
theorem vc_p_is_work : ∀ g sto, (S_p_is_work.args g).length = S_p_is_work.n → S_p_is_work.pre g sto → w_p_is_work (bodyEnds (S_p_is_work.post g sto)) (startE ["thing", "number", "hands", "length", "ahead", "able"] (S_p_is_work.args g)) sto := by
  rintro ⟨d, n, h⟩ sto _ (hA : Any d)
  simp? only [w_p_is_work, S_p_is_work, pureS]
  refine ⟨hA.noRef, ?_⟩
  rcases isa_tup (d := d) with ⟨ds, rfl⟩ | ⟨h1, h2⟩
  · simp? only [isa_tupT]
    by_cases hl : ds.length = 3
    · obtain ⟨a, b, c, rfl⟩ := tup3 hl
      have ia := hA.item (d := a) (by simp)
      have ib := hA.item (d := b) (by simp)
      have ic := hA.item (d := c) (by simp)
      unfold workD
      rw [if_neg (show ¬(!((([a, b, c].length : Nat) : Int) == 3)) = true by simp)]
      (try simp? only [true_and])
      refine use_pure (a, 1, 10) rfl rfl ia.noRef ?_
      dsimp only
      cases c1 : fromF a 1 10 with
      | false =>
        (try simp? only [true_and])
        exact congrArg D.bl (tr_false fun h => by rw [(work_iff.mp h).1] at c1; cases c1).symm
      | true =>
        (try simp? only [true_and])
        refine use_pure (b, n - 1) rfl rfl ib ?_
        dsimp only
        cases c2 : risD b (n - 1) with
        | false =>
          (try simp? only [true_and])
          exact congrArg D.bl (tr_false fun h => by rw [(work_iff.mp h).2.1] at c2; cases c2).symm
        | true =>
          (try simp? only [true_and])
          refine use_pure (c, h - 1) rfl rfl ic ?_
          dsimp only
          cases c3 : risD c (h - 1) with
          | false =>
            (try simp? only [true_and])
            exact congrArg D.bl (tr_false fun h => by rw [(work_iff.mp h).2.2.1] at c3; cases c3).symm
          | true =>
            obtain ⟨ns, rfl, hns⟩ := ris_iff.mp c3
            simp? only [true_and]
            refine congrArg D.bl ?_
            apply tr_eq
            rw [work_iff, c1, c2, c3, decide_eq_true_iff]
            constructor
            · intro h0
              refine ⟨rfl, rfl, rfl, fun e => ?_⟩
              rw [dInts_nil.mp e] at h0
              simp at h0
            · rintro ⟨_, _, _, h0⟩
              have : ns ≠ [] := fun e => h0 (by rw [e]; rfl)
              have := List.length_pos_iff.mpr this
              omega
    · rw [if_pos (len_ne (m := 3) (by omega))]
      refine congrArg D.bl (tr_false ?_).symm
      rintro ⟨w, e, _⟩
      unfold Wk.d at e
      injection e with e
      rw [e] at hl
      exact hl rfl
  · simp? only [h1]
    exact congrArg D.bl (tr_false fun ⟨ns, e, _⟩ => h2 _ e).symm
noncomputable def wishD (d : D) (days works : Int) : Bool := tr (∃ u : Ws, d = u.d ∧ u.Ok works days)
theorem wish_iff {a b c e f : D} {days works : Int} : (∃ u : Ws, D.tup [a, b, c, e, f] = u.d ∧ u.Ok works days) ↔ fromF a 0 (works - 1) = true ∧ fromF b 0 1 = true ∧ fromF c 0 days = true ∧ fromF e 1 100 = true ∧ fromF f 0 3 = true := by
  rw [fromF_iff, fromF_iff, fromF_iff, fromF_iff, fromF_iff]
  constructor
  · rintro ⟨⟨x1, x2, x3, x4, x5⟩, h, ok⟩
    unfold Ws.d at h
    injection h with h
    injection h with e1 h
    injection h with e2 h
    injection h with e3 h
    injection h with e4 h
    injection h with e5 _
    subst e1 e2 e3 e4 e5
    have h1 := ok.work
    have h2 := ok.kind
    have h3 := ok.day
    have h4 := ok.weight
    have h5 := ok.rank
    dsimp only at h1 h2 h3 h4 h5
    exact ⟨⟨x1, rfl, by omega, by omega⟩, ⟨x2, rfl, h2⟩, ⟨x3, rfl, h3⟩, ⟨x4, rfl, h4⟩, ⟨x5, rfl, h5⟩⟩
  · rintro ⟨⟨x1, rfl, h1⟩, ⟨x2, rfl, h2⟩, ⟨x3, rfl, h3⟩, ⟨x4, rfl, h4⟩, ⟨x5, rfl, h5⟩⟩
    exact ⟨⟨x1, x2, x3, x4, x5⟩, rfl, ⟨by dsimp only; omega, h2, h3, h4, h5⟩⟩
def w_p_is_wish : DS := wSeq (wIf (wOr (wNot (wTest (wIsi "tuple" (wVar 0)))) (wTest (wOp dNe (wCB bLen (wCons (wVar 0) (wNil))) (wC (.int 5))))) (wRet (wC (.bl false))) ((fun D env st => D.nx env st))) (wSeq (wAsg (wVar 0) (gTp 5 (gCn (gNm 3) (gCn (gNm 4) (gCn (gNm 5) (gCn (gNm 6) (gCn (gNm 7) gNl))))))) (wSeq (wIf (wOr (wNot (wTest (wCall S_p_is_from (wCons (wVar 3) (wCons (wC (.int 0)) (wCons (wOp dSub (wVar 2) (wC (.int 1))) (wNil))))))) (wOr (wNot (wTest (wCall S_p_is_from (wCons (wVar 4) (wCons (wC (.int 0)) (wCons (wC (.int 1)) (wNil))))))) (wNot (wTest (wCall S_p_is_from (wCons (wVar 5) (wCons (wC (.int 0)) (wCons (wVar 1) (wNil))))))))) (wRet (wC (.bl false))) ((fun D env st => D.nx env st))) (wRet (wAndV (wCall S_p_is_from (wCons (wVar 6) (wCons (wC (.int 1)) (wCons (wC (.int 100)) (wNil))))) (wCall S_p_is_from (wCons (wVar 7) (wCons (wC (.int 0)) (wCons (wOp dSub (wC (.int 4)) (wC (.int 1))) (wNil)))))))))
noncomputable def S_p_is_wish : DL.Spec := pureS 3 (fun x : D × Int × Int => [x.1, .int x.2.1, .int x.2.2]) (fun x => Any x.1) (fun x => .bl (wishD x.1 x.2.1 x.2.2))
theorem vc_p_is_wish : ∀ g sto, (S_p_is_wish.args g).length = S_p_is_wish.n → S_p_is_wish.pre g sto → w_p_is_wish (bodyEnds (S_p_is_wish.post g sto)) (startE ["thing", "days", "works", "work", "sort", "day", "weight", "rank"] (S_p_is_wish.args g)) sto := by
  rintro ⟨d, days, works⟩ sto _ (hA : Any d)
  simp? only [w_p_is_wish, S_p_is_wish, pureS]
  refine ⟨hA.noRef, ?_⟩
  rcases isa_tup (d := d) with ⟨ds, rfl⟩ | ⟨h1, h2⟩
  · simp? only [isa_tupT]
    by_cases hl : ds.length = 5
    · obtain ⟨a, b, c, e, f, rfl⟩ := tup5 hl
      have ia := (hA.item (d := a) (by simp)).noRef
      have ib := (hA.item (d := b) (by simp)).noRef
      have ic := (hA.item (d := c) (by simp)).noRef
      have ie := (hA.item (d := e) (by simp)).noRef
      have iff := (hA.item (d := f) (by simp)).noRef
      unfold wishD
      have no : ∀ {p : Bool}, p = false → ((∃ u : Ws, D.tup [a, b, c, e, f] = u.d ∧ u.Ok works days) → p = true) → D.bl false = D.bl (tr (∃ u : Ws, D.tup [a, b, c, e, f] = u.d ∧ u.Ok works days)) := fun h h' => congrArg D.bl (tr_false fun q => by rw [h' q] at h; cases h).symm
      rw [if_neg (show ¬(!((([a, b, c, e, f].length : Nat) : Int) == 5)) = true by simp)]
      (try simp? only [true_and])
      refine use_pure (a, 0, works - 1) rfl rfl ia ?_
      dsimp only
      cases c1 : fromF a 0 (works - 1) with
      | false => (try simp? only [true_and]); exact no c1 fun h => (wish_iff.mp h).1
      | true =>
        (try simp? only [true_and])
        refine use_pure (b, 0, 1) rfl rfl ib ?_
        dsimp only
        cases c2 : fromF b 0 1 with
        | false => (try simp? only [true_and]); exact no c2 fun h => (wish_iff.mp h).2.1
        | true =>
          (try simp? only [true_and])
          refine use_pure (c, 0, days) rfl rfl ic ?_
          dsimp only
          cases c3 : fromF c 0 days with
          | false => (try simp? only [true_and]); exact no c3 fun h => (wish_iff.mp h).2.2.1
          | true =>
            (try simp? only [true_and])
            refine use_pure (e, 1, 100) rfl rfl ie ?_
            dsimp only
            cases c4 : fromF e 1 100 with
            | false => (try simp? only [true_and]); exact no c4 fun h => (wish_iff.mp h).2.2.2.1
            | true =>
              have e3 : (4 : Int) - 1 = 3 := by decide
              simp? only [e3]
              refine use_pure (f, 0, 3) rfl rfl iff ?_
              refine ⟨rfl, congrArg D.bl ?_⟩
              dsimp only
              apply tr_eq
              rw [wish_iff, c1, c2, c3, c4]
              exact ⟨fun h => ⟨rfl, rfl, rfl, rfl, h⟩, fun h => h.2.2.2.2⟩
    · rw [if_pos (len_ne (m := 5) (by omega))]
      refine congrArg D.bl (tr_false ?_).symm
      rintro ⟨w, e, _⟩
      unfold Ws.d at e
      injection e with e
      rw [e] at hl
      exact hl rfl
  · simp? only [h1]
    exact congrArg D.bl (tr_false fun ⟨ns, e, _⟩ => h2 _ e).symm
def w_f_law_is_work : DS := wSeq (wIf (wOr (wNot (wTest (wIsi "tuple" (wVar 0)))) (wTest (wOp dNe (wCB bLen (wCons (wVar 0) (wNil))) (wC (.int 3))))) (wRet (wC (.bl false))) ((fun D env st => D.nx env st))) (wSeq (wIf (wOr (wNot (wTest (wCall S_f_law_is_from (wCons (wOp dIx (wVar 0) (wC (.int 0))) (wCons (wC (.int 1)) (wCons (wC (.int 10)) (wNil))))))) (wNot (wTest (wCall S_f_law_is_rising (wCons (wOp dIx (wVar 0) (wC (.int 1))) (wCons (wOp dSub (wVar 1) (wC (.int 1))) (wNil))))))) (wRet (wC (.bl false))) ((fun D env st => D.nx env st))) (wRet (wAndV (wCall S_f_law_is_rising (wCons (wOp dIx (wVar 0) (wC (.int 2))) (wCons (wOp dSub (wVar 2) (wC (.int 1))) (wNil)))) (wOp dNe (wOp dIx (wVar 0) (wC (.int 2))) (wTup (wNil))))))
noncomputable def S_f_law_is_work : DL.Spec := pureS 3 (fun x : D × Int × Int => [x.1, .int x.2.1, .int x.2.2]) (fun x => Any x.1) (fun x => .bl (workD x.1 x.2.1 x.2.2))
theorem v_eqNI {ns : List Int} {f : Bool → Bool} {st : Sto} {Q : DK} : dEqB f (dInts ns) (.tup []) st Q = Q (.bl (f ns.isEmpty)) st := by
  unfold dInts
  rw [v_eqNt]
  simp only [okL_ints, isE_map, true_and]
theorem vc_f_law_is_work : ∀ g sto, (S_f_law_is_work.args g).length = S_f_law_is_work.n → S_f_law_is_work.pre g sto → w_f_law_is_work (bodyEnds (S_f_law_is_work.post g sto)) (startE ["_law_thing", "_law_number", "_law_hands"] (S_f_law_is_work.args g)) sto := by
  rintro ⟨d, n, h⟩ sto _ (hA : Any d)
  simp? only [w_f_law_is_work, S_f_law_is_work, pureS]
  refine ⟨hA.noRef, ?_⟩
  rcases isa_tup (d := d) with ⟨ds, rfl⟩ | ⟨h1, h2⟩
  · simp? only [isa_tupT]
    by_cases hl : ds.length = 3
    · obtain ⟨a, b, c, rfl⟩ := tup3 hl
      have ia := hA.item (d := a) (by simp)
      have ib := hA.item (d := b) (by simp)
      have ic := hA.item (d := c) (by simp)
      unfold workD
      rw [if_neg (show ¬(!((([a, b, c].length : Nat) : Int) == 3)) = true by simp)]
      (try simp? only [true_and])
      refine use_pure (a, 1, 10) rfl rfl ia.noRef ?_
      dsimp only
      cases c1 : fromF a 1 10 with
      | false =>
        (try simp? only [true_and])
        exact congrArg D.bl (tr_false fun h => by rw [(work_iff.mp h).1] at c1; cases c1).symm
      | true =>
        (try simp? only [true_and])
        refine use_pure (b, n - 1) rfl rfl ib ?_
        dsimp only
        cases c2 : risD b (n - 1) with
        | false =>
          (try simp? only [true_and])
          exact congrArg D.bl (tr_false fun h => by rw [(work_iff.mp h).2.1] at c2; cases c2).symm
        | true =>
          (try simp? only [true_and])
          refine use_pure (c, h - 1) rfl rfl ic ?_
          dsimp only
          cases c3 : risD c (h - 1) with
          | false =>
            (try simp? only [true_and])
            exact congrArg D.bl (tr_false fun h => by rw [(work_iff.mp h).2.2.1] at c3; cases c3).symm
          | true =>
            obtain ⟨ns, rfl, hns⟩ := ris_iff.mp c3
            simp? only [v_eqNI]
            refine ⟨Nat.zero_le _, ?_⟩
            refine congrArg D.bl ?_
            apply tr_eq
            rw [work_iff, c1, c2, c3]
            constructor
            · intro h0
              refine ⟨rfl, rfl, rfl, fun e => ?_⟩
              rw [dInts_nil.mp e] at h0
              cases h0
            · rintro ⟨_, _, _, h0⟩
              cases ns with
              | nil => exact absurd rfl h0
              | cons _ _ => rfl
    · rw [if_pos (len_ne (m := 3) (by omega))]
      refine congrArg D.bl (tr_false ?_).symm
      rintro ⟨w, e, _⟩
      unfold Wk.d at e
      injection e with e
      rw [e] at hl
      exact hl rfl
  · simp? only [h1]
    exact congrArg D.bl (tr_false fun ⟨ns, e, _⟩ => h2 _ e).symm
def w_f_law_is_wish_1 : DT := wNot (wTest (wCall S_f_law_is_from (wCons (wOp dIx (wVar 0) (wVar 4)) (wCons (wCB bInt (wCons (wOp dEq (wVar 4) (wC (.int 3))) (wNil))) (wCons (wOp dIx (wVar 3) (wVar 4)) (wNil))))))
def w_f_law_is_wish : DS := wSeq (wIf (wOr (wNot (wTest (wIsi "tuple" (wVar 0)))) (wTest (wOp dNe (wCB bLen (wCons (wVar 0) (wNil))) (wC (.int 5))))) (wRet (wC (.bl false))) ((fun D env st => D.nx env st))) (wSeq (wAsg (wLst false (wCons (wOp dSub (wVar 2) (wC (.int 1))) (wCons (wC (.int 1)) (wCons (wVar 1) (wCons (wC (.int 100)) (wCons (wC (.int 3)) (wNil))))))) (gNm 3)) (wRet (wOp dEq (wComp false (iRange1 (wCons (wC (.int 5)) (wNil))) (.nm 4) w_f_law_is_wish_1 (wVar 4) [4]) (wLst false (wNil)))))
noncomputable def S_f_law_is_wish : DL.Spec := pureS 3 (fun x : D × Int × Int => [x.1, .int x.2.1, .int x.2.2]) (fun x => Any x.1) (fun x => .bl (wishD x.1 x.2.1 x.2.2))
theorem vc_f_law_is_wish : ∀ g sto, (S_f_law_is_wish.args g).length = S_f_law_is_wish.n → S_f_law_is_wish.pre g sto → w_f_law_is_wish (bodyEnds (S_f_law_is_wish.post g sto)) (startE ["_law_thing", "_law_days", "_law_works", "_law_highs", "_law_k"] (S_f_law_is_wish.args g)) sto := by
  rintro ⟨d, days, works⟩ sto _ (hA : Any d)
  have z5 : 5 ≤ sizeLine := by decide
  simp? only [w_f_law_is_wish, S_f_law_is_wish, pureS]
  refine ⟨hA.noRef, ?_⟩
  rcases isa_tup (d := d) with ⟨ds, rfl⟩ | ⟨h1, h2⟩
  · simp? only [isa_tupT]
    by_cases hl : ds.length = 5
    · obtain ⟨a, b, c, e, f, rfl⟩ := tup5 hl
      rw [if_neg (show ¬(!((([a, b, c, e, f].length : Nat) : Int) == 5)) = true by simp)]
      (try simp? only [true_and])
      refine ⟨z5, by decide, by rw [rangeD_len]; exact z5, ?_⟩
      rw [rangeD_eq]
      have item : ∀ k ∈ rangeI 0 (5 : Int).toNat, ∃ x lo hi, atI [a, b, c, e, f] k = some x ∧ (x = a ∨ x = b ∨ x = c ∨ x = e ∨ x = f) ∧ (if (k == 3) = true then (1 : Int) else 0) = lo ∧ atI [D.int (works - 1), .int 1, .int days, .int 100, .int 3] k = some (.int hi) ∧ (!fromF x lo hi) = (if k = 0 then !fromF a 0 (works - 1) else if k = 1 then !fromF b 0 1 else if k = 2 then !fromF c 0 days else if k = 3 then !fromF e 1 100 else !fromF f 0 3) := fun k hk => by
        have hb := mem_rangeI.mp hk
        have h5 : k = 0 ∨ k = 1 ∨ k = 2 ∨ k = 3 ∨ k = 4 := by omega
        rcases h5 with rfl | rfl | rfl | rfl | rfl
        · exact ⟨a, 0, _, rfl, .inl rfl, rfl, rfl, rfl⟩
        · exact ⟨b, 0, _, rfl, .inr (.inl rfl), rfl, rfl, rfl⟩
        · exact ⟨c, 0, _, rfl, .inr (.inr (.inl rfl)), rfl, rfl, rfl⟩
        · exact ⟨e, 1, _, rfl, .inr (.inr (.inr (.inl rfl))), rfl, rfl, rfl⟩
        · exact ⟨f, 0, _, rfl, .inr (.inr (.inr (.inr rfl))), rfl, rfl, rfl⟩
      refine compL_flt D.int (fun k => if k = 0 then !fromF a 0 (works - 1) else if k = 1 then !fromF b 0 1 else if k = 2 then !fromF c 0 days else if k = 3 then !fromF e 1 100 else !fromF f 0 3) id D.int trivial _ (fun k hk R hR => ?_) ?_
      · obtain ⟨x, lo, hi, e1, e2, e3, e4, e5⟩ := item k hk
        have hx : Any x := hA.item (by rcases e2 with rfl | rfl | rfl | rfl | rfl <;> simp)
        simp? only [Tg.dg, w_f_law_is_wish_1, e1, e4]
        rw [e3]
        refine use_pure (x, lo, hi) rfl rfl hx.noRef ?_
        rw [← e5] at hR
        exact ⟨_, rfl, hR⟩
      · rw [List.map_id]
        simp? only [okL_ints, isE_map, isE_filter]
        refine ⟨Nat.zero_le _, ?_⟩
        refine congrArg D.bl ?_
        unfold wishD
        apply tr_eq
        rw [wish_iff]
        show (!([0, 1, 2, 3, 4] : List Int).any _) = true ↔ _
        simp only [List.any_cons, List.any_nil, Bool.or_false]
        simp
    · rw [if_pos (len_ne (m := 5) (by omega))]
      refine congrArg D.bl (tr_false ?_).symm
      rintro ⟨w, e, _⟩
      unfold Ws.d at e
      injection e with e
      rw [e] at hl
      exact hl rfl
  · simp? only [h1]
    exact congrArg D.bl (tr_false fun ⟨ns, e, _⟩ => h2 _ e).symm
def ChgIs (s : Sy) : Chg → Prop
  | .wish u => s.wishes.length < 24 ∧ u.Ok s.works.length s.days
  | .unwish k => k < s.wishes.length
  | .work w => s.works.length < 12 ∧ w.Ok s.works.length s.hands.length 10
  | .drop k => k < s.works.length
  | .longer k l => k < s.works.length ∧ (wkAt s k).len + 1 ≤ l ∧ l ≤ 10
  | .away h a b => h < s.hands.length ∧ 0 ≤ a ∧ a ≤ s.days - 1 ∧ a + 1 ≤ b ∧ b ≤ s.days
  | .hand row able => s.hands.length < 5 ∧ Row s.days row ∧ Row s.works.length able
theorem ChgIs.ok {s : Sy} {c : Chg} (hs : Sy24 s) (h : ChgIs s c) : ChgOk s c := by
  cases c with
  | wish u => exact ⟨h.2, h.1⟩
  | unwish k => exact h
  | work w => exact ⟨h.2, h.1⟩
  | drop k => exact h
  | longer k l =>
    obtain ⟨h1, h2, h3⟩ := h
    have := (hs.work k _ (wk_get h1)).len
    exact ⟨h1, by omega, h3⟩
  | away h a b => exact ⟨h.1, h.2.1, by have := h.2.2.1; omega, by have := h.2.1; have := h.2.2.2.1; omega, h.2.2.2.2⟩
  | hand row able => exact ⟨h.2.1, h.2.2, h.1⟩
theorem n_wish_unwish : ((("wish" : String) : Str) == (("unwish" : String) : Str)) = false := by decide +kernel
theorem n_wish_work : ((("wish" : String) : Str) == (("work" : String) : Str)) = false := by decide +kernel
theorem n_wish_drop : ((("wish" : String) : Str) == (("drop" : String) : Str)) = false := by decide +kernel
theorem n_wish_longer : ((("wish" : String) : Str) == (("longer" : String) : Str)) = false := by decide +kernel
theorem n_wish_away : ((("wish" : String) : Str) == (("away" : String) : Str)) = false := by decide +kernel
theorem n_wish_hand : ((("wish" : String) : Str) == (("hand" : String) : Str)) = false := by decide +kernel
theorem n_unwish_wish : ((("unwish" : String) : Str) == (("wish" : String) : Str)) = false := by decide +kernel
theorem n_unwish_work : ((("unwish" : String) : Str) == (("work" : String) : Str)) = false := by decide +kernel
theorem n_unwish_drop : ((("unwish" : String) : Str) == (("drop" : String) : Str)) = false := by decide +kernel
theorem n_unwish_longer : ((("unwish" : String) : Str) == (("longer" : String) : Str)) = false := by decide +kernel
theorem n_unwish_away : ((("unwish" : String) : Str) == (("away" : String) : Str)) = false := by decide +kernel
theorem n_unwish_hand : ((("unwish" : String) : Str) == (("hand" : String) : Str)) = false := by decide +kernel
theorem n_work_wish : ((("work" : String) : Str) == (("wish" : String) : Str)) = false := by decide +kernel
theorem n_work_drop : ((("work" : String) : Str) == (("drop" : String) : Str)) = false := by decide +kernel
theorem n_work_longer : ((("work" : String) : Str) == (("longer" : String) : Str)) = false := by decide +kernel
theorem n_work_away : ((("work" : String) : Str) == (("away" : String) : Str)) = false := by decide +kernel
theorem n_work_hand : ((("work" : String) : Str) == (("hand" : String) : Str)) = false := by decide +kernel
theorem n_drop_wish : ((("drop" : String) : Str) == (("wish" : String) : Str)) = false := by decide +kernel
theorem n_drop_work : ((("drop" : String) : Str) == (("work" : String) : Str)) = false := by decide +kernel
theorem n_drop_longer : ((("drop" : String) : Str) == (("longer" : String) : Str)) = false := by decide +kernel
theorem n_drop_away : ((("drop" : String) : Str) == (("away" : String) : Str)) = false := by decide +kernel
theorem n_drop_hand : ((("drop" : String) : Str) == (("hand" : String) : Str)) = false := by decide +kernel
theorem n_longer_wish : ((("longer" : String) : Str) == (("wish" : String) : Str)) = false := by decide +kernel
theorem n_longer_work : ((("longer" : String) : Str) == (("work" : String) : Str)) = false := by decide +kernel
theorem n_longer_away : ((("longer" : String) : Str) == (("away" : String) : Str)) = false := by decide +kernel
theorem n_longer_hand : ((("longer" : String) : Str) == (("hand" : String) : Str)) = false := by decide +kernel
theorem n_away_wish : ((("away" : String) : Str) == (("wish" : String) : Str)) = false := by decide +kernel
theorem n_away_work : ((("away" : String) : Str) == (("work" : String) : Str)) = false := by decide +kernel
theorem n_away_longer : ((("away" : String) : Str) == (("longer" : String) : Str)) = false := by decide +kernel
theorem n_away_hand : ((("away" : String) : Str) == (("hand" : String) : Str)) = false := by decide +kernel
theorem n_hand_wish : ((("hand" : String) : Str) == (("wish" : String) : Str)) = false := by decide +kernel
theorem n_hand_work : ((("hand" : String) : Str) == (("work" : String) : Str)) = false := by decide +kernel
theorem getK_hit {k : Key} {n : Int} {r : List (Key × Int)} : getK (encKI ((k, n) :: r)) k = some (.inl n) := by
  simp [getK, encKI]
theorem getK_skip {j k : Str} {n : Int} {r : List (Key × Int)} (h : (j == k) = false) : getK (encKI ((.inr j, n) :: r)) (.inr k) = getK (encKI r) (.inr k) := by
  have : (Sum.inr j : Key) ≠ .inr k := by
    intro e
    cases e
    simp at h
  simp [getK, encKI, this]
theorem v_eqsI {f : Bool → Bool} {x y : Str} {st : Sto} {Q : DK} (b : Bool) (h : (x == y) = b) (q : Q (.bl (f b)) st) : dEqB f (.str x) (.str y) st Q := by
  refine v_eqs ?_
  rw [h]
  exact q
theorem w_in_wish : ((["wish", "unwish", "work", "drop", "longer", "away", "hand"] : List Str).any (· == ("wish" : Str))) = true := by decide +kernel
theorem w_in_unwish : ((["wish", "unwish", "work", "drop", "longer", "away", "hand"] : List Str).any (· == ("unwish" : Str))) = true := by decide +kernel
theorem w_in_work : ((["wish", "unwish", "work", "drop", "longer", "away", "hand"] : List Str).any (· == ("work" : Str))) = true := by decide +kernel
theorem w_in_drop : ((["wish", "unwish", "work", "drop", "longer", "away", "hand"] : List Str).any (· == ("drop" : Str))) = true := by decide +kernel
theorem w_in_longer : ((["wish", "unwish", "work", "drop", "longer", "away", "hand"] : List Str).any (· == ("longer" : Str))) = true := by decide +kernel
theorem w_in_away : ((["wish", "unwish", "work", "drop", "longer", "away", "hand"] : List Str).any (· == ("away" : Str))) = true := by decide +kernel
theorem w_in_hand : ((["wish", "unwish", "work", "drop", "longer", "away", "hand"] : List Str).any (· == ("hand" : Str))) = true := by decide +kernel
theorem any_tail {x : D} {r : List D} (h : Any (.tup (x :: r))) : Any (.tup r) := by
  have h1 := h.blw
  have h2 := h.blk
  simp only [D.blw, D.blwL, Bool.and_eq_true] at h1
  simp only [D.blk, D.blkL] at h2
  exact ⟨by simp only [D.blw]; exact h1.2, by simp only [D.blk]; omega⟩
theorem Chg.inj {a b : Chg} (h : a.d = b.d) : a = b := by
  cases a <;> cases b <;> simp only [Chg.d, D.tup.injEq, List.cons.injEq, D.str.injEq, and_true, true_and, D.int.injEq, reduceCtorEq, false_and, and_false, Int.natCast_inj] at h
  case wish.wish u v =>
    obtain ⟨h1, h2, h3, h4, h5⟩ := h
    cases u; cases v
    simp only at h1 h2 h3 h4 h5
    subst h1 h2 h3 h4 h5
    rfl
  case unwish.unwish => rw [h]
  case work.work u v =>
    obtain ⟨h1, h2, h3⟩ := h
    have h2 := dInts_inj h2
    have h3 := dInts_inj h3
    obtain ⟨u1, u2, u3⟩ := u
    obtain ⟨v1, v2, v3⟩ := v
    dsimp only at h1 h2 h3
    rw [h1, h2, h3]
  case drop.drop => rw [h]
  case longer.longer => rw [h.1, h.2]
  case away.away => rw [h.1, h.2.1, h.2.2]
  case hand.hand => rw [dInts_inj h.1, dInts_inj h.2]
  all_goals exact absurd h.1 (by decide +kernel)
noncomputable def chgD (s : Sy) (d : D) : Bool := tr (∃ c : Chg, d = c.d ∧ ChgIs s c)
noncomputable def placeD (ds : List D) (n : Nat) : Bool := tr (∃ k : Nat, ds = [.int k] ∧ k < n)
theorem one_of {ds : List D} (h : ds.length = 1) : ∃ a, ds = [a] := List.length_eq_one_iff.mp h
theorem two_of {ds : List D} (h : ds.length = 2) : ∃ a b, ds = [a, b] := by
  rcases ds with _ | ⟨a, _ | ⟨b, _ | ⟨c, r⟩⟩⟩ <;> simp at h
  exact ⟨a, b, rfl⟩
theorem three_of {ds : List D} (h : ds.length = 3) : ∃ a b c, ds = [a, b, c] := tup3 h
theorem place_iff {a : D} {n : Nat} : (∃ k : Nat, a = .int k ∧ k < n) ↔ fromF a 0 ((n : Int) - 1) = true := by
  rw [fromF_iff]
  constructor
  · rintro ⟨k, rfl, h⟩
    exact ⟨_, rfl, by omega, by omega⟩
  · rintro ⟨i, rfl, h1, h2⟩
    exact ⟨i.toNat, by rw [Int.toNat_of_nonneg h1], by omega⟩
def w_p_is_place : DS := wRet (wAndV (wOp dEq (wCB bLen (wCons (wVar 0) (wNil))) (wC (.int 1))) (wCall S_p_is_from (wCons (wOp dIx (wVar 0) (wC (.int 0))) (wCons (wC (.int 0)) (wCons (wOp dSub (wCB bLen (wCons (wVar 1) (wNil))) (wC (.int 1))) (wNil))))))
noncomputable def S_p_is_place : DL.Spec := pureS 2 (fun x : List D × List D => [.tup x.1, .tup x.2]) (fun x => Any (.tup x.1)) (fun x => .bl (placeD x.1 x.2.length))
theorem vc_p_is_place : ∀ g sto, (S_p_is_place.args g).length = S_p_is_place.n → S_p_is_place.pre g sto → w_p_is_place (bodyEnds (S_p_is_place.post g sto)) (startE ["parts", "row"] (S_p_is_place.args g)) sto := by
  rintro ⟨ds, row⟩ sto _ hA
  replace hA : Any (.tup ds) := hA
  simp? only [w_p_is_place, S_p_is_place, pureS]
  first | refine ⟨_, rfl, ?_⟩ | skip
  by_cases hl : ds.length = 1
  · obtain ⟨a, rfl⟩ := one_of hl
    have ia := (hA.item (d := a) (by simp)).noRef
    rw [if_pos (by simp)]
    simp? only [true_and]
    refine use_pure (a, 0, (row.length : Int) - 1) rfl rfl ia ⟨rfl, ?_⟩
    dsimp only
    refine congrArg D.bl (tr_eq ?_)
    rw [← place_iff]
    exact ⟨fun ⟨k, e, h⟩ => ⟨k, by rw [e], h⟩, fun ⟨k, e, h⟩ => ⟨k, (List.cons.inj e).1, h⟩⟩
  · rw [if_neg (by simp; omega)]
    first | refine ⟨rfl, congrArg D.bl (tr_false ?_).symm⟩ | refine congrArg D.bl (tr_false ?_).symm
    rintro ⟨k, rfl, _⟩
    exact hl rfl
noncomputable def wishMore (s : Sy) (ds : List D) : Bool := tr (s.wishes.length < 24 ∧ ∃ u : Ws, .tup ds = u.d ∧ u.Ok s.works.length s.days)
def w_p_is_wish_more : DS := wRet (wAndV (wOp dLt (wCB bLen (wCons (wOp dIx (wVar 0) (wC (.int 3))) (wNil))) (wC (.int 24))) (wCall S_p_is_wish (wCons (wVar 1) (wCons (wOp dIx (wVar 0) (wC (.int 0))) (wCons (wCB bLen (wCons (wOp dIx (wVar 0) (wC (.int 2))) (wNil))) (wNil))))))
noncomputable def S_p_is_wish_more : DL.Spec := pureS 2 (fun x : Sy × List D => [x.1.d, .tup x.2]) (fun x => Any (.tup x.2)) (fun x => .bl (wishMore x.1 x.2))
theorem vc_p_is_wish_more : ∀ g sto, (S_p_is_wish_more.args g).length = S_p_is_wish_more.n → S_p_is_wish_more.pre g sto → w_p_is_wish_more (bodyEnds (S_p_is_wish_more.post g sto)) (startE ["system", "parts"] (S_p_is_wish_more.args g)) sto := by
  rintro ⟨s, ds⟩ sto _ hA
  replace hA : Any (.tup ds) := hA
  simp? only [w_p_is_wish_more, S_p_is_wish_more, pureS]
  first | refine ⟨_, rfl, ?_⟩ | skip
  by_cases h : (s.wishes.length : Int) < 24
  · rw [if_pos (by simpa using h)]
    refine use_pure (.tup ds, s.days, (s.works.length : Int)) rfl rfl hA ⟨rfl, ?_⟩
    dsimp only
    refine congrArg D.bl (tr_eq ?_)
    unfold wishD
    rw [tr_iff]
    exact ⟨fun h2 => ⟨by omega, h2⟩, fun h2 => h2.2⟩
  · rw [if_neg (by simpa using h)]
    first | exact ⟨rfl, congrArg D.bl (tr_false fun h2 => h (by have := h2.1; omega)).symm⟩ | exact congrArg D.bl (tr_false fun h2 => h (by have := h2.1; omega)).symm
noncomputable def workMore (s : Sy) (ds : List D) : Bool := tr (s.works.length < 12 ∧ ∃ w : Wk, .tup ds = w.d ∧ w.Ok s.works.length s.hands.length 10)
def w_p_is_work_more : DS := wRet (wAndV (wOp dLt (wCB bLen (wCons (wOp dIx (wVar 0) (wC (.int 2))) (wNil))) (wC (.int 12))) (wCall S_p_is_work (wCons (wVar 1) (wCons (wCB bLen (wCons (wOp dIx (wVar 0) (wC (.int 2))) (wNil))) (wCons (wCB bLen (wCons (wOp dIx (wVar 0) (wC (.int 1))) (wNil))) (wNil))))))
noncomputable def S_p_is_work_more : DL.Spec := pureS 2 (fun x : Sy × List D => [x.1.d, .tup x.2]) (fun x => Any (.tup x.2)) (fun x => .bl (workMore x.1 x.2))
theorem vc_p_is_work_more : ∀ g sto, (S_p_is_work_more.args g).length = S_p_is_work_more.n → S_p_is_work_more.pre g sto → w_p_is_work_more (bodyEnds (S_p_is_work_more.post g sto)) (startE ["system", "parts"] (S_p_is_work_more.args g)) sto := by
  rintro ⟨s, ds⟩ sto _ hA
  replace hA : Any (.tup ds) := hA
  simp? only [w_p_is_work_more, S_p_is_work_more, pureS]
  first | refine ⟨_, rfl, ?_⟩ | skip
  by_cases h : (s.works.length : Int) < 12
  · rw [if_pos (by simpa using h)]
    refine use_pure (.tup ds, (s.works.length : Int), (s.hands.length : Int)) rfl rfl hA ⟨rfl, ?_⟩
    dsimp only
    refine congrArg D.bl (tr_eq ?_)
    unfold workD
    rw [tr_iff]
    exact ⟨fun h2 => ⟨by omega, h2⟩, fun h2 => h2.2⟩
  · rw [if_neg (by simpa using h)]
    first | exact ⟨rfl, congrArg D.bl (tr_false fun h2 => h (by have := h2.1; omega)).symm⟩ | exact congrArg D.bl (tr_false fun h2 => h (by have := h2.1; omega)).symm
noncomputable def longerD (s : Sy) (ds : List D) : Bool := tr (∃ (k : Nat) (l : Int), ds = [.int k, .int l] ∧ k < s.works.length ∧ (wkAt s k).len + 1 ≤ l ∧ l ≤ 10)
def w_p_is_longer : DS := wSeq (wIf (wOr (wTest (wOp dNe (wCB bLen (wCons (wVar 1) (wNil))) (wC (.int 2)))) (wNot (wTest (wCall S_p_is_from (wCons (wOp dIx (wVar 1) (wC (.int 0))) (wCons (wC (.int 0)) (wCons (wOp dSub (wCB bLen (wCons (wOp dIx (wVar 0) (wC (.int 2))) (wNil))) (wC (.int 1))) (wNil)))))))) (wRet (wC (.bl false))) ((fun D env st => D.nx env st))) (wRet (wCall S_p_is_from (wCons (wOp dIx (wVar 1) (wC (.int 1))) (wCons (wOp dAdd (wOp dIx (wOp dIx (wOp dIx (wVar 0) (wC (.int 2))) (wOp dIx (wVar 1) (wC (.int 0)))) (wC (.int 0))) (wC (.int 1))) (wCons (wC (.int 10)) (wNil))))))
noncomputable def S_p_is_longer : DL.Spec := pureS 2 (fun x : Sy × List D => [x.1.d, .tup x.2]) (fun x => Any (.tup x.2)) (fun x => .bl (longerD x.1 x.2))
theorem vc_p_is_longer : ∀ g sto, (S_p_is_longer.args g).length = S_p_is_longer.n → S_p_is_longer.pre g sto → w_p_is_longer (bodyEnds (S_p_is_longer.post g sto)) (startE ["system", "parts"] (S_p_is_longer.args g)) sto := by
  rintro ⟨s, ds⟩ sto _ hA
  replace hA : Any (.tup ds) := hA
  simp? only [w_p_is_longer, S_p_is_longer, pureS]
  by_cases hl : ds.length = 2
  · obtain ⟨a, b, rfl⟩ := two_of hl
    have ia := (hA.item (d := a) (by simp)).noRef
    have ib := (hA.item (d := b) (by simp)).noRef
    rw [if_neg (by simp)]
    simp? only [true_and]
    refine use_pure (a, 0, (s.works.length : Int) - 1) rfl rfl ia ?_
    dsimp only
    first | refine ⟨_, rfl, ?_⟩ | skip
    by_cases h0 : ∃ k : Nat, a = .int k ∧ k < s.works.length
    · obtain ⟨k, rfl, hk⟩ := h0
      rw [place_iff.mp ⟨k, rfl, hk⟩, if_neg (by decide)]
      simp? only [true_and]
      refine ⟨_, atI_map (wk_at hk), ?_⟩
      simp? only [wk_ix0]
      refine use_pure (b, (wkAt s k).len + 1, 10) rfl rfl ib ⟨rfl, ?_⟩
      dsimp only
      refine congrArg D.bl (tr_eq ?_)
      rw [fromF_iff]
      constructor
      · rintro ⟨i, rfl, h1, h2⟩
        exact ⟨k, i, rfl, hk, h1, h2⟩
      · rintro ⟨k', l, e, h0, h1, h2⟩
        injection e with e1 e
        injection e with e2 _
        injection e1 with e1
        have e1 := Int.natCast_inj.mp e1
        subst e1
        exact ⟨l, e2, h1, h2⟩
    · rw [show fromF a 0 ((s.works.length : Int) - 1) = false from Bool.eq_false_iff.mpr fun z => h0 (place_iff.mpr z), if_pos (by decide)]
      first | refine ⟨rfl, congrArg D.bl (tr_false ?_).symm⟩ | refine congrArg D.bl (tr_false ?_).symm
      rintro ⟨k, l, e, h1, _⟩
      exact h0 ⟨k, (List.cons.inj e).1, h1⟩
  · rw [if_pos (by simp; omega)]
    first | refine ⟨rfl, congrArg D.bl (tr_false ?_).symm⟩ | refine congrArg D.bl (tr_false ?_).symm
    rintro ⟨k, l, rfl, _⟩
    exact hl rfl
noncomputable def awayD (s : Sy) (ds : List D) : Bool := tr (∃ (h : Nat) (a b : Int), ds = [.int h, .int a, .int b] ∧ h < s.hands.length ∧ 0 ≤ a ∧ a ≤ s.days - 1 ∧ a + 1 ≤ b ∧ b ≤ s.days)
def w_p_is_away : DS := wSeq (wIf (wOr (wTest (wOp dNe (wCB bLen (wCons (wVar 1) (wNil))) (wC (.int 3)))) (wNot (wTest (wCall S_p_is_from (wCons (wOp dIx (wVar 1) (wC (.int 0))) (wCons (wC (.int 0)) (wCons (wOp dSub (wCB bLen (wCons (wOp dIx (wVar 0) (wC (.int 1))) (wNil))) (wC (.int 1))) (wNil)))))))) (wRet (wC (.bl false))) ((fun D env st => D.nx env st))) (wRet (wAndV (wCall S_p_is_from (wCons (wOp dIx (wVar 1) (wC (.int 1))) (wCons (wC (.int 0)) (wCons (wOp dSub (wOp dIx (wVar 0) (wC (.int 0))) (wC (.int 1))) (wNil))))) (wCall S_p_is_from (wCons (wOp dIx (wVar 1) (wC (.int 2))) (wCons (wOp dAdd (wOp dIx (wVar 1) (wC (.int 1))) (wC (.int 1))) (wCons (wOp dIx (wVar 0) (wC (.int 0))) (wNil)))))))
noncomputable def S_p_is_away : DL.Spec := pureS 2 (fun x : Sy × List D => [x.1.d, .tup x.2]) (fun x => Any (.tup x.2)) (fun x => .bl (awayD x.1 x.2))
theorem vc_p_is_away : ∀ g sto, (S_p_is_away.args g).length = S_p_is_away.n → S_p_is_away.pre g sto → w_p_is_away (bodyEnds (S_p_is_away.post g sto)) (startE ["system", "parts"] (S_p_is_away.args g)) sto := by
  rintro ⟨s, ds⟩ sto _ hA
  replace hA : Any (.tup ds) := hA
  simp? only [w_p_is_away, S_p_is_away, pureS]
  by_cases hl : ds.length = 3
  · obtain ⟨a, b, c, rfl⟩ := three_of hl
    have ia := (hA.item (d := a) (by simp)).noRef
    have ib := (hA.item (d := b) (by simp)).noRef
    have ic := (hA.item (d := c) (by simp)).noRef
    rw [if_neg (by simp)]
    simp? only [true_and]
    refine use_pure (a, 0, (s.hands.length : Int) - 1) rfl rfl ia ?_
    dsimp only
    first | refine ⟨_, rfl, ?_⟩ | skip
    by_cases h0 : ∃ k : Nat, a = .int k ∧ k < s.hands.length
    · obtain ⟨k, rfl, hk⟩ := h0
      rw [place_iff.mp ⟨k, rfl, hk⟩, if_neg (by decide)]
      refine use_pure (b, 0, s.days - 1) rfl rfl ib ?_
      dsimp only
      first | refine ⟨_, rfl, ?_⟩ | skip
      cases h1 : fromF b 0 (s.days - 1) with
      | true =>
        obtain ⟨a2, rfl, h2, h3⟩ := fromF_iff.mp h1
        rw [if_pos rfl]
        simp? only [true_and]
        refine use_pure (c, a2 + 1, s.days) rfl rfl ic ⟨rfl, ?_⟩
        dsimp only
        refine congrArg D.bl (tr_eq ?_)
        rw [fromF_iff]
        constructor
        · rintro ⟨i, rfl, h4, h5⟩
          exact ⟨k, a2, i, rfl, hk, h2, h3, h4, h5⟩
        · rintro ⟨k', a', l, e, _, _, _, h4, h5⟩
          injection e with e1 e
          injection e with e2 e
          injection e with e3 _
          injection e2 with e2
          subst e2
          exact ⟨l, e3, h4, h5⟩
      | false =>
        rw [if_neg (by decide)]
        first | refine ⟨rfl, congrArg D.bl (tr_false ?_).symm⟩ | refine congrArg D.bl (tr_false ?_).symm
        rintro ⟨k', a', l, e, _, h2, h3, _⟩
        injection e with e1 e
        injection e with e2 e
        rw [fromF_iff.mpr ⟨_, e2, h2, h3⟩] at h1
        cases h1
    · rw [show fromF a 0 ((s.hands.length : Int) - 1) = false from Bool.eq_false_iff.mpr fun z => h0 (place_iff.mpr z), if_pos (by decide)]
      first | refine ⟨rfl, congrArg D.bl (tr_false ?_).symm⟩ | refine congrArg D.bl (tr_false ?_).symm
      rintro ⟨k, a', l, e, h1, _⟩
      exact h0 ⟨k, (List.cons.inj e).1, h1⟩
  · rw [if_pos (by simp; omega)]
    first | refine ⟨rfl, congrArg D.bl (tr_false ?_).symm⟩ | refine congrArg D.bl (tr_false ?_).symm
    rintro ⟨k, a', l, rfl, _⟩
    exact hl rfl
noncomputable def handMore (s : Sy) (ds : List D) : Bool := tr (∃ row able : List Int, ds = [dInts row, dInts able] ∧ s.hands.length < 5 ∧ Row s.days row ∧ Row s.works.length able)
def w_p_is_hand_more : DS := wSeq (wIf (wOr (wTest (wOp dNe (wCB bLen (wCons (wVar 1) (wNil))) (wC (.int 2)))) (wTest (wOp dEq (wCB bLen (wCons (wOp dIx (wVar 0) (wC (.int 1))) (wNil))) (wC (.int 5))))) (wRet (wC (.bl false))) ((fun D env st => D.nx env st))) (wRet (wAndV (wCall S_p_is_rising (wCons (wOp dIx (wVar 1) (wC (.int 0))) (wCons (wOp dSub (wOp dIx (wVar 0) (wC (.int 0))) (wC (.int 1))) (wNil)))) (wCall S_p_is_rising (wCons (wOp dIx (wVar 1) (wC (.int 1))) (wCons (wOp dSub (wCB bLen (wCons (wOp dIx (wVar 0) (wC (.int 2))) (wNil))) (wC (.int 1))) (wNil))))))
noncomputable def S_p_is_hand_more : DL.Spec := pureS 2 (fun x : Sy × List D => [x.1.d, .tup x.2]) (fun x => Any (.tup x.2) ∧ x.1.hands.length ≤ 5) (fun x => .bl (handMore x.1 x.2))
theorem vc_p_is_hand_more : ∀ g sto, (S_p_is_hand_more.args g).length = S_p_is_hand_more.n → S_p_is_hand_more.pre g sto → w_p_is_hand_more (bodyEnds (S_p_is_hand_more.post g sto)) (startE ["system", "parts"] (S_p_is_hand_more.args g)) sto := by
  rintro ⟨s, ds⟩ sto _ ⟨hA, hh⟩
  dsimp only at hA hh
  simp? only [w_p_is_hand_more, S_p_is_hand_more, pureS]
  by_cases hl : ds.length = 2
  · obtain ⟨a, b, rfl⟩ := two_of hl
    have ia := hA.item (d := a) (by simp)
    have ib := hA.item (d := b) (by simp)
    rw [if_neg (by simp)]
    simp? only [true_and]
    by_cases h5 : s.hands.length = 5
    · rw [if_pos (by rw [h5]; rfl)]
      first | refine ⟨rfl, congrArg D.bl (tr_false ?_).symm⟩ | refine congrArg D.bl (tr_false ?_).symm
      rintro ⟨_, _, _, h, _⟩
      omega
    · rw [if_neg (by simp; omega)]
      refine use_pure (a, s.days - 1) rfl rfl ia ?_
      dsimp only
      first | refine ⟨_, rfl, ?_⟩ | skip
      cases h1 : risD a (s.days - 1) with
      | true =>
        obtain ⟨row, rfl, hr⟩ := ris_iff.mp h1
        rw [if_pos rfl]
        refine use_pure (b, (s.works.length : Int) - 1) rfl rfl ib ⟨rfl, ?_⟩
        dsimp only
        refine congrArg D.bl (tr_eq ?_)
        rw [ris_iff]
        constructor
        · rintro ⟨able, rfl, h2⟩
          exact ⟨row, able, rfl, by omega, by simpa using hr, by simpa using h2⟩
        · rintro ⟨r, able, e, _, _, h2⟩
          injection e with e1 e
          injection e with e2 _
          exact ⟨able, e2, by simpa using h2⟩
      | false =>
        rw [if_neg (by decide)]
        first | refine ⟨rfl, congrArg D.bl (tr_false ?_).symm⟩ | refine congrArg D.bl (tr_false ?_).symm
        rintro ⟨r, able, e, _, h2, _⟩
        rw [ris_iff.mpr ⟨r, (List.cons.inj e).1, by simpa using h2⟩] at h1
        cases h1
  · rw [if_pos (by simp; omega)]
    first | refine ⟨rfl, congrArg D.bl (tr_false ?_).symm⟩ | refine congrArg D.bl (tr_false ?_).symm
    rintro ⟨k, l, rfl, _⟩
    exact hl rfl
theorem is_wish {s : Sy} {ds : List D} : wishMore s ds = chgD s (.tup (.str "wish" :: ds)) := by
  refine tr_eq ?_
  unfold wishMore
  rw [tr_iff]
  constructor
  · rintro ⟨h1, u, e, h2⟩
    unfold Ws.d at e
    injection e with e
    subst e
    exact ⟨.wish u, rfl, h1, h2⟩
  · rintro ⟨c, e, h⟩
    cases c with
    | wish u =>
      simp only [Chg.d, D.tup.injEq, List.cons.injEq] at e
      replace e := e.2
      exact ⟨h.1, u, by rw [e]; rfl, h.2⟩
    | unwish k =>
      simp only [Chg.d, D.tup.injEq, List.cons.injEq] at e
      exact absurd (D.str.inj e.1) (by decide +kernel)
    | work w =>
      simp only [Chg.d, D.tup.injEq, List.cons.injEq] at e
      exact absurd (D.str.inj e.1) (by decide +kernel)
    | drop k =>
      simp only [Chg.d, D.tup.injEq, List.cons.injEq] at e
      exact absurd (D.str.inj e.1) (by decide +kernel)
    | longer k l =>
      simp only [Chg.d, D.tup.injEq, List.cons.injEq] at e
      exact absurd (D.str.inj e.1) (by decide +kernel)
    | away hh a b =>
      simp only [Chg.d, D.tup.injEq, List.cons.injEq] at e
      exact absurd (D.str.inj e.1) (by decide +kernel)
    | hand row able =>
      simp only [Chg.d, D.tup.injEq, List.cons.injEq] at e
      exact absurd (D.str.inj e.1) (by decide +kernel)
theorem is_unwish {s : Sy} {ds : List D} : placeD ds s.wishes.length = chgD s (.tup (.str "unwish" :: ds)) := by
  refine tr_eq ?_
  unfold placeD
  rw [tr_iff]
  constructor
  · rintro ⟨k, rfl, h⟩
    exact ⟨.unwish k, rfl, h⟩
  · rintro ⟨c, e, h⟩
    cases c with
    | wish u =>
      simp only [Chg.d, D.tup.injEq, List.cons.injEq] at e
      exact absurd (D.str.inj e.1) (by decide +kernel)
    | unwish k =>
      simp only [Chg.d, D.tup.injEq, List.cons.injEq] at e
      replace e := e.2
      exact ⟨k, e, h⟩
    | work w =>
      simp only [Chg.d, D.tup.injEq, List.cons.injEq] at e
      exact absurd (D.str.inj e.1) (by decide +kernel)
    | drop k =>
      simp only [Chg.d, D.tup.injEq, List.cons.injEq] at e
      exact absurd (D.str.inj e.1) (by decide +kernel)
    | longer k l =>
      simp only [Chg.d, D.tup.injEq, List.cons.injEq] at e
      exact absurd (D.str.inj e.1) (by decide +kernel)
    | away hh a b =>
      simp only [Chg.d, D.tup.injEq, List.cons.injEq] at e
      exact absurd (D.str.inj e.1) (by decide +kernel)
    | hand row able =>
      simp only [Chg.d, D.tup.injEq, List.cons.injEq] at e
      exact absurd (D.str.inj e.1) (by decide +kernel)
theorem is_work {s : Sy} {ds : List D} : workMore s ds = chgD s (.tup (.str "work" :: ds)) := by
  refine tr_eq ?_
  unfold workMore
  rw [tr_iff]
  constructor
  · rintro ⟨h1, w, e, h2⟩
    unfold Wk.d at e
    injection e with e
    subst e
    exact ⟨.work w, rfl, h1, h2⟩
  · rintro ⟨c, e, h⟩
    cases c with
    | wish u =>
      simp only [Chg.d, D.tup.injEq, List.cons.injEq] at e
      exact absurd (D.str.inj e.1) (by decide +kernel)
    | unwish k =>
      simp only [Chg.d, D.tup.injEq, List.cons.injEq] at e
      exact absurd (D.str.inj e.1) (by decide +kernel)
    | work w =>
      simp only [Chg.d, D.tup.injEq, List.cons.injEq] at e
      replace e := e.2
      exact ⟨h.1, w, by rw [e]; rfl, h.2⟩
    | drop k =>
      simp only [Chg.d, D.tup.injEq, List.cons.injEq] at e
      exact absurd (D.str.inj e.1) (by decide +kernel)
    | longer k l =>
      simp only [Chg.d, D.tup.injEq, List.cons.injEq] at e
      exact absurd (D.str.inj e.1) (by decide +kernel)
    | away hh a b =>
      simp only [Chg.d, D.tup.injEq, List.cons.injEq] at e
      exact absurd (D.str.inj e.1) (by decide +kernel)
    | hand row able =>
      simp only [Chg.d, D.tup.injEq, List.cons.injEq] at e
      exact absurd (D.str.inj e.1) (by decide +kernel)
theorem is_drop {s : Sy} {ds : List D} : placeD ds s.works.length = chgD s (.tup (.str "drop" :: ds)) := by
  refine tr_eq ?_
  unfold placeD
  rw [tr_iff]
  constructor
  · rintro ⟨k, rfl, h⟩
    exact ⟨.drop k, rfl, h⟩
  · rintro ⟨c, e, h⟩
    cases c with
    | wish u =>
      simp only [Chg.d, D.tup.injEq, List.cons.injEq] at e
      exact absurd (D.str.inj e.1) (by decide +kernel)
    | unwish k =>
      simp only [Chg.d, D.tup.injEq, List.cons.injEq] at e
      exact absurd (D.str.inj e.1) (by decide +kernel)
    | work w =>
      simp only [Chg.d, D.tup.injEq, List.cons.injEq] at e
      exact absurd (D.str.inj e.1) (by decide +kernel)
    | drop k =>
      simp only [Chg.d, D.tup.injEq, List.cons.injEq] at e
      replace e := e.2
      exact ⟨k, e, h⟩
    | longer k l =>
      simp only [Chg.d, D.tup.injEq, List.cons.injEq] at e
      exact absurd (D.str.inj e.1) (by decide +kernel)
    | away hh a b =>
      simp only [Chg.d, D.tup.injEq, List.cons.injEq] at e
      exact absurd (D.str.inj e.1) (by decide +kernel)
    | hand row able =>
      simp only [Chg.d, D.tup.injEq, List.cons.injEq] at e
      exact absurd (D.str.inj e.1) (by decide +kernel)
theorem is_longer {s : Sy} {ds : List D} : longerD s ds = chgD s (.tup (.str "longer" :: ds)) := by
  refine tr_eq ?_
  unfold longerD
  rw [tr_iff]
  constructor
  · rintro ⟨k, l, rfl, h⟩
    exact ⟨.longer k l, rfl, h⟩
  · rintro ⟨c, e, h⟩
    cases c with
    | wish u =>
      simp only [Chg.d, D.tup.injEq, List.cons.injEq] at e
      exact absurd (D.str.inj e.1) (by decide +kernel)
    | unwish k =>
      simp only [Chg.d, D.tup.injEq, List.cons.injEq] at e
      exact absurd (D.str.inj e.1) (by decide +kernel)
    | work w =>
      simp only [Chg.d, D.tup.injEq, List.cons.injEq] at e
      exact absurd (D.str.inj e.1) (by decide +kernel)
    | drop k =>
      simp only [Chg.d, D.tup.injEq, List.cons.injEq] at e
      exact absurd (D.str.inj e.1) (by decide +kernel)
    | longer k l =>
      simp only [Chg.d, D.tup.injEq, List.cons.injEq] at e
      replace e := e.2
      exact ⟨k, l, e, h⟩
    | away hh a b =>
      simp only [Chg.d, D.tup.injEq, List.cons.injEq] at e
      exact absurd (D.str.inj e.1) (by decide +kernel)
    | hand row able =>
      simp only [Chg.d, D.tup.injEq, List.cons.injEq] at e
      exact absurd (D.str.inj e.1) (by decide +kernel)
theorem is_away {s : Sy} {ds : List D} : awayD s ds = chgD s (.tup (.str "away" :: ds)) := by
  refine tr_eq ?_
  unfold awayD
  rw [tr_iff]
  constructor
  · rintro ⟨h, a, b, rfl, q⟩
    exact ⟨.away h a b, rfl, q⟩
  · rintro ⟨c, e, h⟩
    cases c with
    | wish u =>
      simp only [Chg.d, D.tup.injEq, List.cons.injEq] at e
      exact absurd (D.str.inj e.1) (by decide +kernel)
    | unwish k =>
      simp only [Chg.d, D.tup.injEq, List.cons.injEq] at e
      exact absurd (D.str.inj e.1) (by decide +kernel)
    | work w =>
      simp only [Chg.d, D.tup.injEq, List.cons.injEq] at e
      exact absurd (D.str.inj e.1) (by decide +kernel)
    | drop k =>
      simp only [Chg.d, D.tup.injEq, List.cons.injEq] at e
      exact absurd (D.str.inj e.1) (by decide +kernel)
    | longer k l =>
      simp only [Chg.d, D.tup.injEq, List.cons.injEq] at e
      exact absurd (D.str.inj e.1) (by decide +kernel)
    | away hh a b =>
      simp only [Chg.d, D.tup.injEq, List.cons.injEq] at e
      replace e := e.2
      exact ⟨hh, a, b, e, h⟩
    | hand row able =>
      simp only [Chg.d, D.tup.injEq, List.cons.injEq] at e
      exact absurd (D.str.inj e.1) (by decide +kernel)
theorem is_hand {s : Sy} {ds : List D} : handMore s ds = chgD s (.tup (.str "hand" :: ds)) := by
  refine tr_eq ?_
  unfold handMore
  rw [tr_iff]
  constructor
  · rintro ⟨row, able, rfl, q⟩
    exact ⟨.hand row able, rfl, q⟩
  · rintro ⟨c, e, h⟩
    cases c with
    | wish u =>
      simp only [Chg.d, D.tup.injEq, List.cons.injEq] at e
      exact absurd (D.str.inj e.1) (by decide +kernel)
    | unwish k =>
      simp only [Chg.d, D.tup.injEq, List.cons.injEq] at e
      exact absurd (D.str.inj e.1) (by decide +kernel)
    | work w =>
      simp only [Chg.d, D.tup.injEq, List.cons.injEq] at e
      exact absurd (D.str.inj e.1) (by decide +kernel)
    | drop k =>
      simp only [Chg.d, D.tup.injEq, List.cons.injEq] at e
      exact absurd (D.str.inj e.1) (by decide +kernel)
    | longer k l =>
      simp only [Chg.d, D.tup.injEq, List.cons.injEq] at e
      exact absurd (D.str.inj e.1) (by decide +kernel)
    | away hh a b =>
      simp only [Chg.d, D.tup.injEq, List.cons.injEq] at e
      exact absurd (D.str.inj e.1) (by decide +kernel)
    | hand row able =>
      simp only [Chg.d, D.tup.injEq, List.cons.injEq] at e
      replace e := e.2
      exact ⟨row, able, e, h⟩
theorem is_none {s : Sy} {x : Str} {ds : List D} (h0 : (x == ("wish" : Str)) = false) (h1 : (x == ("unwish" : Str)) = false) (h2 : (x == ("work" : Str)) = false) (h3 : (x == ("drop" : Str)) = false) (h4 : (x == ("longer" : Str)) = false) (h5 : (x == ("away" : Str)) = false) (h6 : (x == ("hand" : Str)) = false) : chgD s (.tup (.str x :: ds)) = false := by
  refine tr_false ?_
  rintro ⟨c, e, _⟩
  cases c with
  | wish u =>
    simp only [Chg.d, D.tup.injEq, List.cons.injEq] at e
    rw [D.str.inj e.1] at h0
    exact absurd h0 (by decide +kernel)
  | unwish k =>
    simp only [Chg.d, D.tup.injEq, List.cons.injEq] at e
    rw [D.str.inj e.1] at h1
    exact absurd h1 (by decide +kernel)
  | work w =>
    simp only [Chg.d, D.tup.injEq, List.cons.injEq] at e
    rw [D.str.inj e.1] at h2
    exact absurd h2 (by decide +kernel)
  | drop k =>
    simp only [Chg.d, D.tup.injEq, List.cons.injEq] at e
    rw [D.str.inj e.1] at h3
    exact absurd h3 (by decide +kernel)
  | longer k l =>
    simp only [Chg.d, D.tup.injEq, List.cons.injEq] at e
    rw [D.str.inj e.1] at h4
    exact absurd h4 (by decide +kernel)
  | away hh a b =>
    simp only [Chg.d, D.tup.injEq, List.cons.injEq] at e
    rw [D.str.inj e.1] at h5
    exact absurd h5 (by decide +kernel)
  | hand row able =>
    simp only [Chg.d, D.tup.injEq, List.cons.injEq] at e
    rw [D.str.inj e.1] at h6
    exact absurd h6 (by decide +kernel)
def w_p_is_change : DS := wSeq (wIf (wOr (wNot (wTest (wIsi "tuple" (wVar 1)))) (wOr (wTest (wOp dEq (wCB bLen (wCons (wVar 1) (wNil))) (wC (.int 0)))) (wNot (wTest (wIsi "str" (wOp dIx (wVar 1) (wC (.int 0)))))))) (wRet (wC (.bl false))) ((fun D env st => D.nx env st))) (wSeq (wAsg (wOp dIx (wVar 1) (wC (.int 0))) (gNm 2)) (wSeq (wAsg (wSl false (wVar 1) (oPart (wC (.int 1))) oNo) (gNm 3)) (wSeq (wIf (wTest (wOp dEq (wVar 2) (wC (.str "wish")))) (wRet (wCall S_p_is_wish_more (wCons (wVar 0) (wCons (wVar 3) (wNil))))) ((fun D env st => D.nx env st))) (wSeq (wIf (wTest (wOp dEq (wVar 2) (wC (.str "unwish")))) (wRet (wCall S_p_is_place (wCons (wVar 3) (wCons (wOp dIx (wVar 0) (wC (.int 3))) (wNil))))) ((fun D env st => D.nx env st))) (wSeq (wIf (wTest (wOp dEq (wVar 2) (wC (.str "work")))) (wRet (wCall S_p_is_work_more (wCons (wVar 0) (wCons (wVar 3) (wNil))))) ((fun D env st => D.nx env st))) (wSeq (wIf (wTest (wOp dEq (wVar 2) (wC (.str "drop")))) (wRet (wCall S_p_is_place (wCons (wVar 3) (wCons (wOp dIx (wVar 0) (wC (.int 2))) (wNil))))) ((fun D env st => D.nx env st))) (wSeq (wIf (wTest (wOp dEq (wVar 2) (wC (.str "longer")))) (wRet (wCall S_p_is_longer (wCons (wVar 0) (wCons (wVar 3) (wNil))))) ((fun D env st => D.nx env st))) (wSeq (wIf (wTest (wOp dEq (wVar 2) (wC (.str "away")))) (wRet (wCall S_p_is_away (wCons (wVar 0) (wCons (wVar 3) (wNil))))) ((fun D env st => D.nx env st))) (wRet (wAndV (wOp dEq (wVar 2) (wC (.str "hand"))) (wCall S_p_is_hand_more (wCons (wVar 0) (wCons (wVar 3) (wNil))))))))))))))
theorem cut_tail {α : Type} (x : α) (r : List α) : cutL (x :: r) (some 1) none = r := by
  have h : HT.sIx (r.length + 1) 0 (some 1) = 1 := by unfold HT.sIx; simp
  have h2 : HT.sIx (r.length + 1) (r.length + 1) none = r.length + 1 := rfl
  unfold cutL
  rw [List.length_cons, h, h2]
  simp
theorem isa_str {d : D} : (∃ x, d = .str x) ∨ (d.isa "str" = false ∧ ∀ x, d ≠ .str x) := by
  cases d with
  | str x => exact .inl ⟨x, rfl⟩
  | _ => exact .inr ⟨rfl, fun x h => nomatch h⟩
theorem isa_strT {x : Str} : D.isa "str" (.str x) = true := rfl
theorem chg_head {c : Chg} : ∃ x ds, c.d = .tup (.str x :: ds) := by
  cases c <;> exact ⟨_, _, rfl⟩
noncomputable def S_p_is_change : DL.Spec := pureS 2 (fun x : Sy × D => [x.1.d, x.2]) (fun x => Sy24 x.1 ∧ Any x.2) (fun x => .bl (chgD x.1 x.2))
theorem vc_p_is_change : ∀ g sto, (S_p_is_change.args g).length = S_p_is_change.n → S_p_is_change.pre g sto → w_p_is_change (bodyEnds (S_p_is_change.post g sto)) (startE ["system", "thing", "word", "parts"] (S_p_is_change.args g)) sto := by
  rintro ⟨s, d⟩ sto _ ⟨hs, hA⟩
  dsimp only at hs hA
  have hh0 := hs.hands
  simp? only [w_p_is_change, S_p_is_change, pureS, wIsi]
  refine ⟨hA.noRef, ?_⟩
  rcases isa_tup (d := d) with ⟨ds, rfl⟩ | ⟨h1, h2⟩
  · simp? only [isa_tupT]
    rcases ds with _ | ⟨x, ds⟩
    · rw [if_pos (by decide)]
      first | refine ⟨rfl, congrArg D.bl (tr_false ?_).symm⟩ | refine congrArg D.bl (tr_false ?_).symm
      rintro ⟨c, e, _⟩
      cases c <;> cases e
    · have ix := hA.item (d := x) (by simp)
      rw [if_neg (by simp; omega)]
      refine ⟨x, atI_of (by omega) rfl, ix.noRef, ?_⟩
      rcases isa_str (d := x) with ⟨x, rfl⟩ | ⟨h1, h2⟩
      · have hd := any_tail hA
        rw [isa_strT, if_neg (by decide)]
        refine ⟨_, atI_of (by omega) rfl, ?_⟩
        simp? only [v_slT, cut_tail]
        by_cases e0 : x = ("wish" : Str)
        · subst e0
          refine v_eqsI true (beq_self_eq_true _) ?_
          refine ⟨_, rfl, ?_⟩
          rw [if_pos rfl]
          refine use_pure (s, ds) rfl rfl hd ⟨rfl, ?_⟩
          dsimp only
          rw [← is_wish]
        refine v_eqsI false (beq_false_of_ne e0) ?_
        refine ⟨_, rfl, ?_⟩
        rw [if_neg (by decide)]
        by_cases e1 : x = ("unwish" : Str)
        · subst e1
          refine v_eqsI true (beq_self_eq_true _) ?_
          refine ⟨_, rfl, ?_⟩
          rw [if_pos rfl]
          refine use_pure (ds, s.wishes.map Ws.d) rfl rfl hd ⟨rfl, ?_⟩
          dsimp only
          rw [← is_unwish, List.length_map]
        refine v_eqsI false (beq_false_of_ne e1) ?_
        refine ⟨_, rfl, ?_⟩
        rw [if_neg (by decide)]
        by_cases e2 : x = ("work" : Str)
        · subst e2
          refine v_eqsI true (beq_self_eq_true _) ?_
          refine ⟨_, rfl, ?_⟩
          rw [if_pos rfl]
          refine use_pure (s, ds) rfl rfl hd ⟨rfl, ?_⟩
          dsimp only
          rw [← is_work]
        refine v_eqsI false (beq_false_of_ne e2) ?_
        refine ⟨_, rfl, ?_⟩
        rw [if_neg (by decide)]
        by_cases e3 : x = ("drop" : Str)
        · subst e3
          refine v_eqsI true (beq_self_eq_true _) ?_
          refine ⟨_, rfl, ?_⟩
          rw [if_pos rfl]
          refine use_pure (ds, s.works.map Wk.d) rfl rfl hd ⟨rfl, ?_⟩
          dsimp only
          rw [← is_drop, List.length_map]
        refine v_eqsI false (beq_false_of_ne e3) ?_
        refine ⟨_, rfl, ?_⟩
        rw [if_neg (by decide)]
        by_cases e4 : x = ("longer" : Str)
        · subst e4
          refine v_eqsI true (beq_self_eq_true _) ?_
          refine ⟨_, rfl, ?_⟩
          rw [if_pos rfl]
          refine use_pure (s, ds) rfl rfl hd ⟨rfl, ?_⟩
          dsimp only
          rw [← is_longer]
        refine v_eqsI false (beq_false_of_ne e4) ?_
        refine ⟨_, rfl, ?_⟩
        rw [if_neg (by decide)]
        by_cases e5 : x = ("away" : Str)
        · subst e5
          refine v_eqsI true (beq_self_eq_true _) ?_
          refine ⟨_, rfl, ?_⟩
          rw [if_pos rfl]
          refine use_pure (s, ds) rfl rfl hd ⟨rfl, ?_⟩
          dsimp only
          rw [← is_away]
        refine v_eqsI false (beq_false_of_ne e5) ?_
        refine ⟨_, rfl, ?_⟩
        rw [if_neg (by decide)]
        by_cases e6 : x = ("hand" : Str)
        · subst e6
          refine v_eqsI true (beq_self_eq_true _) ?_
          refine ⟨_, rfl, ?_⟩
          rw [if_pos rfl]
          refine use_pure (s, ds) rfl rfl ⟨hd, by dsimp only; omega⟩ ⟨rfl, ?_⟩
          dsimp only
          rw [← is_hand]
        refine v_eqsI false (beq_false_of_ne e6) ?_
        refine ⟨_, rfl, ?_⟩
        rw [if_neg (by decide)]
        rw [is_none (beq_false_of_ne e0) (beq_false_of_ne e1) (beq_false_of_ne e2) (beq_false_of_ne e3) (beq_false_of_ne e4) (beq_false_of_ne e5) (beq_false_of_ne e6)]
        exact ⟨rfl, rfl⟩
      · rw [h1, if_pos (by decide)]
        first | refine ⟨rfl, congrArg D.bl (tr_false ?_).symm⟩ | refine congrArg D.bl (tr_false ?_).symm
        rintro ⟨c, e, _⟩
        obtain ⟨y, r, e2⟩ := chg_head (c := c)
        rw [e2] at e
        exact h2 y (by injection e with e; injection e)
  · simp? only [h1]
    first | refine ⟨rfl, congrArg D.bl (tr_false ?_).symm⟩ | refine congrArg D.bl (tr_false ?_).symm
    rintro ⟨c, e, _⟩
    obtain ⟨y, r, e2⟩ := chg_head (c := c)
    rw [e2] at e
    exact h2 _ e
theorem chg_len {k : Int} {x : Str} {s : Sy} {ds : List D} (hx : ∀ c : Chg, ∀ r, c.d = .tup (.str x :: r) → (r.length : Int) + 1 = k) (h : (ds.length : Int) + 1 ≠ k) : chgD s (.tup (.str x :: ds)) = false :=
  tr_false fun ⟨c, e, _⟩ => h (hx c ds e.symm)
theorem size_wish : ∀ c : Chg, ∀ r, c.d = .tup (.str "wish" :: r) → (r.length : Int) + 1 = 6 := by
  intro c r e
  cases c <;> simp only [Chg.d, D.tup.injEq, List.cons.injEq] at e <;> first | exact absurd (D.str.inj e.1) (by decide +kernel) | (rw [← e.2]; rfl)
theorem size_unwish : ∀ c : Chg, ∀ r, c.d = .tup (.str "unwish" :: r) → (r.length : Int) + 1 = 2 := by
  intro c r e
  cases c <;> simp only [Chg.d, D.tup.injEq, List.cons.injEq] at e <;> first | exact absurd (D.str.inj e.1) (by decide +kernel) | (rw [← e.2]; rfl)
theorem size_work : ∀ c : Chg, ∀ r, c.d = .tup (.str "work" :: r) → (r.length : Int) + 1 = 4 := by
  intro c r e
  cases c <;> simp only [Chg.d, D.tup.injEq, List.cons.injEq] at e <;> first | exact absurd (D.str.inj e.1) (by decide +kernel) | (rw [← e.2]; rfl)
theorem size_drop : ∀ c : Chg, ∀ r, c.d = .tup (.str "drop" :: r) → (r.length : Int) + 1 = 2 := by
  intro c r e
  cases c <;> simp only [Chg.d, D.tup.injEq, List.cons.injEq] at e <;> first | exact absurd (D.str.inj e.1) (by decide +kernel) | (rw [← e.2]; rfl)
theorem size_longer : ∀ c : Chg, ∀ r, c.d = .tup (.str "longer" :: r) → (r.length : Int) + 1 = 3 := by
  intro c r e
  cases c <;> simp only [Chg.d, D.tup.injEq, List.cons.injEq] at e <;> first | exact absurd (D.str.inj e.1) (by decide +kernel) | (rw [← e.2]; rfl)
theorem size_away : ∀ c : Chg, ∀ r, c.d = .tup (.str "away" :: r) → (r.length : Int) + 1 = 4 := by
  intro c r e
  cases c <;> simp only [Chg.d, D.tup.injEq, List.cons.injEq] at e <;> first | exact absurd (D.str.inj e.1) (by decide +kernel) | (rw [← e.2]; rfl)
theorem size_hand : ∀ c : Chg, ∀ r, c.d = .tup (.str "hand" :: r) → (r.length : Int) + 1 = 3 := by
  intro c r e
  cases c <;> simp only [Chg.d, D.tup.injEq, List.cons.injEq] at e <;> first | exact absurd (D.str.inj e.1) (by decide +kernel) | (rw [← e.2]; rfl)
def w_f_law_is_changem : DS := wSeq (wAsg (wVar 0) (gTp 4 (gCn (gNm 2) (gCn (gNm 3) (gCn (gNm 4) (gCn (gNm 5) gNl)))))) (wSeq (wAsg (wDct [("wish", dnI 6), ("unwish", dnI 2), ("work", dnI 4), ("drop", dnI 2), ("longer", dnI 3), ("away", dnI 4), ("hand", dnI 3)]) (gNm 6)) (wSeq (wIf (wOr (wNot (wTest (wIsi "tuple" (wVar 1)))) (wOr (wTest (wOp (dEqT fun b => b) (wVar 1) (wTup (wNil)))) (wOr (wTest (wOp (dInW fun b => !b) (wOp dIx (wVar 1) (wC (.int 0))) (wCB bListK (wCons (wVar 6) (wNil))))) (wTest (wOp dNe (wCB bLen (wCons (wVar 1) (wNil))) (wDGet (wVar 6) (wOp dIx (wVar 1) (wC (.int 0))))))))) (wRet (wC (.bl false))) ((fun D env st => D.nx env st))) (wSeq (wAsg (wOp dIx (wVar 1) (wC (.int 0))) (gNm 7)) (wSeq (wIf (wTest (wOp dEq (wVar 7) (wC (.str "wish")))) (wRet (wAndV (wOp dLt (wCB bLen (wCons (wVar 5) (wNil))) (wC (.int 24))) (wCall S_f_law_is_wish (wCons (wSl false (wVar 1) (oPart (wC (.int 1))) oNo) (wCons (wVar 2) (wCons (wCB bLen (wCons (wVar 4) (wNil))) (wNil))))))) ((fun D env st => D.nx env st))) (wSeq (wIf (wTest (wOp dEq (wVar 7) (wC (.str "work")))) (wRet (wAndV (wOp dLt (wCB bLen (wCons (wVar 4) (wNil))) (wC (.int 12))) (wCall S_f_law_is_work (wCons (wSl false (wVar 1) (oPart (wC (.int 1))) oNo) (wCons (wCB bLen (wCons (wVar 4) (wNil))) (wCons (wCB bLen (wCons (wVar 3) (wNil))) (wNil))))))) ((fun D env st => D.nx env st))) (wSeq (wIf (wTest (wOp dEq (wVar 7) (wC (.str "hand")))) (wRet (wAndV (wOp dLt (wCB bLen (wCons (wVar 3) (wNil))) (wC (.int 5))) (wAndV (wCall S_f_law_is_rising (wCons (wOp dIx (wVar 1) (wC (.int 1))) (wCons (wOp dSub (wVar 2) (wC (.int 1))) (wNil)))) (wCall S_f_law_is_rising (wCons (wOp dIx (wVar 1) (wC (.int 2))) (wCons (wOp dSub (wCB bLen (wCons (wVar 4) (wNil))) (wC (.int 1))) (wNil))))))) ((fun D env st => D.nx env st))) (wSeq (wAsg (wOp dSub (wDGet (wDct [("unwish", dnLen 5), ("drop", dnLen 4), ("longer", dnLen 4), ("away", dnLen 3)]) (wVar 7)) (wC (.int 1))) (gNm 8)) (wSeq (wIf (wNot (wTest (wCall S_f_law_is_from (wCons (wOp dIx (wVar 1) (wC (.int 1))) (wCons (wC (.int 0)) (wCons (wVar 8) (wNil))))))) (wRet (wC (.bl false))) ((fun D env st => D.nx env st))) (wSeq (wIf (wTest (wOp dEq (wVar 7) (wC (.str "longer")))) (wRet (wCall S_f_law_is_from (wCons (wOp dIx (wVar 1) (wC (.int 2))) (wCons (wOp dAdd (wOp dIx (wOp dIx (wVar 4) (wOp dIx (wVar 1) (wC (.int 1)))) (wC (.int 0))) (wC (.int 1))) (wCons (wC (.int 10)) (wNil)))))) ((fun D env st => D.nx env st))) (wRet (wOrV (wOp dNe (wVar 7) (wC (.str "away"))) (wAndV (wCall S_f_law_is_from (wCons (wOp dIx (wVar 1) (wC (.int 2))) (wCons (wC (.int 0)) (wCons (wOp dSub (wVar 2) (wC (.int 1))) (wNil))))) (wCall S_f_law_is_from (wCons (wOp dIx (wVar 1) (wC (.int 3))) (wCons (wOp dAdd (wOp dIx (wVar 1) (wC (.int 2))) (wC (.int 1))) (wCons (wVar 2) (wNil)))))))))))))))))
noncomputable def S_f_law_is_changem : DL.Spec := pureS 2 (fun x : Sy × D => [x.1.d, x.2]) (fun x => Sy24 x.1 ∧ Any x.2) (fun x => .bl (chgD x.1 x.2))
theorem vc_f_law_is_changem : ∀ g sto, (S_f_law_is_changem.args g).length = S_f_law_is_changem.n → S_f_law_is_changem.pre g sto → w_f_law_is_changem (bodyEnds (S_f_law_is_changem.post g sto)) (startE ["_law_system_here", "_law_thing", "_law_days", "_law_hands", "_law_works", "_law_wishes", "_law_sizes", "_law_word", "_law_high"] (S_f_law_is_changem.args g)) sto := by
  rintro ⟨s, d⟩ sto _ ⟨hs, hA⟩
  dsimp only at hs hA
  have hd0 := hs.days
  have hw0 := hs.works
  have hu0 := hs.wishes
  have hh0 := hs.hands
  have z1 : 1 ≤ sizeLine := by decide
  have z7 : 7 ≤ sizeLine := by decide
  simp? only [w_f_law_is_changem, S_f_law_is_changem, pureS, v_slT, wDct, goD, dnI, dnLen, wDGet, wIsi]
  refine ⟨hA.noRef, ?_⟩
  rcases isa_tup (d := d) with ⟨ds, rfl⟩ | ⟨h1, h2⟩
  rotate_left
  · rw [h1, if_pos (by decide)]
    first | refine ⟨rfl, congrArg D.bl (tr_false ?_).symm⟩ | refine congrArg D.bl (tr_false ?_).symm
    rintro ⟨c, e, _⟩
    obtain ⟨y, r, e2⟩ := chg_head (c := c)
    rw [e2] at e
    exact h2 _ e
  rw [isa_tupT, if_neg (by decide), v_eqT]
  rcases ds with _ | ⟨x, ds⟩
  · refine ⟨Nat.zero_le _, _, rfl, ?_⟩
    rw [if_pos (by decide)]
    refine ⟨rfl, congrArg D.bl (tr_false ?_).symm⟩
    rintro ⟨c, e, _⟩
    cases c <;> cases e
  refine ⟨Nat.zero_le _, _, rfl, ?_⟩
  rw [if_neg (by simp)]
  simp? only [v_slT, cut_tail]
  refine ⟨_, rfl, by rw [sizeLine_eq]; decide, ?_⟩
  have ix := hA.item (d := x) (by simp)
  have hd := any_tail hA
  refine ⟨["wish", "unwish", "work", "drop", "longer", "away", "hand"], rfl, ix.noRef, ?_⟩
  rcases isa_str (d := x) with ⟨x, rfl⟩ | ⟨h1, h2⟩
  rotate_left
  · rw [show isTxt ["wish", "unwish", "work", "drop", "longer", "away", "hand"] x = false by cases x <;> first | rfl | exact absurd rfl (h2 _)]
    refine ⟨_, rfl, ?_⟩
    rw [if_pos (by decide)]
    refine ⟨rfl, congrArg D.bl (tr_false ?_).symm⟩
    rintro ⟨c, e, _⟩
    obtain ⟨y, r, e2⟩ := chg_head (c := c)
    rw [e2] at e
    exact h2 y (by injection e with e; injection e)
  by_cases e_wish : x = ("wish" : Str)
  · subst e_wish
    rw [show isTxt ["wish", "unwish", "work", "drop", "longer", "away", "hand"] (.str "wish") = true from w_in_wish]
    refine ⟨_, rfl, ?_⟩
    rw [if_neg (by decide)]
    refine ⟨_, .inr ("wish" : Str), .inl 6, rfl, rfl, getK_hit, ?_⟩
    simp? only [keyV]
    by_cases hl : (("wish", ds).2.length : Int) + 1 = 6
    rotate_left
    · rw [if_pos (by simpa using hl)]
      first | exact ⟨rfl, congrArg D.bl (chg_len size_wish hl).symm⟩ | exact congrArg D.bl (chg_len size_wish hl).symm
    rw [if_neg (by simpa using hl)]
    refine v_eqsI true (beq_self_eq_true _) ?_
    refine ⟨_, rfl, ?_⟩
    rw [if_pos rfl]
    rw [← is_wish]
    by_cases h : (s.wishes.length : Int) < 24
    · rw [if_pos h]
      refine use_pure (.tup ds, s.days, (s.works.length : Int)) rfl rfl hd ⟨rfl, ?_⟩
      dsimp only
      refine congrArg D.bl (tr_eq ?_)
      unfold wishD
      rw [tr_iff]
      exact ⟨fun h2 => ⟨by omega, h2⟩, fun h2 => h2.2⟩
    rw [if_neg h]
    exact ⟨rfl, congrArg D.bl (tr_false fun h2 => h (by have := h2.1; omega)).symm⟩
  by_cases e_unwish : x = ("unwish" : Str)
  · subst e_unwish
    rw [show isTxt ["wish", "unwish", "work", "drop", "longer", "away", "hand"] (.str "unwish") = true from w_in_unwish]
    refine ⟨_, rfl, ?_⟩
    rw [if_neg (by decide)]
    refine ⟨_, .inr ("unwish" : Str), .inl 2, rfl, rfl, (getK_skip n_wish_unwish).trans (getK_hit), ?_⟩
    simp? only [keyV]
    by_cases hl : (("unwish", ds).2.length : Int) + 1 = 2
    rotate_left
    · rw [if_pos (by simpa using hl)]
      first | exact ⟨rfl, congrArg D.bl (chg_len size_unwish hl).symm⟩ | exact congrArg D.bl (chg_len size_unwish hl).symm
    rw [if_neg (by simpa using hl)]
    refine v_eqsI false n_unwish_wish ?_
    refine ⟨_, rfl, ?_⟩
    rw [if_neg (by decide)]
    refine v_eqsI false n_unwish_work ?_
    refine ⟨_, rfl, ?_⟩
    rw [if_neg (by decide)]
    refine v_eqsI false n_unwish_hand ?_
    refine ⟨_, rfl, ?_⟩
    rw [if_neg (by decide)]
    refine ⟨_, rfl, _, rfl, _, rfl, _, rfl, _, .inr ("unwish" : Str), .inl _, rfl, rfl, getK_hit, ?_⟩
    simp? only [keyV, List.length_map]
    obtain ⟨a, rfl⟩ := one_of (show ds.length = 1 by dsimp only at hl; omega)
    have ia := (hd.item (d := a) (by simp)).noRef
    rw [← is_unwish]
    refine ⟨a, atI_of (by omega) rfl, ?_⟩
    refine use_pure (a, 0, (s.wishes.length : Int) - 1) rfl rfl ia ?_
    dsimp only
    refine ⟨_, rfl, ?_⟩
    cases h1 : fromF a 0 ((s.wishes.length : Int) - 1) with
    | true =>
      rw [if_neg (by decide)]
      refine v_eqsI false n_unwish_longer ?_
      refine ⟨_, rfl, ?_⟩
      rw [if_neg (by decide)]
      refine v_eqsI false n_unwish_away ?_
      refine ⟨_, rfl, ?_⟩
      rw [if_pos (by decide)]
      obtain ⟨k, e, hk⟩ := place_iff.mpr h1
      exact ⟨rfl, congrArg D.bl (tr_true ⟨k, by rw [e], hk⟩).symm⟩
    | false =>
      rw [if_pos (by decide)]
      refine ⟨rfl, congrArg D.bl (tr_false ?_).symm⟩
      rintro ⟨k, e, hk⟩
      rw [place_iff.mp ⟨k, (List.cons.inj e).1, hk⟩] at h1
      cases h1
  by_cases e_work : x = ("work" : Str)
  · subst e_work
    rw [show isTxt ["wish", "unwish", "work", "drop", "longer", "away", "hand"] (.str "work") = true from w_in_work]
    refine ⟨_, rfl, ?_⟩
    rw [if_neg (by decide)]
    refine ⟨_, .inr ("work" : Str), .inl 4, rfl, rfl, (getK_skip n_wish_work).trans ((getK_skip n_unwish_work).trans (getK_hit)), ?_⟩
    simp? only [keyV]
    by_cases hl : (("work", ds).2.length : Int) + 1 = 4
    rotate_left
    · rw [if_pos (by simpa using hl)]
      first | exact ⟨rfl, congrArg D.bl (chg_len size_work hl).symm⟩ | exact congrArg D.bl (chg_len size_work hl).symm
    rw [if_neg (by simpa using hl)]
    refine v_eqsI false n_work_wish ?_
    refine ⟨_, rfl, ?_⟩
    rw [if_neg (by decide)]
    refine v_eqsI true (beq_self_eq_true _) ?_
    refine ⟨_, rfl, ?_⟩
    rw [if_pos rfl]
    rw [← is_work]
    by_cases h : (s.works.length : Int) < 12
    · rw [if_pos h]
      refine use_pure (.tup ds, (s.works.length : Int), (s.hands.length : Int)) rfl rfl hd ⟨rfl, ?_⟩
      dsimp only
      refine congrArg D.bl (tr_eq ?_)
      unfold workD
      rw [tr_iff]
      exact ⟨fun h2 => ⟨by omega, h2⟩, fun h2 => h2.2⟩
    rw [if_neg h]
    exact ⟨rfl, congrArg D.bl (tr_false fun h2 => h (by have := h2.1; omega)).symm⟩
  by_cases e_drop : x = ("drop" : Str)
  · subst e_drop
    rw [show isTxt ["wish", "unwish", "work", "drop", "longer", "away", "hand"] (.str "drop") = true from w_in_drop]
    refine ⟨_, rfl, ?_⟩
    rw [if_neg (by decide)]
    refine ⟨_, .inr ("drop" : Str), .inl 2, rfl, rfl, (getK_skip n_wish_drop).trans ((getK_skip n_unwish_drop).trans ((getK_skip n_work_drop).trans (getK_hit))), ?_⟩
    simp? only [keyV]
    by_cases hl : (("drop", ds).2.length : Int) + 1 = 2
    rotate_left
    · rw [if_pos (by simpa using hl)]
      first | exact ⟨rfl, congrArg D.bl (chg_len size_drop hl).symm⟩ | exact congrArg D.bl (chg_len size_drop hl).symm
    rw [if_neg (by simpa using hl)]
    refine v_eqsI false n_drop_wish ?_
    refine ⟨_, rfl, ?_⟩
    rw [if_neg (by decide)]
    refine v_eqsI false n_drop_work ?_
    refine ⟨_, rfl, ?_⟩
    rw [if_neg (by decide)]
    refine v_eqsI false n_drop_hand ?_
    refine ⟨_, rfl, ?_⟩
    rw [if_neg (by decide)]
    refine ⟨_, rfl, _, rfl, _, rfl, _, rfl, _, .inr ("drop" : Str), .inl _, rfl, rfl, (getK_skip n_unwish_drop).trans (getK_hit), ?_⟩
    simp? only [keyV, List.length_map]
    obtain ⟨a, rfl⟩ := one_of (show ds.length = 1 by dsimp only at hl; omega)
    have ia := (hd.item (d := a) (by simp)).noRef
    rw [← is_drop]
    refine ⟨a, atI_of (by omega) rfl, ?_⟩
    refine use_pure (a, 0, (s.works.length : Int) - 1) rfl rfl ia ?_
    dsimp only
    refine ⟨_, rfl, ?_⟩
    cases h1 : fromF a 0 ((s.works.length : Int) - 1) with
    | true =>
      rw [if_neg (by decide)]
      refine v_eqsI false n_drop_longer ?_
      refine ⟨_, rfl, ?_⟩
      rw [if_neg (by decide)]
      refine v_eqsI false n_drop_away ?_
      refine ⟨_, rfl, ?_⟩
      rw [if_pos (by decide)]
      obtain ⟨k, e, hk⟩ := place_iff.mpr h1
      exact ⟨rfl, congrArg D.bl (tr_true ⟨k, by rw [e], hk⟩).symm⟩
    | false =>
      rw [if_pos (by decide)]
      refine ⟨rfl, congrArg D.bl (tr_false ?_).symm⟩
      rintro ⟨k, e, hk⟩
      rw [place_iff.mp ⟨k, (List.cons.inj e).1, hk⟩] at h1
      cases h1
  by_cases e_longer : x = ("longer" : Str)
  · subst e_longer
    rw [show isTxt ["wish", "unwish", "work", "drop", "longer", "away", "hand"] (.str "longer") = true from w_in_longer]
    refine ⟨_, rfl, ?_⟩
    rw [if_neg (by decide)]
    refine ⟨_, .inr ("longer" : Str), .inl 3, rfl, rfl, (getK_skip n_wish_longer).trans ((getK_skip n_unwish_longer).trans ((getK_skip n_work_longer).trans ((getK_skip n_drop_longer).trans (getK_hit)))), ?_⟩
    simp? only [keyV]
    by_cases hl : (("longer", ds).2.length : Int) + 1 = 3
    rotate_left
    · rw [if_pos (by simpa using hl)]
      first | exact ⟨rfl, congrArg D.bl (chg_len size_longer hl).symm⟩ | exact congrArg D.bl (chg_len size_longer hl).symm
    rw [if_neg (by simpa using hl)]
    refine v_eqsI false n_longer_wish ?_
    refine ⟨_, rfl, ?_⟩
    rw [if_neg (by decide)]
    refine v_eqsI false n_longer_work ?_
    refine ⟨_, rfl, ?_⟩
    rw [if_neg (by decide)]
    refine v_eqsI false n_longer_hand ?_
    refine ⟨_, rfl, ?_⟩
    rw [if_neg (by decide)]
    refine ⟨_, rfl, _, rfl, _, rfl, _, rfl, _, .inr ("longer" : Str), .inl _, rfl, rfl, (getK_skip n_unwish_longer).trans ((getK_skip n_drop_longer).trans (getK_hit)), ?_⟩
    simp? only [keyV, List.length_map]
    obtain ⟨a, b, rfl⟩ := two_of (show ds.length = 2 by dsimp only at hl; omega)
    have ia := (hd.item (d := a) (by simp)).noRef
    have ib := (hd.item (d := b) (by simp)).noRef
    rw [← is_longer]
    refine ⟨a, atI_of (by omega) rfl, ?_⟩
    refine use_pure (a, 0, (s.works.length : Int) - 1) rfl rfl ia ?_
    dsimp only
    refine ⟨_, rfl, ?_⟩
    by_cases h0 : ∃ k : Nat, a = .int k ∧ k < s.works.length
    rotate_left
    · rw [show fromF a 0 ((s.works.length : Int) - 1) = false from Bool.eq_false_iff.mpr fun z => h0 (place_iff.mpr z), if_pos (by decide)]
      refine ⟨rfl, congrArg D.bl (tr_false ?_).symm⟩
      rintro ⟨k, l, e, h1, _⟩
      exact h0 ⟨k, (List.cons.inj e).1, h1⟩
    obtain ⟨k, rfl, hk⟩ := h0
    rw [place_iff.mp ⟨k, rfl, hk⟩, if_neg (by decide)]
    refine v_eqsI true (beq_self_eq_true _) ?_
    refine ⟨_, rfl, ?_⟩
    rw [if_pos rfl]
    refine ⟨b, atI_of (by omega) rfl, ?_⟩
    refine ⟨_, atI_of (by omega) rfl, ?_⟩
    simp? only [true_and]
    refine ⟨_, atI_map (wk_at hk), ?_⟩
    simp? only [wk_ix0]
    refine use_pure (b, (wkAt s k).len + 1, 10) rfl rfl ib ⟨rfl, ?_⟩
    dsimp only
    refine congrArg D.bl (tr_eq ?_)
    rw [fromF_iff]
    constructor
    · rintro ⟨i, rfl, h1, h2⟩
      exact ⟨k, i, rfl, hk, h1, h2⟩
    · rintro ⟨k', l, e, h0, h1, h2⟩
      injection e with e1 e
      injection e with e2 _
      injection e1 with e1
      have e1 := Int.natCast_inj.mp e1
      subst e1
      exact ⟨l, e2, h1, h2⟩
  by_cases e_away : x = ("away" : Str)
  · subst e_away
    rw [show isTxt ["wish", "unwish", "work", "drop", "longer", "away", "hand"] (.str "away") = true from w_in_away]
    refine ⟨_, rfl, ?_⟩
    rw [if_neg (by decide)]
    refine ⟨_, .inr ("away" : Str), .inl 4, rfl, rfl, (getK_skip n_wish_away).trans ((getK_skip n_unwish_away).trans ((getK_skip n_work_away).trans ((getK_skip n_drop_away).trans ((getK_skip n_longer_away).trans (getK_hit))))), ?_⟩
    simp? only [keyV]
    by_cases hl : (("away", ds).2.length : Int) + 1 = 4
    rotate_left
    · rw [if_pos (by simpa using hl)]
      first | exact ⟨rfl, congrArg D.bl (chg_len size_away hl).symm⟩ | exact congrArg D.bl (chg_len size_away hl).symm
    rw [if_neg (by simpa using hl)]
    refine v_eqsI false n_away_wish ?_
    refine ⟨_, rfl, ?_⟩
    rw [if_neg (by decide)]
    refine v_eqsI false n_away_work ?_
    refine ⟨_, rfl, ?_⟩
    rw [if_neg (by decide)]
    refine v_eqsI false n_away_hand ?_
    refine ⟨_, rfl, ?_⟩
    rw [if_neg (by decide)]
    refine ⟨_, rfl, _, rfl, _, rfl, _, rfl, _, .inr ("away" : Str), .inl _, rfl, rfl, (getK_skip n_unwish_away).trans ((getK_skip n_drop_away).trans ((getK_skip n_longer_away).trans (getK_hit))), ?_⟩
    simp? only [keyV, List.length_map]
    obtain ⟨a, b, c, rfl⟩ := three_of (show ds.length = 3 by dsimp only at hl; omega)
    have ia := (hd.item (d := a) (by simp)).noRef
    have ib := (hd.item (d := b) (by simp)).noRef
    have ic := (hd.item (d := c) (by simp)).noRef
    rw [← is_away]
    refine ⟨a, atI_of (by omega) rfl, ?_⟩
    refine use_pure (a, 0, (s.hands.length : Int) - 1) rfl rfl ia ?_
    dsimp only
    refine ⟨_, rfl, ?_⟩
    by_cases h0 : ∃ k : Nat, a = .int k ∧ k < s.hands.length
    rotate_left
    · rw [show fromF a 0 ((s.hands.length : Int) - 1) = false from Bool.eq_false_iff.mpr fun z => h0 (place_iff.mpr z), if_pos (by decide)]
      refine ⟨rfl, congrArg D.bl (tr_false ?_).symm⟩
      rintro ⟨k, a', l, e, h1, _⟩
      exact h0 ⟨k, (List.cons.inj e).1, h1⟩
    obtain ⟨k, rfl, hk⟩ := h0
    rw [place_iff.mp ⟨k, rfl, hk⟩, if_neg (by decide)]
    refine v_eqsI false n_away_longer ?_
    refine ⟨_, rfl, ?_⟩
    rw [if_neg (by decide)]
    refine v_eqsI true (beq_self_eq_true _) ?_
    refine ⟨_, rfl, ?_⟩
    rw [if_neg (by decide)]
    refine ⟨b, atI_of (by omega) rfl, ?_⟩
    refine use_pure (b, 0, s.days - 1) rfl rfl ib ?_
    dsimp only
    refine ⟨_, rfl, ?_⟩
    cases h1 : fromF b 0 (s.days - 1) with
    | true =>
      obtain ⟨a2, rfl, h2, h3⟩ := fromF_iff.mp h1
      rw [if_pos rfl]
      refine ⟨c, atI_of (by omega) rfl, ?_⟩
      refine ⟨_, atI_of (by omega) rfl, ?_⟩
      simp? only [true_and]
      refine use_pure (c, a2 + 1, s.days) rfl rfl ic ⟨rfl, ?_⟩
      dsimp only
      refine congrArg D.bl (tr_eq ?_)
      rw [fromF_iff]
      constructor
      · rintro ⟨i, rfl, h4, h5⟩
        exact ⟨k, a2, i, rfl, hk, h2, h3, h4, h5⟩
      · rintro ⟨k', a', l, e, _, _, _, h4, h5⟩
        injection e with e1 e
        injection e with e2 e
        injection e with e3 _
        injection e2 with e2
        subst e2
        exact ⟨l, e3, h4, h5⟩
    | false =>
      rw [if_neg (by decide)]
      refine ⟨rfl, congrArg D.bl (tr_false ?_).symm⟩
      rintro ⟨k', a', l, e, _, h2, h3, _⟩
      injection e with e1 e
      injection e with e2 e
      rw [fromF_iff.mpr ⟨_, e2, h2, h3⟩] at h1
      cases h1
  by_cases e_hand : x = ("hand" : Str)
  · subst e_hand
    rw [show isTxt ["wish", "unwish", "work", "drop", "longer", "away", "hand"] (.str "hand") = true from w_in_hand]
    refine ⟨_, rfl, ?_⟩
    rw [if_neg (by decide)]
    refine ⟨_, .inr ("hand" : Str), .inl 3, rfl, rfl, (getK_skip n_wish_hand).trans ((getK_skip n_unwish_hand).trans ((getK_skip n_work_hand).trans ((getK_skip n_drop_hand).trans ((getK_skip n_longer_hand).trans ((getK_skip n_away_hand).trans (getK_hit)))))), ?_⟩
    simp? only [keyV]
    by_cases hl : (("hand", ds).2.length : Int) + 1 = 3
    rotate_left
    · rw [if_pos (by simpa using hl)]
      first | exact ⟨rfl, congrArg D.bl (chg_len size_hand hl).symm⟩ | exact congrArg D.bl (chg_len size_hand hl).symm
    rw [if_neg (by simpa using hl)]
    refine v_eqsI false n_hand_wish ?_
    refine ⟨_, rfl, ?_⟩
    rw [if_neg (by decide)]
    refine v_eqsI false n_hand_work ?_
    refine ⟨_, rfl, ?_⟩
    rw [if_neg (by decide)]
    refine v_eqsI true (beq_self_eq_true _) ?_
    refine ⟨_, rfl, ?_⟩
    rw [if_pos rfl]
    obtain ⟨a, b, rfl⟩ := two_of (show ds.length = 2 by dsimp only at hl; omega)
    have ia := hd.item (d := a) (by simp)
    have ib := hd.item (d := b) (by simp)
    rw [← is_hand]
    by_cases h : (s.hands.length : Int) < 5
    rotate_left
    · rw [if_neg h]
      refine ⟨rfl, congrArg D.bl (tr_false ?_).symm⟩
      rintro ⟨_, _, _, h2, _⟩
      omega
    rw [if_pos h]
    refine ⟨a, atI_of (by omega) rfl, ?_⟩
    refine use_pure (a, s.days - 1) rfl rfl ia ?_
    dsimp only
    refine ⟨_, rfl, ?_⟩
    cases h1 : risD a (s.days - 1) with
    | true =>
      obtain ⟨row, rfl, hr⟩ := ris_iff.mp h1
      rw [if_pos rfl]
      refine ⟨b, atI_of (by omega) rfl, ?_⟩
      refine use_pure (b, (s.works.length : Int) - 1) rfl rfl ib ⟨rfl, ?_⟩
      dsimp only
      refine congrArg D.bl (tr_eq ?_)
      rw [ris_iff]
      constructor
      · rintro ⟨able, rfl, h2⟩
        exact ⟨row, able, rfl, by omega, by simpa using hr, by simpa using h2⟩
      · rintro ⟨r, able, e, _, _, h2⟩
        injection e with e1 e
        injection e with e2 _
        exact ⟨able, e2, by simpa using h2⟩
    | false =>
      rw [if_neg (by decide)]
      refine ⟨rfl, congrArg D.bl (tr_false ?_).symm⟩
      rintro ⟨r, able, e, _, h2, _⟩
      rw [ris_iff.mpr ⟨r, (List.cons.inj e).1, by simpa using h2⟩] at h1
      cases h1
  rw [show isTxt ["wish", "unwish", "work", "drop", "longer", "away", "hand"] (.str x) = false by simp [isTxt, Ne.symm e_wish, Ne.symm e_unwish, Ne.symm e_work, Ne.symm e_drop, Ne.symm e_longer, Ne.symm e_away, Ne.symm e_hand]]
  refine ⟨_, rfl, ?_⟩
  rw [if_pos (by decide)]
  exact ⟨rfl, congrArg D.bl (is_none (beq_false_of_ne e_wish) (beq_false_of_ne e_unwish) (beq_false_of_ne e_work) (beq_false_of_ne e_drop) (beq_false_of_ne e_longer) (beq_false_of_ne e_away) (beq_false_of_ne e_hand)).symm⟩
mutual
def _root_.DL.D.smx : D → Bool
  | .non => true
  | .bl _ => true
  | .int i => decide (i.natAbs < 10 ^ 64)
  | .str s => PyData.leavesShort 66 (.str s)
  | .tup ds => D.smxL ds
  | .lst ds => D.smxL ds
  | .scr ds => D.smxL ds
  | .dct kvs => (PyData.dict (kvs.map fun p => (kPy p.1, kPy p.2))).leavesShort 66 && (PyData.dict (kvs.map fun p => (kPy p.1, kPy p.2))).showable
  | .ref _ => false
  | .fn _ _ _ => false
  | .exc _ _ _ => false
def _root_.DL.D.smxL : List D → Bool
  | [] => true
  | d :: r => d.smx && D.smxL r
end
mutual
theorem py_shortx : ∀ d : D, d.smx = true → d.py.leavesShort 66 = true ∧ d.py.showable = true
  | .non, _ => ⟨rfl, rfl⟩
  | .bl _, _ => ⟨rfl, rfl⟩
  | .int i, h => by
    have h' : i.natAbs < 10 ^ 64 := by simpa [D.smx] using h
    refine ⟨?_, ?_⟩
    · have e := int_text_length_le10 (k := 64) (by decide) h'
      simp only [D.py, PyData.leavesShort, decide_eq_true_eq]
      show (Str.ofString (toString i)).length ≤ 66
      rw [PySem.ofString_length]
      omega
    · simp only [D.py, PyData.showable, decide_eq_true_eq]
      have h2 : (10 : Nat) ^ 64 < 2 ^ 240 := by decide
      by_cases h0 : i.natAbs = 0
      · rw [h0]; decide
      · have : i.natAbs.log2 < 240 := (Nat.log2_lt h0).mpr (Nat.lt_trans h' h2)
        omega
  | .str s, h => ⟨by simpa [D.py, D.smx] using h, rfl⟩
  | .tup ds, h => by simp only [D.py, PyData.leavesShort, PyData.showable]; exact pyL_shortx ds (by simpa only [D.smx] using h)
  | .lst ds, h => by simp only [D.py, PyData.leavesShort, PyData.showable]; exact pyL_shortx ds (by simpa only [D.smx] using h)
  | .scr ds, h => by simp only [D.py, PyData.leavesShort, PyData.showable]; exact pyL_shortx ds (by simpa only [D.smx] using h)
  | .dct kvs, h => by
    simp only [D.smx, Bool.and_eq_true] at h
    exact h
  | .ref _, h => by simp [D.smx] at h
  | .fn _ _ _, h => by simp [D.smx] at h
  | .exc _ _ _, h => by simp [D.smx] at h
theorem pyL_shortx : ∀ ds : List D, D.smxL ds = true → PyData.leavesShortAll 66 (D.pyL ds) = true ∧ PyData.showableAll (D.pyL ds) = true
  | [], _ => ⟨rfl, rfl⟩
  | d :: r, h => by
    simp only [D.smxL, Bool.and_eq_true] at h
    have h1 := py_shortx d h.1
    have h2 := pyL_shortx r h.2
    simp only [D.pyL, PyData.leavesShortAll, PyData.showableAll, Bool.and_eq_true]
    exact ⟨⟨h1.1, h2.1⟩, h1.2, h2.2⟩
end
/-- m: lists are within at most; not m: dicts at most -/
structure FX (m : Bool) (k n : Nat) (d : D) : Prop where
  ok : (if m = true then d.ok else d.okd) = true
  smx : d.smx = true
  blk : d.blk ≤ n
  dep : d.dep ≤ k
  blw : d.blw 0 = true
structure FXL (m : Bool) (k n : Nat) (ds : List D) : Prop where
  ok : (if m = true then D.okL ds else D.okdL ds) = true
  smx : D.smxL ds = true
  blk : D.blkL ds ≤ n
  dep : D.depL ds ≤ k
  blw : D.blwL 0 ds = true
section
variable {m : Bool} {k n k' n' : Nat} {d : D} {ds es : List D}
theorem FX.mono (h : FX m k n d) (hk : k ≤ k') (hn : n ≤ n') : FX m k' n' d := ⟨h.ok, h.smx, Nat.le_trans h.blk hn, Nat.le_trans h.dep hk, h.blw⟩
theorem FXL.mono (h : FXL m k n ds) (hk : k ≤ k') (hn : n ≤ n') : FXL m k' n' ds := ⟨h.ok, h.smx, Nat.le_trans h.blk hn, Nat.le_trans h.dep hk, h.blw⟩
theorem FX.fit (h : FX m k n d) (hk : k ≤ 60) (hn : n ≤ 100000) : d.Fit := by
  have hs := py_shortx _ h.smx
  refine ⟨?_, hs.2, ?_, Nat.le_trans h.dep hk⟩
  · have := h.ok
    cases m with
    | true => exact .inl this
    | false => exact .inr this
  · have h1 := PyData.shown_le_bulk 66 (by decide) d.py hs.1
    rw [py_blk] at h1
    have h2 := h.blk
    have h3 : (66 + 2) * d.blk ≤ 68 * 100000 := Nat.mul_le_mul (by omega) (by omega)
    rw [sizeLine_eq]
    omega
theorem FX.any (h : FX m k n d) (hn : n ≤ 1000000) : Any d := ⟨h.blw, Nat.le_trans h.blk hn⟩
end
theorem v_listT {m : Bool} {ds : List D} {st : Sto} {Q : DK} : bList m [.tup ds] st Q = newL m ds st Q :=
  propext ⟨fun ⟨_, _, e, h, q⟩ => by cases e; rcases h with h | h | h <;> cases h; exact q, fun q => ⟨_, _, rfl, .inr (.inl rfl), q⟩⟩
theorem st1 : PyData.canLay0 (.str "") = true ∧ PyData.leavesShort 66 (.str "") = true ∧ ("" : Str).cps.size = 0 := by decide +kernel
/-- what may stand anywhere -/
def Odd (d : D) : Prop := ∃ m, FX m 20 100000 d
def Tiny (d : D) : Prop := ∃ m, FX m 15 5000 d
theorem Odd.fit {d : D} (h : Odd d) : d.Fit := let ⟨_, h⟩ := h; h.fit (by decide) (by decide)
theorem Odd.any {d : D} (h : Odd d) : Any d := let ⟨_, h⟩ := h; h.any (by decide)
/-- seen at once -/
theorem odd_by {d : D} (h : ((d.ok || d.okd) && d.smx && decide (d.blk ≤ 5000) && decide (d.dep ≤ 15) && d.blw 0) = true) : Tiny d := by
  simp only [Bool.and_eq_true, Bool.or_eq_true, decide_eq_true_eq] at h
  obtain ⟨⟨⟨⟨h1, h2⟩, h3⟩, h4⟩, h5⟩ := h
  rcases h1 with h1 | h1
  · exact ⟨true, h1, h2, h3, h4, h5⟩
  · exact ⟨false, h1, h2, h3, h4, h5⟩
theorem repS_list (x : Str) (n : Int) : (repS x n).cps.toList = (List.replicate n.toNat x.cps.toList).flatten := by
  have h : ∀ (k : Nat) (acc : Array Nat), ((List.replicate k x.cps).foldl (· ++ ·) acc).toList = acc.toList ++ (List.replicate k x.cps.toList).flatten := fun k => by
    induction k with
    | zero => intro acc; simp
    | succ k ih => intro acc; rw [List.replicate_succ, List.foldl_cons, ih, Array.toList_append, List.replicate_succ, List.flatten_cons, List.append_assoc]
  have := h n.toNat #[]
  rw [List.nil_append] at this
  exact this
theorem odd_x : Tiny (.str (repS "x" 3999)) := by
  have hl : ∀ c ∈ (repS "x" 3999).cps.toList, c = 120 := fun c hc => by
    rw [repS_list] at hc
    obtain ⟨l, hl, hc⟩ := List.mem_flatten.mp hc
    rw [List.mem_replicate] at hl
    rw [hl.2] at hc
    have e : ("x" : Str).cps.toList = [120] := by decide +kernel
    rw [e] at hc
    simpa using hc
  refine ⟨true, ?_, ?_, ?_, Nat.zero_le _, rfl⟩
  · simp only [if_true, D.ok, PyData.canLay0]
    show (repS "x" 3999).cps.all (· < 0x110000) = true
    rw [← Array.all_toList, List.all_eq_true]
    intro c hc
    rw [hl c hc]
    decide
  · simp only [D.smx, PyData.leavesShort, List.all_eq_true]
    intro c hc
    rw [hl c hc]
    decide
  · show (repS "x" 3999).length ≤ 5000
    rw [repS_len]
    decide +kernel
def w_f_law_odd : DS := wSeq (wAsg (wLst false (wCons (wC .non) (wCons (wC (.bl true)) (wCons (wC (.bl false)) (wCons (wC (.int 0)) (wCons (wC (.int 1)) (wCons (wNeg (wC (.int 1))) (wCons (wC (.int 5)) (wCons (wC (.str "")) (wCons (wC (.str "a")) (wCons (wC (.str "0")) (wCons (wTup (wNil)) (wCons (wTup (wCons (wC (.int 0)) (wNil))) (wCons (wTup (wCons (wC (.int 0)) (wCons (wC (.int 1)) (wNil)))) (wCons (wTup (wCons (wTup (wNil)) (wCons (wTup (wNil)) (wNil)))) (wCons (wLst false (wNil)) (wCons (wLst false (wCons (wC (.int 0)) (wNil))) (wCons (wC (.dct [])) (wCons (wC (.dct [(.inl 0, .inl 1)])) (wNil)))))))))))))))))))) (gNm 1)) (wSeq (wAsg (wOp dAdd (wVar 1) (wLst false (wCons (wTup (wCons (wC .non) (wNil))) (wCons (wTup (wCons (wTup (wNil)) (wNil))) (wCons (wLst false (wCons (wTup (wNil)) (wNil))) (wCons (wTup (wCons (wC (.bl true)) (wCons (wC (.bl false)) (wNil)))) (wCons (wTup (wCons (wTup (wCons (wC (.int 0)) (wCons (wC (.int 0)) (wNil)))) (wCons (wTup (wCons (wC (.int 1)) (wCons (wC (.int 0)) (wNil)))) (wNil)))) (wCons (wTup (wCons (wTup (wCons (wTup (wNil)) (wCons (wTup (wNil)) (wNil)))) (wNil))) (wCons (wTup (wCons (wC (.str "day")) (wCons (wC (.int 1)) (wNil)))) (wCons (wTup (wCons (wTup (wCons (wC (.int 0)) (wCons (wC (.int 1)) (wNil)))) (wNil))) (wCons (wOp dPow (wC (.int 10)) (wC (.int 30))) (wNil)))))))))))) (gNm 1)) (wSeq (wAsg (wOp dAdd (wVar 1) (wLst false (wCons (wTup (wCons (wTup (wCons (wC (.int 0)) (wCons (wC (.int 0)) (wNil)))) (wCons (wC .non) (wNil)))) (wCons (wTup (wCons (wC (.int 3)) (wCons (wTup (wNil)) (wCons (wTup (wNil)) (wCons (wTup (wNil)) (wNil)))))) (wCons (wTup (wCons (wTup (wCons (wC (.int 3)) (wNil))) (wNil))) (wCons (wTup (wCons (wTup (wCons (wC (.int 0)) (wCons (wC (.int 0)) (wCons (wTup (wNil)) (wNil))))) (wNil))) (wCons (wC (.str "day")) (wCons (wTup (wCons (wC (.str "")) (wCons (wC (.bl false)) (wNil)))) (wCons (wTup (wCons (wTup (wCons (wC (.int 1)) (wCons (wC (.int 0)) (wCons (wC (.int 1)) (wNil))))) (wNil))) (wNil)))))))))) (gNm 1)) (wSeq (wAsg (wOp dAdd (wVar 1) (wLst false (wCons (wTup (wCons (wTup (wCons (wC (.int 0)) (wCons (wLst false (wCons (wC (.int 0)) (wNil))) (wNil)))) (wNil))) (wCons (wTup (wCons (wTup (wCons (wTup (wCons (wTup (wCons (wTup (wCons (wTup (wCons (wTup (wCons (wTup (wCons (wTup (wCons (wC (.int 0)) (wNil))) (wNil))) (wNil))) (wNil))) (wNil))) (wNil))) (wNil))) (wNil))) (wNil))) (wCons (wOp dMulS (wC (.str "x")) (wC (.int 3999))) (wCons (wTup (wCons (wC (.int 0)) (wCons (wTup (wCons (wC (.int 0)) (wCons (wC (.dct [])) (wNil)))) (wNil)))) (wCons (wTup (wCons (wTup (wCons (wC (.int 0)) (wCons (wC (.int 0)) (wNil)))) (wCons (wTup (wCons (wC (.int 0)) (wCons (wC (.int 1)) (wNil)))) (wCons (wLst false (wCons (wC (.int 1)) (wCons (wC (.int 0)) (wNil)))) (wNil))))) (wNil)))))))) (gNm 1)) (wRet (wOp dIx (wVar 1) (wOp dMod (wVar 0) (wCB bLen (wCons (wVar 1) (wNil)))))))))
theorem pick_of {xs : List D} {i : Int} {P R : D → Prop} (h0 : 0 ≤ i) (h1 : i < xs.length) (hP : ∀ x ∈ xs, P x) (hR : ∀ x, P x → R x) : ∃ d, atI xs i = some d ∧ R d := by
  obtain ⟨d, h2, h3⟩ := pick (xs := xs) h0 h1
  exact ⟨d, h2, hR d (hP d h3)⟩
mutual
/-- nothing but data, all texts right ones -/
def gd : D → Bool
  | .non => true
  | .bl _ => true
  | .int _ => true
  | .str s => (D.str s).ok
  | .tup ds => gdL ds
  | .lst ds => gdL ds
  | .scr ds => gdL ds
  | .dct _ => true
  | .ref _ => false
  | .fn _ _ _ => false
  | .exc _ _ _ => false
def gdL : List D → Bool
  | [] => true
  | d :: r => gd d && gdL r
end
theorem gd_x : gd (.str (repS "x" 3999)) = true := by
  have hl : ∀ c ∈ (repS "x" 3999).cps.toList, c = 120 := fun c hc => by
    rw [repS_list] at hc
    obtain ⟨l, hl, hc⟩ := List.mem_flatten.mp hc
    rw [List.mem_replicate] at hl
    rw [hl.2] at hc
    have e : ("x" : Str).cps.toList = [120] := by decide +kernel
    rw [e] at hc
    simpa using hc
  simp only [gd, D.ok, PyData.canLay0]
  show (repS "x" 3999).cps.all (· < 0x110000) = true
  rw [← Array.all_toList, List.all_eq_true]
  intro c hc
  rw [hl c hc]
  decide
def fewB : D → Bool
  | .tup ds => decide (ds.length ≤ 100)
  | _ => true
def S_f_law_odd : DL.Spec := ⟨1, Int, fun n => [.int n], fun _ _ => True, fun _ st d st' => st' = st ∧ Tiny d ∧ fewB d = true ∧ gd d = true⟩
theorem odd_use3 {n : Int} {st : Sto} {Q : DK} (q : ∀ d, Tiny d → gd d = true → Q d st) :
    ∃ g, [D.int n] = S_f_law_odd.args g ∧ (S_f_law_odd.args g).length = S_f_law_odd.n ∧ S_f_law_odd.pre g st ∧ ∀ d s2, S_f_law_odd.post g st d s2 → Q d s2 :=
  ⟨n, rfl, rfl, trivial, fun d s2 ⟨e, h, _, h2⟩ => by subst e; exact q d h h2⟩
theorem vc_f_law_odd : ∀ g sto, (S_f_law_odd.args g).length = S_f_law_odd.n → S_f_law_odd.pre g sto → w_f_law_odd (bodyEnds (S_f_law_odd.post g sto)) (startE ["_law_number", "_law_odd_here"] (S_f_law_odd.args g)) sto := by
  rintro (n : Int) sto _ _
  simp? only [w_f_law_odd, S_f_law_odd]
  repeat refine ⟨by decide, ?_⟩
  refine pick_of (P := fun d => Tiny d ∧ fewB d = true ∧ gd d = true) (modb n (by decide)).1 (modb n (by decide)).2 ?_ fun x h => h
  repeat refine List.forall_mem_cons.mpr ⟨⟨by first | with_reducible exact odd_x | exact odd_by (by decide +kernel), rfl, by first | with_reducible exact gd_x | decide +kernel⟩, ?_⟩
  exact fun _ h => (nomatch h)
mutual
def gm (q : Nat) : D → Bool
  | .non => true
  | .bl _ => true
  | .int i => decide (i.natAbs ≤ 10 ^ 64 + q)
  | .str s => (D.str s).ok
  | .tup ds => gmL q ds
  | .lst ds => gmL q ds
  | .dct kvs => (D.dct kvs).smx
  | .scr _ => false
  | .ref _ => false
  | .fn _ _ _ => false
  | .exc _ _ _ => false
def gmL (q : Nat) : List D → Bool
  | [] => true
  | d :: r => gm q d && gmL q r
end
theorem gmL_iff {q : Nat} : ∀ {ds : List D}, gmL q ds = true ↔ ∀ d ∈ ds, gm q d = true
  | [] => ⟨fun _ d h => absurd h List.not_mem_nil, fun _ => rfl⟩
  | d :: r => by
    simp only [gmL, Bool.and_eq_true]
    rw [gmL_iff (ds := r)]
    exact ⟨fun h x hx => (List.mem_cons.mp hx).elim (fun e => by rw [e]; exact h.1) (h.2 x), fun h => ⟨h _ List.mem_cons_self, fun x hx => h x (List.mem_cons_of_mem _ hx)⟩⟩
mutual
theorem gm_mono {q p : Nat} (hq : q ≤ p) : ∀ {d : D}, gm q d = true → gm p d = true
  | .non, _ => rfl
  | .bl _, _ => rfl
  | .int i, h => by
    have : i.natAbs ≤ 10 ^ 64 + q := of_decide_eq_true h
    exact decide_eq_true (show i.natAbs ≤ 10 ^ 64 + p by omega)
  | .str _, h => h
  | .tup ds, h => gmL_mono hq (ds := ds) h
  | .lst ds, h => gmL_mono hq (ds := ds) h
  | .dct _, h => h
  | .scr _, h => by cases h
  | .ref _, h => by cases h
  | .fn _ _ _, h => by cases h
  | .exc _ _ _, h => by cases h
theorem gmL_mono {q p : Nat} (hq : q ≤ p) : ∀ {ds : List D}, gmL q ds = true → gmL p ds = true
  | [], _ => rfl
  | d :: r, h => by
    simp only [gmL, Bool.and_eq_true] at h ⊢
    exact ⟨gm_mono hq h.1, gmL_mono hq h.2⟩
end
mutual
theorem gm_okm {q : Nat} : ∀ {d : D}, gm q d = true → d.okm = true
  | .non, _ => rfl
  | .bl _, _ => rfl
  | .int i, h => rfl
  | .str _, h => rfl
  | .tup ds, h => gmL_okm (ds := ds) h
  | .lst ds, h => gmL_okm (ds := ds) h
  | .dct _, h => rfl
  | .scr _, h => by cases h
  | .ref _, h => by cases h
  | .fn _ _ _, h => by cases h
  | .exc _ _ _, h => by cases h
theorem gmL_okm {q : Nat} : ∀ {ds : List D}, gmL q ds = true → D.okmL ds = true
  | [], _ => rfl
  | d :: r, h => by
    simp only [gmL, Bool.and_eq_true] at h
    simp only [D.okmL, Bool.and_eq_true]
    exact ⟨gm_okm h.1, gmL_okm h.2⟩
end
mutual
theorem gm_blw {q n : Nat} : ∀ {d : D}, gm q d = true → d.blw n = true
  | .non, _ => rfl
  | .bl _, _ => rfl
  | .int i, h => rfl
  | .str _, h => rfl
  | .tup ds, h => gmL_blw (ds := ds) h
  | .lst ds, h => gmL_blw (ds := ds) h
  | .dct _, h => rfl
  | .scr _, h => by cases h
  | .ref _, h => by cases h
  | .fn _ _ _, h => by cases h
  | .exc _ _ _, h => by cases h
theorem gmL_blw {q n : Nat} : ∀ {ds : List D}, gmL q ds = true → D.blwL n ds = true
  | [], _ => rfl
  | d :: r, h => by
    simp only [gmL, Bool.and_eq_true] at h
    simp only [D.blwL, Bool.and_eq_true]
    exact ⟨gm_blw h.1, gmL_blw h.2⟩
end
mutual
theorem gm_show {q : Nat} (hq : q ≤ 1000000) : ∀ {d : D}, gm q d = true → d.py.leavesShort 66 = true ∧ d.py.showable = true
  | .non, _ => ⟨rfl, rfl⟩
  | .bl _, _ => ⟨rfl, rfl⟩
  | .int i, h => by
    have h' : i.natAbs ≤ 10 ^ 64 + q := of_decide_eq_true h
    have h2 : i.natAbs < 10 ^ 65 := Nat.lt_of_le_of_lt h' (Nat.lt_of_le_of_lt (Nat.add_le_add_left hq _) (by decide))
    refine ⟨?_, ?_⟩
    · have e := int_text_length_le10 (k := 65) (by decide) h2
      simp only [D.py, PyData.leavesShort, decide_eq_true_eq]
      show (Str.ofString (toString i)).length ≤ 66
      rw [PySem.ofString_length]
      omega
    · simp only [D.py, PyData.showable, decide_eq_true_eq]
      have h3 : (10 : Nat) ^ 65 < 2 ^ 240 := by decide
      by_cases h0 : i.natAbs = 0
      · rw [h0]; decide
      · have : i.natAbs.log2 < 240 := (Nat.log2_lt h0).mpr (Nat.lt_trans h2 h3)
        omega
  | .str s, h => by
    have h2 : (s.cps.all fun c => decide (c < 0x110000)) = true := h
    refine ⟨?_, rfl⟩
    simp only [D.py, PyData.leavesShort, List.all_eq_true]
    intro c hc
    have := Array.all_eq_true_iff_forall_mem.mp h2 c (Array.mem_toList_iff.mp hc)
    have := of_decide_eq_true this
    have z : (0x110000 : Nat) < 16 ^ 8 := by decide
    exact decide_eq_true (by omega)
  | .tup ds, h => by simp only [D.py, PyData.leavesShort, PyData.showable]; exact gmL_show hq (ds := ds) h
  | .lst ds, h => by simp only [D.py, PyData.leavesShort, PyData.showable]; exact gmL_show hq (ds := ds) h
  | .dct kvs, h => py_shortx (.dct kvs) h
  | .scr _, h => by cases h
  | .ref _, h => by cases h
  | .fn _ _ _, h => by cases h
  | .exc _ _ _, h => by cases h
theorem gmL_show {q : Nat} (hq : q ≤ 1000000) : ∀ {ds : List D}, gmL q ds = true → PyData.leavesShortAll 66 (D.pyL ds) = true ∧ PyData.showableAll (D.pyL ds) = true
  | [], _ => ⟨rfl, rfl⟩
  | d :: r, h => by
    simp only [gmL, Bool.and_eq_true] at h
    have h1 := gm_show hq h.1
    have h2 := gmL_show hq h.2
    simp only [D.pyL, PyData.leavesShortAll, PyData.showableAll, Bool.and_eq_true]
    exact ⟨⟨h1.1, h2.1⟩, h1.2, h2.2⟩
end
mutual
theorem gm_of {m : Bool} : ∀ {d : D}, (if m = true then d.ok else d.okd) = true → d.smx = true → gd d = true → gm 0 d = true
  | .non, _, _, _ => rfl
  | .bl _, _, _, _ => rfl
  | .int i, _, h, _ => by
    have h' : i.natAbs < 10 ^ 64 := by simpa [D.smx] using h
    exact decide_eq_true (show i.natAbs ≤ 10 ^ 64 + 0 by omega)
  | .str _, _, _, h => h
  | .tup ds, h1, h2, h3 => gmL_of (m := m) (ds := ds) (by cases m <;> exact h1) h2 h3
  | .lst ds, h1, h2, h3 => by
    cases m with
    | true => exact gmL_of (m := true) (ds := ds) h1 h2 h3
    | false => exact absurd h1 (by show ¬(false = true); decide)
  | .dct _, _, h, _ => h
  | .scr _, h, _, _ => by cases m <;> exact absurd h (by show ¬(false = true); decide)
  | .ref _, _, h, _ => by cases h
  | .fn _ _ _, _, h, _ => by cases h
  | .exc _ _ _, _, h, _ => by cases h
theorem gmL_of {m : Bool} : ∀ {ds : List D}, (if m = true then D.okL ds else D.okdL ds) = true → D.smxL ds = true → gdL ds = true → gmL 0 ds = true
  | [], _, _, _ => rfl
  | d :: r, h1, h2, h3 => by
    simp only [D.smxL, Bool.and_eq_true] at h2
    simp only [gdL, Bool.and_eq_true] at h3
    have h4 : (if m = true then d.ok else d.okd) = true ∧ (if m = true then D.okL r else D.okdL r) = true := by
      cases m with
      | true => simpa [D.okL] using h1
      | false => simpa [D.okdL] using h1
    simp only [gmL, Bool.and_eq_true]
    exact ⟨gm_of h4.1 h2.1 h3.1, gmL_of h4.2 h2.2 h3.2⟩
end
/-- data, so deep, so large -/
structure Gm (q k b : Nat) (d : D) : Prop where
  gm : gm q d = true
  dep : d.dep ≤ k
  blk : d.blk ≤ b
theorem Gm.mono {q k b q' k' b' : Nat} {d : D} (h : Gm q k b d) (h1 : q ≤ q') (h2 : k ≤ k') (h3 : b ≤ b') : Gm q' k' b' d := ⟨gm_mono h1 h.gm, Nat.le_trans h.dep h2, Nat.le_trans h.blk h3⟩
theorem Gm.odd {d : D} (h : Tiny d) (h2 : gd d = true) : Gm 0 15 5000 d := by
  obtain ⟨m, h⟩ := h
  exact ⟨gm_of h.ok h.smx h2, h.dep, h.blk⟩
theorem Gm.fit {q k b : Nat} {d : D} (h : Gm q k b d) (hq : q ≤ 1000000) (hk : k ≤ 60) (hb : b ≤ 100000) : d.FitM := by
  have hs := gm_show hq h.gm
  refine ⟨gm_okm h.gm, hs.2, ?_, Nat.le_trans h.dep hk⟩
  have h1 := PyData.shown_le_bulk 66 (by decide) d.py hs.1
  rw [py_blk] at h1
  have h2 := h.blk
  have h3 : (66 + 2) * d.blk ≤ 68 * 100000 := Nat.mul_le_mul (by omega) (by omega)
  rw [sizeLine_eq]
  omega
theorem Gm.any {q k b : Nat} {d : D} (h : Gm q k b d) (hb : b ≤ 1000000) : Any d := ⟨gm_blw h.gm, Nat.le_trans h.blk hb⟩
structure GmL (q k b : Nat) (ds : List D) : Prop where
  gm : ∀ d ∈ ds, gm q d = true
  dep : ∀ d ∈ ds, d.dep ≤ k
  blk : D.blkL ds ≤ b
theorem depL_le {k : Nat} : ∀ {ds : List D}, (∀ d ∈ ds, d.dep ≤ k) → D.depL ds ≤ k
  | [], _ => Nat.zero_le _
  | d :: r, h => by
    have h1 := h d List.mem_cons_self
    have h2 := depL_le fun x hx => h x (List.mem_cons_of_mem _ hx)
    show max d.dep (D.depL r) ≤ k
    omega
theorem depL_of {k : Nat} : ∀ {ds : List D}, D.depL ds ≤ k → ∀ d ∈ ds, d.dep ≤ k
  | [], _, d, hd => absurd hd List.not_mem_nil
  | e :: r, h, d, hd => by
    have h : max e.dep (D.depL r) ≤ k := h
    rcases List.mem_cons.mp hd with rfl | hd
    · omega
    · exact depL_of (by omega) d hd
theorem blkL_appm : ∀ xs ys : List D, D.blkL (xs ++ ys) = D.blkL xs + D.blkL ys
  | [], ys => by rw [List.nil_append]; show _ = 0 + _; omega
  | x :: xs, ys => by
    rw [List.cons_append]
    show x.blk + 1 + D.blkL (xs ++ ys) = x.blk + 1 + D.blkL xs + D.blkL ys
    rw [blkL_appm xs ys]
    omega
theorem len_blkm : ∀ ds : List D, ds.length ≤ D.blkL ds
  | [] => Nat.le_refl _
  | d :: r => by
    have := len_blkm r
    show r.length + 1 ≤ d.blk + 1 + D.blkL r
    omega
theorem GmL.tup {q k b : Nat} {ds : List D} (h : GmL q k b ds) : Gm q (k + 1) b (.tup ds) := ⟨gmL_iff.mpr h.gm, Nat.succ_le_succ (depL_le h.dep), h.blk⟩
theorem GmL.lst {q k b : Nat} {ds : List D} (h : GmL q k b ds) : Gm q (k + 1) b (.lst ds) := ⟨gmL_iff.mpr h.gm, Nat.succ_le_succ (depL_le h.dep), h.blk⟩
theorem Gm.ofTup {q k b : Nat} {ds : List D} (h : Gm q (k + 1) b (.tup ds)) : GmL q k b ds := ⟨gmL_iff.mp h.gm, depL_of (Nat.le_of_succ_le_succ h.dep), h.blk⟩
theorem GmL.app {q k a b : Nat} {xs ys : List D} (h1 : GmL q k a xs) (h2 : GmL q k b ys) : GmL q k (a + b) (xs ++ ys) :=
  ⟨fun d hd => (List.mem_append.mp hd).elim (h1.gm d) (h2.gm d), fun d hd => (List.mem_append.mp hd).elim (h1.dep d) (h2.dep d), by rw [blkL_appm]; have := h1.blk; have := h2.blk; omega⟩
theorem GmL.one {q k b : Nat} {d : D} (h : Gm q k b d) : GmL q k (b + 1) [d] := ⟨fun x hx => by rw [List.mem_singleton.mp hx]; exact h.gm, fun x hx => by rw [List.mem_singleton.mp hx]; exact h.dep, by show d.blk + 1 + 0 ≤ _; have := h.blk; omega⟩
theorem GmL.mono {q k b q' k' b' : Nat} {ds : List D} (h : GmL q k b ds) (h1 : q ≤ q') (h2 : k ≤ k') (h3 : b ≤ b') : GmL q' k' b' ds := ⟨fun d hd => gm_mono h1 (h.gm d hd), fun d hd => Nat.le_trans (h.dep d hd) h2, Nat.le_trans h.blk h3⟩
theorem GmL.part {q k b : Nat} {ds es : List D} (h : GmL q k b ds) (hs : ∀ d ∈ es, d ∈ ds) : GmL q k (D.blkL es) es := ⟨fun d hd => h.gm d (hs d hd), fun d hd => h.dep d (hs d hd), Nat.le_refl _⟩
theorem blk_take (ds : List D) (i : Nat) : D.blkL (ds.take i) + D.blkL (ds.drop i) = D.blkL ds := by rw [← blkL_appm, List.take_append_drop]
theorem blk_at {ds : List D} {i : Nat} {x : D} (h : ds[i]? = some x) : D.blkL (ds.take i) + (x.blk + 1) + D.blkL (ds.drop (i + 1)) = D.blkL ds := by
  have hl := (List.getElem?_eq_some_iff.mp h).1
  have e : ds.drop i = x :: ds.drop (i + 1) := by
    rw [List.drop_eq_getElem_cons hl]
    rw [List.getElem?_eq_getElem hl] at h
    cases h
    rfl
  have := blk_take ds i
  rw [e] at this
  have e2 : D.blkL (x :: ds.drop (i + 1)) = x.blk + 1 + D.blkL (ds.drop (i + 1)) := rfl
  omega
/-- a thing near one of depth k, size b, numbers up to q -/
abbrev Nr (q k b : Nat) (d : D) : Prop := Gm (q + 30) (k + 16) (2 * b + 6000) d
def S_f_law_nearm (n : Nat) : DL.Spec := deckS 2 (3 * n + 3) (fun x : Nat × D => [x.2]) (fun x => Gm x.1 x.2.dep x.2.blk x.2 ∧ (x.1 ≤ 1000 ∧ x.2.dep ≤ 40 ∧ x.2.blk ≤ 40000) ∧ 2 * x.2.dep + 1 ≤ n) fun x d => Nr x.1 x.2.dep x.2.blk d
def S_f_law_bentm (n : Nat) : DL.Spec := deckS 2 (3 * n + 3) (fun x : Nat × List D => [.tup x.2]) (fun x => GmL x.1 (D.depL x.2) (D.blkL x.2) x.2 ∧ (x.1 ≤ 1000 ∧ D.depL x.2 ≤ 39 ∧ D.blkL x.2 ≤ 40000) ∧ 2 * (D.depL x.2 + 1) ≤ n) fun x d => Nr x.1 (D.depL x.2 + 1) (D.blkL x.2) d
theorem none_f_law_nearm : ∀ g st, ¬(S_f_law_nearm 0).pre g st := by
  rintro ⟨rest, B, q, d⟩ st ⟨_, _, _, _, h⟩
  dsimp only at h
  omega
theorem none_f_law_bentm : ∀ g st, ¬(S_f_law_bentm 0).pre g st := by
  rintro ⟨rest, B, q, d⟩ st ⟨_, _, _, _, h⟩
  dsimp only at h
  omega
theorem addB_i {i j : Int} {st : Sto} {Q : DK} (h : Q (.int (i + j)) st) : dAddB (.int i) (.int j) st Q := .inl h
theorem subB_i {i j : Int} {st : Sto} {Q : DK} (h : Q (.int (i - j)) st) : dSubB (.int i) (.int j) st Q := .inl ⟨i, j, rfl, rfl, trivial, h⟩
theorem addB_b {b : Bool} {j : Int} {st : Sto} {Q : DK} (h : Q (.int (b2 b + j)) st) : dAddB (.bl b) (.int j) st Q := .inr ⟨b, j, rfl, rfl, h⟩
theorem subB_b {b : Bool} {j : Int} {st : Sto} {Q : DK} (h : Q (.int (b2 b - j)) st) : dSubB (.bl b) (.int j) st Q := .inr (.inl ⟨b, j, rfl, rfl, h⟩)
theorem subB_c {b : Bool} {i : Int} {st : Sto} {Q : DK} (h : Q (.int (i - b2 b)) st) : dSubB (.int i) (.bl b) st Q := .inr (.inr ⟨i, b, rfl, rfl, h⟩)
theorem addB_s {a b : Str} {st : Sto} {Q : DK} (h : a.length + b.length ≤ 100000) (q : Q (.str (a ++ b)) st) : dAddB (.str a) (.str b) st Q := .inl ⟨Nat.le_trans h (by decide), q⟩
theorem nr_int {q k b : Nat} {i : Int} (h : i.natAbs ≤ 10 ^ 64 + q + 30) : Nr q k b (.int i) := ⟨decide_eq_true (show i.natAbs ≤ 10 ^ 64 + (q + 30) by omega), Nat.zero_le _, Nat.zero_le _⟩
theorem nr_bl {q k b : Nat} {x : Bool} : Nr q k b (.bl x) := ⟨rfl, Nat.zero_le _, Nat.zero_le _⟩
theorem nr_txt {q k b : Nat} {i : Int} (h : i.natAbs.log2 < 1920) : Nr q k b (.str (toString i)) := by
  have key : ∀ c ∈ (Str.ofString (toString i)).cps.toList, c ≤ 57 := fun c hc => by
    by_cases h1 : c ≤ 57
    · exact h1
    · exact absurd hc (int_text_free' c ⟨by omega, by omega⟩ i)
  refine ⟨?_, Nat.zero_le _, ?_⟩
  · show (Str.ofString (toString i)).cps.all (· < 0x110000) = true
    rw [← Array.all_toList, List.all_eq_true]
    intro c hc
    have := key c hc
    exact decide_eq_true (by omega)
  · have h1 : (Str.ofString (toString i)).length ≤ 1921 := int_text_len_1921 h
    show (Str.ofString (toString i)).length ≤ _
    omega
theorem strLenA (a b : Str) : (a ++ b).length = a.length + b.length := Array.size_append
theorem cutS_len (x : Str) (a b : Option Int) : (cutS x a b).length ≤ x.length := by
  unfold cutS
  show (List.toArray _).size ≤ x.cps.size
  rw [List.size_toArray, List.length_take, List.length_drop, Array.length_toList]
  omega
theorem okm_iff {x : Str} : (D.str x).ok = true ↔ ∀ c ∈ x.cps.toList, c < 0x110000 := by
  show (x.cps.all fun c => decide (c < 0x110000)) = true ↔ _
  rw [Array.all_eq_true_iff_forall_mem]
  exact ⟨fun h c hc => by simpa using h c (Array.mem_toList_iff.mp hc), fun h c hc => by simpa using h c (Array.mem_toList_iff.mpr hc)⟩
theorem cutS_ok {x : Str} (a b : Option Int) (h : (D.str x).ok = true) : (D.str (cutS x a b)).ok = true := okm_iff.mpr fun c hc => by
  unfold cutS at hc
  simp only [List.toList_toArray] at hc
  exact okm_iff.mp h c (List.mem_of_mem_drop (List.mem_of_mem_take hc))
theorem appS_ok {a b : Str} (h1 : (D.str a).ok = true) (h2 : (D.str b).ok = true) : (D.str (a ++ b)).ok = true := okm_iff.mpr fun c hc => by
  have hc : c ∈ (a.cps ++ b.cps).toList := hc
  rw [Array.toList_append] at hc
  exact (List.mem_append.mp hc).elim (okm_iff.mp h1 c) (okm_iff.mp h2 c)
theorem v_lenXm {x : Str} {st : Sto} {Q : DK} (h : x.length ≤ sizeLine) (q : Q (.int (x.length : Nat)) st) : bLen [.str x] st Q := by
  refine ⟨_, x.length, rfl, ?_, q⟩
  show (if x.length ≤ sizeLine then some x.length else none) = some x.length
  rw [if_pos h]
def w_f_law_nearm (n : Nat) : DS := wSeq (wAsg (wCall S_f_law_next (wCons (wVar 0) (wNil))) (gNm 2)) (wSeq (wIf (wTest (wIsi "tuple" (wVar 1))) (wRet (wCall (S_f_law_bentm n) (wCons (wVar 0) (wCons (wVar 1) (wNil))))) ((fun D env st => D.nx env st))) (wSeq (wIf (wTest (wIsi "str" (wVar 1))) (wSeq (wAsg (wOp dMod (wVar 2) (wCB bMax2 (wCons (wC (.int 1)) (wCons (wCB bLen (wCons (wVar 1) (wNil))) (wNil))))) (gNm 3)) (wRet (wOp dAddB (wOp dAddB (wSl false (wVar 1) oNo (oPart (wVar 3))) (wOp dIx (wC (.str "abcdefghijklmnopqrstuvwxyz ")) (wOp dMod (wOp dFdiv (wVar 2) (wC (.int 32))) (wC (.int 27))))) (wSl false (wVar 1) (oPart (wOp dAddB (wVar 3) (wC (.int 1)))) oNo)))) ((fun D env st => D.nx env st))) (wSeq (wIf (wTest (wIsi "int" (wVar 1))) (wRet (wOp dIx (wLst false (wCons (wOp dAddB (wVar 1) (wC (.int 1))) (wCons (wOp dSubB (wVar 1) (wC (.int 1))) (wCons (wOp dAddB (wVar 1) (wC (.int 10))) (wCons (wOp dSubB (wC (.int 0)) (wVar 1)) (wCons (wOp dAddB (wVar 1) (wC (.int 30))) (wCons (wOp dEq (wVar 1) (wC (.int 1))) (wCons (wCB bStrB (wCons (wVar 1) (wNil))) (wNil))))))))) (wOp dMod (wVar 2) (wC (.int 7))))) ((fun D env st => D.nx env st))) (wRet (wCall S_f_law_odd (wCons (wVar 2) (wNil)))))))
theorem vc_f_law_nearm (n : Nat) : ∀ g sto, ((S_f_law_nearm (n + 1)).args g).length = (S_f_law_nearm (n + 1)).n → (S_f_law_nearm (n + 1)).pre g sto → w_f_law_nearm n (bodyEnds ((S_f_law_nearm (n + 1)).post g sto)) (startE ["_law_deck_here", "_law_part", "_law_number", "_law_at"] ((S_f_law_nearm (n + 1)).args g)) sto := by
  rintro ⟨rest, B, q, d⟩ sto _ ⟨hD, hB, hd, hz, hn⟩
  dsimp only at hD hB hd hz hn
  obtain ⟨hq, hk, hb⟩ := hz
  simp?! only [w_f_law_nearm, S_f_law_nearm, deckS, startE]
  refine seq_go ?_
  (try simp?! only [true_and])
  refine next_use hD (by omega) fun y st y0 y1 hD => ?_
  have oddR : ∀ {Q : DK} {st : Sto}, Dk (B + 1) rest st → (∀ d2, Nr q d.dep d.blk d2 → Q d2 st) → ∃ g, [D.int y] = S_f_law_odd.args g ∧ (S_f_law_odd.args g).length = S_f_law_odd.n ∧ S_f_law_odd.pre g st ∧ ∀ d s2, S_f_law_odd.post g st d s2 → Q d s2 := fun {Q st} _ h =>
    odd_use3 fun d2 t g => h d2 ((Gm.odd t g).mono (by omega) (by omega) (by omega))
  cases d with
  | tup ds =>
    refine seq_go ?_
    (try simp?! only [true_and])
    refine ⟨trivial, ?_⟩
    rw [show D.isa "tuple" (D.tup ds) = true from rfl, if_pos rfl]
    have hdp : (D.tup ds).dep = D.depL ds + 1 := rfl
    rw [hdp] at hk hn
    exact use_deck (q, ds) rfl rfl hD (by omega) ⟨hd.ofTup, ⟨hq, by show D.depL ds ≤ 39; omega, hb⟩, by show 2 * (D.depL ds + 1) ≤ n; omega⟩ fun d st hd hD => ⟨hd, hD.mono (by omega)⟩
  | str x =>
    refine seq_go ?_
    (try simp?! only [true_and])
    refine ⟨trivial, ?_⟩
    rw [show D.isa "tuple" (D.str x) = false from rfl, if_neg (by decide)]
    refine seq_go ?_
    (try simp?! only [true_and])
    refine ⟨trivial, ?_⟩
    rw [show D.isa "str" (D.str x) = true from rfl, if_pos rfl]
    refine seq_go ?_
    (try simp?! only [true_and])
    have hxl : x.length ≤ 40000 := hb
    have hsz : x.length ≤ sizeLine := by rw [sizeLine_eq]; omega
    have hxo : (D.str x).ok = true := hd.gm
    refine v_lenXm hsz ?_
    rw [v_max2]
    obtain ⟨m, em, hm⟩ : ∃ m : Int, (if ((x.length : Nat) : Int) > 1 then ((x.length : Nat) : Int) else 1) = m ∧ 0 < m := ⟨_, rfl, by split <;> omega⟩
    rw [em]
    have my := modb y hm
    refine ⟨y, m, rfl, rfl, hm, _, rfl, hsz, ⟨by decide, by decide⟩, by decide, ?_⟩
    have m27 := modb (y / 32) (show (0 : Int) < 27 by decide)
    obtain ⟨c, hc, hcm⟩ := pick (xs := TL.tl ("abcdefghijklmnopqrstuvwxyz " : Str)) m27.1 (by rw [show (TL.tl ("abcdefghijklmnopqrstuvwxyz " : Str)).length = 27 from by decide +kernel]; exact m27.2)
    refine ⟨_, rfl, by decide +kernel, c, hc, ?_⟩
    have hco : (D.str ⟨#[c]⟩).ok = true := okm_iff.mpr fun d hdm => by
      have hdm : d ∈ [c] := hdm
      rw [List.mem_singleton.mp hdm]
      exact okm_iff.mp (show (D.str "abcdefghijklmnopqrstuvwxyz ").ok = true by decide +kernel) c hcm
    have c1 := cutS_len x none (some (y % m))
    have c2 := cutS_len x (some (y % m + 1)) none
    have c3 : (⟨#[c]⟩ : Str).length = 1 := rfl
    refine addB_s (by omega) ?_
    refine addB_i ⟨_, rfl, hsz, addB_s (by rw [strLenA]; omega) ⟨⟨appS_ok (appS_ok (cutS_ok _ _ hxo) hco) (cutS_ok _ _ hxo), Nat.zero_le _, ?_⟩, hD.mono (by omega)⟩⟩
    show (cutS x none (some (y % m)) ++ ⟨#[c]⟩ ++ cutS x (some (y % m + 1)) none).length ≤ 2 * x.length + 6000
    rw [strLenA, strLenA]
    omega
  | int i =>
    refine seq_go ?_
    (try simp?! only [true_and])
    refine ⟨trivial, ?_⟩
    rw [show D.isa "tuple" (D.int i) = false from rfl, if_neg (by decide)]
    refine seq_go ?_
    (try simp?! only [true_and])
    refine ⟨trivial, ?_⟩
    rw [show D.isa "str" (D.int i) = false from rfl, if_neg (by decide)]
    refine seq_go ?_
    (try simp?! only [true_and])
    refine ⟨trivial, ?_⟩
    rw [show D.isa "int" (D.int i) = true from rfl, if_pos rfl]
    have hi : i.natAbs ≤ 10 ^ 64 + q := of_decide_eq_true hd.gm
    have hlg : i.natAbs.log2 < 1920 := by
      by_cases h0 : i.natAbs = 0
      · rw [h0]; decide
      · rw [Nat.log2_lt h0]
        exact Nat.lt_of_le_of_lt hi (Nat.lt_of_le_of_lt (Nat.add_le_add_left hq _) (Nat.lt_of_lt_of_le (show 10 ^ 64 + 1000 < 2 ^ 240 by decide) (Nat.pow_le_pow_right (by decide) (by decide))))
    refine addB_i (subB_i (addB_i (subB_i (addB_i (.inl ⟨i, rfl, hlg, by decide, by decide, ?_⟩)))))
    refine pick_of (P := Nr q 0 0) (modb y (by decide)).1 (modb y (by decide)).2 ?_ fun x h => ⟨h, hD.mono (by omega)⟩
    exact List.forall_mem_cons.mpr ⟨nr_int (by omega), List.forall_mem_cons.mpr ⟨nr_int (by omega), List.forall_mem_cons.mpr ⟨nr_int (by omega), List.forall_mem_cons.mpr ⟨nr_int (by omega), List.forall_mem_cons.mpr ⟨nr_int (by omega), List.forall_mem_cons.mpr ⟨nr_bl, List.forall_mem_cons.mpr ⟨nr_txt hlg, fun _ h => nomatch h⟩⟩⟩⟩⟩⟩⟩
  | bl b =>
    refine seq_go ?_
    (try simp?! only [true_and])
    refine ⟨trivial, ?_⟩
    rw [show D.isa "tuple" (D.bl b) = false from rfl, if_neg (by decide)]
    refine seq_go ?_
    (try simp?! only [true_and])
    refine ⟨trivial, ?_⟩
    rw [show D.isa "str" (D.bl b) = false from rfl, if_neg (by decide)]
    refine seq_go ?_
    (try simp?! only [true_and])
    refine ⟨trivial, ?_⟩
    rw [show D.isa "int" (D.bl b) = true from rfl, if_pos rfl]
    have hb2 : (b2 b).natAbs ≤ 1 := by cases b <;> decide
    have ht : (D.str (if b = true then "True" else "False")).ok = true ∧ (D.str (if b = true then "True" else "False")).blk ≤ 10 := by cases b <;> decide +kernel
    refine addB_b (subB_b (addB_b (subB_c (addB_b ?_))))
    refine .inr ⟨(show (D.bl b).ok = true from rfl), (show (D.int 1).ok = true from rfl), (show min 0 0 ≤ 60 by decide), ?_⟩
    refine .inr ⟨b, rfl, by decide, by decide, ?_⟩
    refine pick_of (P := Nr q 0 0) (modb y (by decide)).1 (modb y (by decide)).2 ?_ fun x h => ⟨h, hD.mono (by omega)⟩
    exact List.forall_mem_cons.mpr ⟨nr_int (by omega), List.forall_mem_cons.mpr ⟨nr_int (by omega), List.forall_mem_cons.mpr ⟨nr_int (by omega), List.forall_mem_cons.mpr ⟨nr_int (by omega), List.forall_mem_cons.mpr ⟨nr_int (by omega), List.forall_mem_cons.mpr ⟨nr_bl, List.forall_mem_cons.mpr ⟨⟨ht.1, Nat.zero_le _, Nat.le_trans ht.2 (by omega)⟩, fun _ h => nomatch h⟩⟩⟩⟩⟩⟩⟩
  | non =>
    refine seq_go ?_
    (try simp?! only [true_and])
    refine ⟨trivial, ?_⟩
    rw [show D.isa "tuple" (D.non) = false from rfl, if_neg (by decide)]
    refine seq_go ?_
    (try simp?! only [true_and])
    refine ⟨trivial, ?_⟩
    rw [show D.isa "str" (D.non) = false from rfl, if_neg (by decide)]
    refine seq_go ?_
    (try simp?! only [true_and])
    refine ⟨trivial, ?_⟩
    rw [show D.isa "int" (D.non) = false from rfl, if_neg (by decide)]
    exact oddR hD fun d2 h => ⟨h, hD.mono (by omega)⟩
  | lst ds =>
    refine seq_go ?_
    (try simp?! only [true_and])
    refine ⟨trivial, ?_⟩
    rw [show D.isa "tuple" (D.lst ds) = false from rfl, if_neg (by decide)]
    refine seq_go ?_
    (try simp?! only [true_and])
    refine ⟨trivial, ?_⟩
    rw [show D.isa "str" (D.lst ds) = false from rfl, if_neg (by decide)]
    refine seq_go ?_
    (try simp?! only [true_and])
    refine ⟨trivial, ?_⟩
    rw [show D.isa "int" (D.lst ds) = false from rfl, if_neg (by decide)]
    exact oddR hD fun d2 h => ⟨h, hD.mono (by omega)⟩
  | dct kvs =>
    refine seq_go ?_
    (try simp?! only [true_and])
    refine ⟨trivial, ?_⟩
    rw [show D.isa "tuple" (D.dct kvs) = false from rfl, if_neg (by decide)]
    refine seq_go ?_
    (try simp?! only [true_and])
    refine ⟨trivial, ?_⟩
    rw [show D.isa "str" (D.dct kvs) = false from rfl, if_neg (by decide)]
    refine seq_go ?_
    (try simp?! only [true_and])
    refine ⟨trivial, ?_⟩
    rw [show D.isa "int" (D.dct kvs) = false from rfl, if_neg (by decide)]
    exact oddR hD fun d2 h => ⟨h, hD.mono (by omega)⟩
  | _ => exact absurd hd.gm (by show ¬(false = true); decide)
theorem gi {q : Nat} {i : Int} (h : i.natAbs ≤ 1000) : Gm q 0 0 (.int i) := ⟨decide_eq_true (show i.natAbs ≤ 10 ^ 64 + q by omega), Nat.zero_le _, Nat.zero_le _⟩
theorem blkL_rev : ∀ ds : List D, D.blkL ds.reverse = D.blkL ds
  | [] => rfl
  | d :: r => by
    rw [List.reverse_cons, blkL_appm, blkL_rev r]
    show D.blkL r + (d.blk + 1 + 0) = d.blk + 1 + D.blkL r
    omega
theorem gm_item {ds : List D} {d : D} (h : d ∈ ds) : d.blk + 1 ≤ D.blkL ds := by
  obtain ⟨i, hi⟩ := List.getElem?_of_mem h
  have := blk_at hi
  omega
def w_f_law_bentm (n : Nat) : DS := wSeq (wAsg (wOp dMod (wCall S_f_law_next (wCons (wVar 0) (wNil))) (wC (.int 8))) (gNm 2)) (wSeq (wAsg (wCall S_f_law_next (wCons (wVar 0) (wNil))) (gNm 3)) (wSeq (wIf (wTest (wOp (dEqT fun b => b) (wVar 1) (wTup (wNil)))) (wRet (wOp dIx (wLst false (wCons (wTup (wCons (wOp dMod (wOp dFdiv (wVar 3) (wC (.int 8))) (wC (.int 13))) (wNil))) (wCons (wTup (wCons (wOp dMod (wOp dFdiv (wVar 3) (wC (.int 8))) (wC (.int 3))) (wCons (wOp dMod (wOp dFdiv (wVar 3) (wC (.int 24))) (wC (.int 3))) (wNil)))) (wCons (wC .non) (wCons (wLst false (wNil)) (wCons (wTup (wCons (wC (.bl true)) (wNil))) (wCons (wC (.dct [])) (wCons (wTup (wCons (wC (.int 0)) (wNil))) (wCons (wC (.str "()")) (wNil)))))))))) (wVar 2))) ((fun D env st => D.nx env st))) (wSeq (wAsg (wOp dMod (wVar 3) (wCB bLen (wCons (wVar 1) (wNil)))) (gNm 4)) (wSeq (wIf (wTest (wOp dEq (wVar 2) (wC (.int 0)))) (wRet (wOp dAdd (wSl false (wVar 1) oNo (oPart (wVar 4))) (wSl false (wVar 1) (oPart (wOp dAdd (wVar 4) (wC (.int 1)))) oNo))) ((fun D env st => D.nx env st))) (wSeq (wIf (wTest (wOp dEq (wVar 2) (wC (.int 1)))) (wRet (wOp dAdd (wSl false (wVar 1) oNo (oPart (wOp dAdd (wVar 4) (wC (.int 1))))) (wSl false (wVar 1) (oPart (wVar 4)) oNo))) ((fun D env st => D.nx env st))) (wSeq (wIf (wTest (wOp dEq (wVar 2) (wC (.int 2)))) (wRet (wOp dAdd (wOp dAdd (wSl false (wVar 1) oNo (oPart (wVar 4))) (wTup (wCons (wCall S_f_law_odd (wCons (wOp dFdiv (wVar 3) (wC (.int 64))) (wNil))) (wNil)))) (wSl false (wVar 1) (oPart (wOp dAdd (wVar 4) (wC (.int 1)))) oNo))) ((fun D env st => D.nx env st))) (wSeq (wIf (wTest (wOp dEq (wVar 2) (wC (.int 3)))) (wRet (wOp dAdd (wOp dAdd (wSl false (wVar 1) oNo (oPart (wVar 4))) (wTup (wCons (wCall S_f_law_odd (wCons (wOp dFdiv (wVar 3) (wC (.int 64))) (wNil))) (wNil)))) (wSl false (wVar 1) (oPart (wVar 4)) oNo))) ((fun D env st => D.nx env st))) (wSeq (wIf (wTest (wOp dEq (wVar 2) (wC (.int 4)))) (wRet (wOp dIx (wLst false (wCons (wCB (bList false) (wCons (wVar 1) (wNil))) (wCons (wRevA false (wVar 1)) (wCons (wTup (wCons (wVar 1) (wNil))) (wNil))))) (wOp dMod (wOp dFdiv (wVar 3) (wC (.int 64))) (wC (.int 3))))) ((fun D env st => D.nx env st))) (wRet (wOp dAdd (wOp dAdd (wSl false (wVar 1) oNo (oPart (wVar 4))) (wTup (wCons (wCall (S_f_law_nearm n) (wCons (wVar 0) (wCons (wOp dIx (wVar 1) (wVar 4)) (wNil)))) (wNil)))) (wSl false (wVar 1) (oPart (wOp dAdd (wVar 4) (wC (.int 1)))) oNo)))))))))))
theorem vc_f_law_bentm (n : Nat) : ∀ g sto, ((S_f_law_bentm (n + 1)).args g).length = (S_f_law_bentm (n + 1)).n → (S_f_law_bentm (n + 1)).pre g sto → w_f_law_bentm n (bodyEnds ((S_f_law_bentm (n + 1)).post g sto)) (startE ["_law_deck_here", "_law_row", "_law_kind", "_law_number", "_law_at"] ((S_f_law_bentm (n + 1)).args g)) sto := by
  rintro ⟨rest, B, q, ds⟩ sto _ ⟨hD, hB, hd, hz, hn⟩
  dsimp only at hD hB hd hz hn
  obtain ⟨hq, hk, hb⟩ := hz
  have hlen := Nat.le_trans (len_blkm ds) hb
  have z1 : 1 ≤ sizeLine := by decide
  have z2 : 2 ≤ sizeLine := by decide
  have z3 : 3 ≤ sizeLine := by decide
  simp? only [w_f_law_bentm, S_f_law_bentm, deckS, startE]
  refine next_use hD (by omega) fun y st y0 y1 hD => ?_
  have my := modb y (show (0 : Int) < 8 by decide)
  (try simp? only [true_and])
  obtain ⟨kd, ekd⟩ : ∃ kd, kd = y % 8 := ⟨_, rfl⟩
  simp only [← ekd] at my ⊢
  refine ⟨by decide, ?_⟩
  refine next_use hD (by omega) fun z st z0 z1' hD => ?_
  (try simp? only [true_and])
  have fin : ∀ {d : D} {st' : Sto}, Nr q (D.depL ds + 1) (D.blkL ds) d → Dk (B + 1 + 1) rest st' → Nr q (D.depL ds + 1) (D.blkL ds) d ∧ Dk (B + (3 * ((n + 1 : Nat) : Int) + 3)) rest st' := fun h hD => ⟨h, hD.mono (by omega)⟩
  rw [v_eqT]
  cases hem : ds.isEmpty with
  | true =>
    have b1 := modb (z / 8) (show (0 : Int) < 13 by decide)
    have b2 := modb (z / 8) (show (0 : Int) < 3 by decide)
    have b3 := modb (z / 24) (show (0 : Int) < 3 by decide)
    refine ⟨Nat.zero_le _, _, rfl, ?_⟩
    rw [if_pos rfl]
    refine ⟨by decide, by decide, z1, by decide, by decide, by decide, by decide, z2, Nat.zero_le _, z1, z1, by decide, ?_⟩
    refine pick_of (P := Nr q (D.depL ds + 1) (D.blkL ds)) my.1 (show kd < (8 : Nat) from my.2) ?_ fun x h => fin h hD
    have T : ∀ {k b : Nat} {d : D}, Gm 0 k b d → k ≤ 16 → b ≤ 6000 → Nr q (D.depL ds + 1) (D.blkL ds) d := fun h h1 h2 => h.mono (by omega) (by omega) (by omega)
    exact List.forall_mem_cons.mpr ⟨T (GmL.one (gi (by omega))).tup (by decide) (by decide), List.forall_mem_cons.mpr ⟨T ((GmL.one (gi (by omega))).app (GmL.one (gi (by omega)))).tup (by decide) (by decide),
      List.forall_mem_cons.mpr ⟨T (k := 0) (b := 0) ⟨rfl, by decide, by decide⟩ (by decide) (by decide), List.forall_mem_cons.mpr ⟨T (k := 1) (b := 0) ⟨rfl, by decide, by decide⟩ (by decide) (by decide), List.forall_mem_cons.mpr ⟨T (k := 1) (b := 1) ⟨rfl, by decide, by decide⟩ (by decide) (by decide),
        List.forall_mem_cons.mpr ⟨T (k := 10) (b := 10) ⟨by decide +kernel, by decide +kernel, by decide +kernel⟩ (by decide) (by decide), List.forall_mem_cons.mpr ⟨T (k := 1) (b := 1) ⟨by decide +kernel, by decide +kernel, by decide +kernel⟩ (by decide) (by decide), List.forall_mem_cons.mpr ⟨T (k := 1) (b := 5) ⟨by decide +kernel, by decide +kernel, by decide +kernel⟩ (by decide) (by decide), fun _ h => nomatch h⟩⟩⟩⟩⟩⟩⟩⟩
  | false =>
    have hne : 0 < ds.length := by
      cases ds with
      | nil => cases hem
      | cons _ _ => exact Nat.succ_pos _
    refine ⟨Nat.zero_le _, _, rfl, ?_⟩
    rw [if_neg (by decide)]
    refine ⟨by omega, ?_⟩
    have bz := modb z (show (0 : Int) < ds.length by omega)
    obtain ⟨i, ei, hi⟩ : ∃ i : Nat, z % (ds.length : Int) = (i : Int) ∧ i < ds.length := ⟨(z % (ds.length : Int)).toNat, by omega, by omega⟩
    rw [ei, show ((i : Nat) : Int) + 1 = ((i + 1 : Nat) : Int) by omega]
    have hx : ds[i]? = some ds[i] := List.getElem?_eq_getElem hi
    have hxm : ds[i] ∈ ds := List.getElem_mem hi
    generalize ds[i] = x at hx hxm
    have hba := blk_at hx
    have ht1 := blk_take ds (i + 1)
    have ht0 := blk_take ds i
    have PT : ∀ j, GmL q (D.depL ds) (D.blkL (ds.take j)) (ds.take j) := fun j => hd.part fun d h => List.mem_of_mem_take h
    have PD : ∀ j, GmL q (D.depL ds) (D.blkL (ds.drop j)) (ds.drop j) := fun j => hd.part fun d h => List.mem_of_mem_drop h
    have LT : ∀ j, (ds.take j).length ≤ 40000 := fun j => by rw [List.length_take]; omega
    have LD : ∀ j, (ds.drop j).length ≤ 40000 := fun j => by rw [List.length_drop]; omega
    simp? only [v_slT, cut_take, cut_drop, v_listT, v_addT]
    by_cases h0 : (kd == 0) = true
    · rw [if_pos h0]
      exact ⟨by have := LT i; have := LD (i + 1); rw [sizeLine_eq]; omega, fin (((PT i).app (PD (i + 1))).tup.mono (by omega) (by omega) (by omega)) hD⟩
    rw [if_neg h0]
    by_cases h1 : (kd == 1) = true
    · rw [if_pos h1]
      exact ⟨by have := LT (i + 1); have := LD i; rw [sizeLine_eq]; omega, fin (((PT (i + 1)).app (PD i)).tup.mono (by omega) (by omega) (by omega)) hD⟩
    rw [if_neg h1]
    have mid : ∀ (j : Nat) {b : Nat} (d : D), Gm (q + 30) (D.depL ds + 16) b d → D.blkL (ds.take i) + (b + 1) + D.blkL (ds.drop j) ≤ 2 * D.blkL ds + 6000 → Nr q (D.depL ds + 1) (D.blkL ds) (.tup (ds.take i ++ [d] ++ ds.drop j)) := fun j b d h hle =>
      ((((PT i).mono (by omega) (by omega) (Nat.le_refl _)).app (GmL.one h)).app ((PD j).mono (by omega) (by omega) (Nat.le_refl _))).tup.mono (Nat.le_refl _) (by omega) hle
    have two : ∀ (j : Nat) (d : D), (ds.take i).length + [d].length ≤ sizeLine ∧ (ds.take i ++ [d]).length + (ds.drop j).length ≤ sizeLine := fun j d => by
      have := LT i
      have := LD j
      rw [List.length_append, List.length_singleton, sizeLine_eq]
      omega
    by_cases h2 : (kd == 2) = true
    · rw [if_pos h2]
      refine ⟨by decide, odd_use3 fun d t g => ⟨z1, (two (i + 1) d).1, (two (i + 1) d).2, fin (mid (i + 1) d ((Gm.odd t g).mono (by omega) (by omega) (Nat.le_refl _)) (by omega)) hD⟩⟩
    rw [if_neg h2]
    by_cases h3 : (kd == 3) = true
    · rw [if_pos h3]
      refine ⟨by decide, odd_use3 fun d t g => ⟨z1, (two i d).1, (two i d).2, fin (mid i d ((Gm.odd t g).mono (by omega) (by omega) (Nat.le_refl _)) (by omega)) hD⟩⟩
    rw [if_neg h3]
    by_cases h4 : (kd == 4) = true
    · rw [if_pos h4]
      refine ⟨z1, z3, by decide, by decide, ?_⟩
      refine pick_of (P := Nr q (D.depL ds + 1) (D.blkL ds)) (modb _ (by decide)).1 (modb _ (by decide)).2 ?_ fun x h => fin h hD
      have hr : GmL q (D.depL ds) (D.blkL ds) ds.reverse := ⟨fun d h => hd.gm d (List.mem_reverse.mp h), fun d h => hd.dep d (List.mem_reverse.mp h), by rw [blkL_rev]; exact Nat.le_refl _⟩
      exact List.forall_mem_cons.mpr ⟨hd.lst.mono (by omega) (by omega) (by omega), List.forall_mem_cons.mpr ⟨hr.tup.mono (by omega) (by omega) (by omega), List.forall_mem_cons.mpr ⟨(GmL.one hd.tup).tup.mono (by omega) (by omega) (by omega), fun _ h => nomatch h⟩⟩⟩
    rw [if_neg h4]
    refine ⟨x, atI_of (by omega) (by rw [Int.toNat_natCast]; exact hx), ?_⟩
    have hdx := hd.dep x hxm
    have hbx := gm_item hxm
    refine use_deck (q, x) rfl rfl hD (by omega) ⟨⟨hd.gm x hxm, Nat.le_refl _, Nat.le_refl _⟩, ⟨hq, by show x.dep ≤ 40; omega, by show x.blk ≤ 40000; omega⟩, by show 2 * x.dep + 1 ≤ n; omega⟩ fun d st hd2 hD => ?_
    dsimp only at hd2
    exact ⟨z1, (two (i + 1) d).1, (two (i + 1) d).2, mid (i + 1) d (hd2.mono (Nat.le_refl _) (by omega) (Nat.le_refl _)) (by omega), hD.mono (by omega)⟩
theorem fit2 {n : Nat} {d : D} (h : FitN 2 n d) (hn : n ≤ 5000) : FitN 2 5000 d := h.mono (Nat.le_refl _) hn
def w_f_law_changem : DS := wSeq (wAsg (wVar 1) (gTp 4 (gCn (gNm 3) (gCn (gNm 4) (gCn (gNm 5) (gCn (gNm 6) gNl)))))) (wSeq (wAsg (wCall S_f_law_next (wCons (wVar 0) (wNil))) (gNm 7)) (wSeq (wIf (wTest (wOp dEq (wVar 2) (wC (.int 0)))) (wRet (wOp dAdd (wTup (wCons (wC (.str "wish")) (wNil))) (wCall S_f_law_wish (wCons (wVar 0) (wCons (wCB bMax2 (wCons (wC (.int 1)) (wCons (wCB bLen (wCons (wVar 5) (wNil))) (wNil)))) (wCons (wVar 3) (wNil))))))) ((fun D env st => D.nx env st))) (wSeq (wIf (wTest (wOp dEq (wVar 2) (wC (.int 1)))) (wRet (wTup (wCons (wC (.str "unwish")) (wCons (wOp dMod (wVar 7) (wCB bMax2 (wCons (wC (.int 1)) (wCons (wCB bLen (wCons (wVar 6) (wNil))) (wNil))))) (wNil))))) ((fun D env st => D.nx env st))) (wSeq (wIf (wTest (wOp dEq (wVar 2) (wC (.int 2)))) (wRet (wOp dAdd (wTup (wCons (wC (.str "work")) (wNil))) (wCall S_f_law_work (wCons (wVar 0) (wCons (wCB bLen (wCons (wVar 5) (wNil))) (wCons (wCB bLen (wCons (wVar 4) (wNil))) (wCons (wC (.int 10)) (wNil)))))))) ((fun D env st => D.nx env st))) (wSeq (wIf (wTest (wOp dEq (wVar 2) (wC (.int 3)))) (wRet (wTup (wCons (wC (.str "drop")) (wCons (wOp dMod (wVar 7) (wCB bMax2 (wCons (wC (.int 1)) (wCons (wCB bLen (wCons (wVar 5) (wNil))) (wNil))))) (wNil))))) ((fun D env st => D.nx env st))) (wSeq (wIf (wTest (wOp dEq (wVar 2) (wC (.int 4)))) (wSeq (wAsg (wOp dMod (wVar 7) (wCB bMax2 (wCons (wC (.int 1)) (wCons (wCB bLen (wCons (wVar 5) (wNil))) (wNil))))) (gNm 8)) (wRet (wTup (wCons (wC (.str "longer")) (wCons (wVar 8) (wCons (wOp dAdd (wOp dAdd (wOp dIx (wOp dIx (wOp dAdd (wVar 5) (wTup (wCons (wTup (wCons (wC (.int 1)) (wNil))) (wNil)))) (wVar 8)) (wC (.int 0))) (wC (.int 1))) (wOp dMod (wCall S_f_law_next (wCons (wVar 0) (wNil))) (wC (.int 3)))) (wNil))))))) ((fun D env st => D.nx env st))) (wSeq (wIf (wTest (wOp dEq (wVar 2) (wC (.int 5)))) (wSeq (wAsg (wOp dMod (wVar 7) (wVar 3)) (gNm 9)) (wRet (wTup (wCons (wC (.str "away")) (wCons (wOp dMod (wOp dFdiv (wVar 7) (wC (.int 64))) (wCB bLen (wCons (wVar 4) (wNil)))) (wCons (wVar 9) (wCons (wOp dAdd (wOp dAdd (wVar 9) (wC (.int 1))) (wOp dMod (wOp dFdiv (wVar 7) (wC (.int 1024))) (wOp dSub (wVar 3) (wVar 9)))) (wNil)))))))) ((fun D env st => D.nx env st))) (wRet (wTup (wCons (wC (.str "hand")) (wCons (wCall S_f_law_rows_of (wCons (wVar 0) (wCons (wOp dSub (wVar 3) (wC (.int 1))) (wCons (wOp dIx (wLst false (wCons (wC (.int 2)) (wCons (wC (.int 5)) (wCons (wC (.int 100)) (wNil))))) (wOp dMod (wVar 7) (wC (.int 3)))) (wNil))))) (wCons (wCall S_f_law_rows_of (wCons (wVar 0) (wCons (wOp dSub (wCB bLen (wCons (wVar 5) (wNil))) (wC (.int 1))) (wCons (wC (.int 2)) (wNil))))) (wNil)))))))))))))
def S_f_law_changem : DL.Spec := deckS 3 20000 (fun x : Sy × Int => [x.1.d, .int x.2]) (fun x => Sy24 x.1) fun x d => ∃ c : Chg, d = c.d ∧ FitN 2 5000 c.d
theorem vc_f_law_changem : ∀ g sto, (S_f_law_changem.args g).length = S_f_law_changem.n → S_f_law_changem.pre g sto → w_f_law_changem (bodyEnds (S_f_law_changem.post g sto)) (startE ["_law_deck_here", "_law_system_here", "_law_way", "_law_days", "_law_hands", "_law_works", "_law_wishes", "_law_number", "_law_one", "_law_first"] (S_f_law_changem.args g)) sto := by
  rintro ⟨rest, B, s, way⟩ sto _ ⟨hD, hB, hs⟩
  dsimp only at hD hB hs
  have z1 : 1 ≤ sizeLine := by decide
  have z2 : 2 ≤ sizeLine := by decide
  have z3 : 3 ≤ sizeLine := by decide
  have z4 : 4 ≤ sizeLine := by decide
  have hd := hs.days
  have hh := hs.hands
  have hw := hs.works
  have hu := hs.wishes
  have I : ∀ {k n : Nat} {i : Int}, -1000 ≤ i ∧ i ≤ 100000 → FitN k n (.int i) := fun h => fit_int (by omega)
  have mx : ∀ n : Nat, (0 : Int) < (if ((n : Int) > 1) then (n : Int) else 1) := fun n => by split <;> omega
  simp? only [w_f_law_changem, S_f_law_changem, deckS, startE]
  refine next_use hD (by omega) fun y st y0 y1 hD => ?_
  (try simp? only [true_and])
  have mW := modb y (mx s.works.length)
  have mU := modb y (mx s.wishes.length)
  have lW : (if ((s.works.length : Int) > 1) then (s.works.length : Int) else 1) ≤ 12 := by split <;> omega
  have lU : (if ((s.wishes.length : Int) > 1) then (s.wishes.length : Int) else 1) ≤ 24 := by split <;> omega
  cases h0 : (way == 0) with
  | true =>
    simp only [if_true]
    refine ⟨z1, wish_use hD (by omega) (by have := mx s.works.length; omega) (by omega) fun u st ho hD => ?_⟩
    have g1 := ho.work; have g2 := ho.kind; have g3 := ho.day; have g4 := ho.weight; have g5 := ho.rank
    show 1 + 5 ≤ sizeLine ∧ _
    exact ⟨by decide, ⟨.wish u, rfl, fit2 ((fit_tup (k := 1) (fitL_cons (fit_word (by decide +kernel)) (fitL_cons (n := 0) (I (by omega)) (fitL_cons (n := 0) (I (by omega)) (fitL_cons (n := 0) (I (by omega)) (fitL_cons (n := 0) (I (by omega)) (fitL_cons (n := 0) (I (by omega)) (fitL_nil (n := 0)))))))))) (by omega)⟩, hD.mono (by omega)⟩
  | false =>
  simp only [Bool.false_eq_true, if_false]
  cases h1 : (way == 1) with
  | true =>
    simp only [if_true]
    refine ⟨mx _, z2, ⟨.unwish (y % (if ((s.wishes.length : Int) > 1) then (s.wishes.length : Int) else 1)).toNat, ?_, ?_⟩, hD.mono (by omega)⟩
    · simp only [Chg.d, Int.toNat_of_nonneg mU.1]
    · exact fit2 ((fit_tup (k := 1) (fitL_cons (fit_word (by decide +kernel)) (fitL_cons (n := 0) (I (by omega)) (fitL_nil (n := 0)))))) (by omega)
  | false =>
  simp only [Bool.false_eq_true, if_false]
  cases h2 : (way == 2) with
  | true =>
    simp only [if_true]
    refine ⟨z1, work_use hD (by omega) (by omega) (by omega) (by omega) (by omega) (by omega) fun w st ho hD => ?_⟩
    have g1 := ho.len
    show 1 + 3 ≤ sizeLine ∧ _
    exact ⟨by decide, ⟨.work w, rfl, fit2 ((fit_tup (k := 1) (fitL_cons (fit_word (by decide +kernel)) (fitL_cons (n := 0) (I (by omega)) (fitL_cons (fit_row (k := 0) (n := 100) ho.ahead (by omega) (by omega) ho.ahead.len) (fitL_cons (fit_row (k := 0) (n := 100) ho.able (by omega) (by omega) ho.able.len) (fitL_nil (n := 0)))))))) (by omega)⟩, hD.mono (by omega)⟩
  | false =>
  simp only [Bool.false_eq_true, if_false]
  cases h3 : (way == 3) with
  | true =>
    simp only [if_true]
    refine ⟨mx _, z2, ⟨.drop (y % (if ((s.works.length : Int) > 1) then (s.works.length : Int) else 1)).toNat, ?_, ?_⟩, hD.mono (by omega)⟩
    · simp only [Chg.d, Int.toNat_of_nonneg mW.1]
    · exact fit2 ((fit_tup (k := 1) (fitL_cons (fit_word (by decide +kernel)) (fitL_cons (n := 0) (I (by omega)) (fitL_nil (n := 0)))))) (by omega)
  | false =>
  simp only [Bool.false_eq_true, if_false]
  cases h4 : (way == 4) with
  | true =>
    simp only [if_true]
    obtain ⟨q, hq, hq12⟩ : ∃ q : Nat, (q : Int) = y % (if ((s.works.length : Int) > 1) then (s.works.length : Int) else 1) ∧ q < 12 := ⟨(y % (if ((s.works.length : Int) > 1) then (s.works.length : Int) else 1)).toNat, by omega, by omega⟩
    rw [← hq] at mW ⊢
    obtain ⟨v, hv, hv1⟩ : ∃ v : D, atI (s.works.map Wk.d ++ [.tup [.int 1]]) (q : Int) = some v ∧ ∃ n : Int, (1 ≤ n ∧ n ≤ 10) ∧ ∀ (st : Sto) (Q : DK), Q (.int n) st → dIx v (.int 0) st Q := by
      by_cases e : q < s.works.length
      · have hln := (hs.work q _ (wk_get e)).len
        refine ⟨(wkAt s q).d, atI_of (by omega) ?_, (wkAt s q).len, hln, fun st Q q => by rw [wk_ix0]; exact q⟩
        rw [Int.toNat_natCast, List.getElem?_append_left (by rw [List.length_map]; exact e), List.getElem?_map, wk_get e]
        rfl
      · have e2 : q = s.works.length := by
          have := mW.2
          split at this <;> omega
        refine ⟨.tup [.int 1], atI_of (by omega) ?_, 1, by omega, fun st Q q => by rw [v_ixT]; exact ⟨_, rfl, q⟩⟩
        rw [Int.toNat_natCast, List.getElem?_append_right (by rw [List.length_map]; omega), List.length_map, e2, Nat.sub_self]
        rfl
    obtain ⟨n, hn, hv2⟩ := hv1
    refine ⟨by have := mx s.works.length; exact this, z1, z1, by rw [sizeLine_eq]; omega, v, hv, hv2 _ _ ?_⟩
    (try simp? only [true_and])
    refine next_use hD (by omega) fun z st z0 z1 hD => ?_
    have m3 := modb z (show (0 : Int) < 3 by omega)
    (try simp? only [true_and])
    refine ⟨by decide, z3, ⟨.longer q (n + 1 + z % 3), rfl, ?_⟩, hD.mono (by omega)⟩
    exact fit2 ((fit_tup (k := 1) (fitL_cons (fit_word (by decide +kernel)) (fitL_cons (n := 0) (I (by omega)) (fitL_cons (n := 0) (I (by omega)) (fitL_nil (n := 0))))))) (by omega)
  | false =>
  simp only [Bool.false_eq_true, if_false]
  cases h5 : (way == 5) with
  | true =>
    simp only [if_true]
    have m1 := modb y (show 0 < s.days by omega)
    have m2 := modb (y / 64) (show 0 < (s.hands.length : Int) by omega)
    have m3 := modb (y / 1024) (show 0 < s.days - y % s.days by omega)
    refine ⟨by omega, by decide, by omega, by decide, by omega, z4, ⟨.away (y / 64 % (s.hands.length : Int)).toNat (y % s.days) (y % s.days + 1 + y / 1024 % (s.days - y % s.days)), ?_, ?_⟩, hD.mono (by omega)⟩
    · simp only [Chg.d, Int.toNat_of_nonneg m2.1]
    · exact fit2 ((fit_tup (k := 1) (fitL_cons (fit_word (by decide +kernel)) (fitL_cons (n := 0) (I (by omega)) (fitL_cons (n := 0) (I (by omega)) (fitL_cons (n := 0) (I (by omega)) (fitL_nil (n := 0)))))))) (by omega)
  | false =>
    simp only [Bool.false_eq_true, if_false]
    obtain ⟨v, hv, hv1⟩ : ∃ v : Int, atI [D.int 2, D.int 5, D.int 100] (y % 3) = some (.int v) ∧ 0 < v := by
      rcases (show y % 3 = 0 ∨ y % 3 = 1 ∨ y % 3 = 2 by omega) with e | e | e <;> rw [e]
      · exact ⟨2, rfl, by decide⟩
      · exact ⟨5, rfl, by decide⟩
      · exact ⟨100, rfl, by decide⟩
    refine ⟨z3, by decide, _, hv, ?_⟩
    refine rows_use hD (by omega) (by omega) (by omega) hv1 fun row st hrow hD => ?_
    refine rows_use hD (by omega) (by omega) (by omega) (by omega) fun able st hab hD => ?_
    rw [show s.days - 1 + 1 = s.days by omega] at hrow
    rw [show (s.works.length : Int) - 1 + 1 = s.works.length by omega] at hab
    exact ⟨z3, ⟨.hand row able, rfl, fit2 ((fit_tup (k := 1) (fitL_cons (fit_word (by decide +kernel)) (fitL_cons (fit_row (k := 0) (n := 100) hrow (by omega) (by omega) hrow.len) (fitL_cons (fit_row (k := 0) (n := 100) hab (by omega) (by omega) hab.len) (fitL_nil (n := 0))))))) (by omega)⟩, hD.mono (by omega)⟩
mutual
theorem fn_gm : ∀ {d : D}, d.ok = true → d.sml = true → gm 0 d = true
  | .non, _, _ => rfl
  | .bl _, _, _ => rfl
  | .int i, _, h => by
    have h' : i.natAbs < 10 ^ 12 := by simpa [D.sml] using h
    exact decide_eq_true (show i.natAbs ≤ 10 ^ 64 + 0 by omega)
  | .str _, h, _ => h
  | .tup ds, h, h2 => fn_gmL (ds := ds) h h2
  | .lst ds, h, h2 => fn_gmL (ds := ds) h h2
  | .dct _, h, _ => absurd h (by show ¬(false = true); decide)
  | .scr _, h, _ => absurd h (by show ¬(false = true); decide)
  | .ref _, h, _ => absurd h (by show ¬(false = true); decide)
  | .fn _ _ _, h, _ => absurd h (by show ¬(false = true); decide)
  | .exc _ _ _, h, _ => absurd h (by show ¬(false = true); decide)
theorem fn_gmL : ∀ {ds : List D}, D.okL ds = true → D.smlL ds = true → gmL 0 ds = true
  | [], _, _ => rfl
  | d :: r, h1, h2 => by
    simp only [D.smlL, Bool.and_eq_true] at h2
    simp only [D.okL, Bool.and_eq_true] at h1
    simp only [gmL, Bool.and_eq_true]
    exact ⟨fn_gm h1.1 h2.1, fn_gmL h1.2 h2.2⟩
end
theorem fn_tm {k n : Nat} {d : D} (h : FitN k n d) : Gm 0 k n d := ⟨fn_gm h.ok h.sml, h.dep, h.blk⟩
theorem fit_sy2 {s : Sy} {a b c l e : Int} (o : s.Ok a b c l e) (ha : a ≤ 900) (hb : b ≤ 100) (hc : c ≤ 100) (hl : l ≤ 900) (he : e ≤ 100) : FitN 4 (s.hands.length * 901 + s.works.length * 2001 + s.wishes.length * 11 + 10) s.d := by
  have := o.days
  have h2 := o.hands
  have h3 := o.works
  have h4 := o.wishes
  have r : FitL 1 (s.hands.length * 901) (s.hands.map dInts) := fitL_map fun x hx => by
    have := o.rows x hx
    exact fit_row this (by omega) (by omega) (by have := this.len; omega)
  have w : FitL 2 (s.works.length * 2001) (s.works.map Wk.d) := fitL_map fun x hx => by
    obtain ⟨i, hi, e⟩ := List.getElem_of_mem hx
    have := o.work i x (by rw [List.getElem?_eq_getElem hi, e])
    exact fit_wk this (by omega) (by omega) hl
  have u : FitL 1 (s.wishes.length * 11) (s.wishes.map Ws.d) := fitL_map fun x hx => fit_ws (o.wish x hx) (by omega) (by omega)
  exact (fit_tup (fitL_cons (n := 0) (fit_int (by omega)) (fitL_cons ((fit_tup r).mono (k' := 3) (by omega) (Nat.le_refl _)) (fitL_cons ((fit_tup w).mono (k' := 3) (by omega) (Nat.le_refl _)) (fitL_cons ((fit_tup u).mono (k' := 3) (by omega) (Nat.le_refl _)) (fitL_nil (n := 0))))))).mono (Nat.le_refl _) (by omega)
theorem fit_s24 {s : Sy} (hs : Sy24 s) : FitN 4 30000 s.d := by
  have h2 := hs.hands
  have h3 := hs.works
  have h4 := hs.wishes
  exact (fit_sy2 hs (by omega) (by omega) (by omega) (by omega) (by omega)).mono (Nat.le_refl _) (by omega)
theorem dk_set47 {B : Int} {rest st : Sto} {j : Nat} {c : Cel} (h : Dk B rest st) : Dk B (rest.set j c) (st.set (j + 3) c) := by
  obtain ⟨ds, cs, t, rfl, r⟩ := h
  exact ⟨ds, cs, t, rfl, r⟩
theorem chg_tup (c : Chg) : ∃ ds, c.d = .tup ds := by cases c <;> exact ⟨_, rfl⟩
def w_p_law_1 : DS := wSeq (wAsg (wCB bReprM (wCons (wVar 10) (wNil))) (gNm 11)) (wSeq (wIf (wNot (wTest (wCall S_f_law_says (wCons (wCall S_p_is_change (wCons (wVar 4) (wCons (wVar 10) (wNil)))) (wCons (wCall S_f_law_is_changem (wCons (wVar 4) (wCons (wVar 10) (wNil)))) (wNil)))))) (wRet (wC (.bl false))) ((fun D env st => D.nx env st))) (wIf (wTest (wOp dNe (wCB bReprM (wCons (wVar 10) (wNil))) (wVar 11))) (wRet (wC (.bl false))) ((fun D env st => D.nx env st))))
def w_p_law_2 : DS := wSeq (wAsg (wCall S_f_law_changem (wCons (wVar 1) (wCons (wVar 4) (wCons (wOp dMod (wOp dAdd (wVar 3) (wVar 6)) (wC (.int 7))) (wNil))))) (gNm 7)) (wSeq (wAsg (wCall (S_f_law_bentm 80) (wCons (wVar 1) (wCons (wVar 7) (wNil)))) (gNm 8)) (wSeq (wAsg (wLst true (wCons (wVar 7) (wCons (wVar 8) (wCons (wCall (S_f_law_bentm 80) (wCons (wVar 1) (wCons (wVar 7) (wNil)))) (wCons (wCall S_f_law_odd (wCons (wCall S_f_law_next (wCons (wVar 1) (wNil))) (wNil))) (wNil)))))) (gNm 9)) (wSeq (wIf (wTest (wIsi "tuple" (wVar 8))) (wDrop (wM mAppend (wVar 9) (wCons (wCall (S_f_law_bentm 80) (wCons (wVar 1) (wCons (wVar 8) (wNil)))) (wNil)))) ((fun D env st => D.nx env st))) (wFor (iSeq (wVar 9)) (gNm 10) w_p_law_1))))
def w_p_law_3 : DS := wSeq (wAsg (wOp dMod (wCall S_f_law_next (wCons (wVar 1) (wNil))) (wC (.int 7))) (gNm 3)) (wSeq (wAsg (wCall S_f_law_any_system (wCons (wVar 1) (wNil))) (gNm 4)) (wSeq (wAsg (wCB bReprM (wCons (wVar 4) (wNil))) (gNm 5)) (wSeq (wFor (iRange1 (wCons (wC (.int 3)) (wNil))) (gNm 6) w_p_law_2) (wIf (wTest (wOp dNe (wCB bReprM (wCons (wVar 4) (wNil))) (wVar 5))) (wRet (wC (.bl false))) ((fun D env st => D.nx env st))))))
def w_p_law : DS := wSeq (wAsg (wCall S_f_law_deck (wCons (wVar 0) (wNil))) (gNm 1)) (wSeq (wFor (iRange1 (wCons (wC (.int 6)) (wNil))) (gNm 2) w_p_law_3) (wRet (wC (.bl true))))
def S_p_law : DL.Spec := ⟨1, List Int, fun ns => [.scr (ns.map .int)], fun ns st => ns.length ≤ 63 ∧ st = [], fun _ _ d _ => d = .bl true⟩
theorem vc_p_law : ∀ g sto, (S_p_law.args g).length = S_p_law.n → S_p_law.pre g sto → w_p_law (bodyEnds (popEnds sto.length sto (S_p_law.post g sto))) (startE ["_law_script", "_law_deck_here", "_law_turn", "_law_way", "_law_system_here", "_law_mark", "_law_k", "_law_change_here", "_law_once", "_law_things", "_law_thing", "_law_shown"] (S_p_law.args g)) sto := by
  rintro (ns : List Int) sto _ ⟨hl, rfl⟩
  have z4 : 4 ≤ sizeLine := by decide
  simp? only [w_p_law, S_p_law, wFor]
  refine deck_use hl fun st hD => ?_
  (try simp? only [true_and])
  refine ⟨by decide, ?_⟩
  refine forL_inv (fun i e s => ∃ x2 x3 x4 x5 x6 x7 x8 x9 x10 x11 rest, e = [some (.scr (ns.map .int)), some (.ref 2), x2, x3, x4, x5, x6, x7, x8, x9, x10, x11] ∧ Dk (i * 100000000) rest s) ?_ ?_ _ _ ⟨_, _, _, _, _, _, _, _, _, _, _, rfl, hD.mono (by omega)⟩
  · rintro i e st d ⟨x2, x3, x4, x5, x6, x7, x8, x9, x10, x11, rest, rfl, hD⟩ he R hR
    obtain ⟨hi, rfl⟩ := rangeD_at he
    have hi3 : i < 6 := by simpa using hi
    refine ⟨trivial, ?_⟩
    simp?! only [w_p_law_3]
    refine seq_go ?_
    (try simp?! only [true_and])
    refine next_use hD (by omega) fun y st y0 y1 hD => ?_
    (try simp?! only [true_and])
    refine ⟨by decide, ?_⟩
    refine seq_go ?_
    (try simp?! only [true_and])
    refine use_deck () rfl rfl hD (by omega) trivial fun d st hd hD => ?_
    obtain ⟨s, rfl, hs⟩ := hd
    have hfs := (fn_tm (fit_s24 hs)).fit (by decide) (by decide) (by decide)
    refine seq_go ?_
    (try simp?! only [true_and])
    refine ⟨_, rfl, hfs, ?_⟩
    refine seq_go ?_
    simp?! only [wFor]
    refine ⟨by decide, ?_⟩
    refine forL_inv (fun j e t => ∃ x6 x7 x8 x9 x10 x11 rest, e = [some (.scr (ns.map .int)), some (.ref 2), some (.int (0 + (i : Int))), some (.int (y % 7)), some s.d, some (.str s.d.rep), x6, x7, x8, x9, x10, x11] ∧ Dk ((i : Int) * 100000000 + 30000000 + j * 1000000) rest t) ?_ ?_ _ _ ⟨_, _, _, _, _, _, _, rfl, hD.mono (by omega)⟩
    · rintro j e st d ⟨x6, x7, x8, x9, x10, x11, rest, rfl, hD⟩ he R2 hR2
      obtain ⟨hj, rfl⟩ := rangeD_at he
      have hj3 : j < 3 := by simpa using hj
      refine ⟨trivial, ?_⟩
      simp?! only [w_p_law_2]
      refine seq_go ?_
      (try simp?! only [true_and])
      refine ⟨by decide, ?_⟩
      refine use_deck (s, _) rfl rfl hD (by omega) hs fun d st hd hD => ?_
      obtain ⟨c, rfl, hc⟩ := hd
      obtain ⟨ds, eds⟩ := chg_tup c
      rw [eds] at hc ⊢
      have hg := fn_tm hc
      have hgl := hg.ofTup
      have hdl := depL_le hgl.dep
      have hbl := hgl.blk
      have hgx : GmL 0 (D.depL ds) (D.blkL ds) ds := ⟨hgl.gm, depL_of (Nat.le_refl _), Nat.le_refl _⟩
      refine seq_go ?_
      (try simp?! only [true_and])
      refine use_deck (0, ds) rfl rfl hD (by omega) ⟨hgx, ⟨Nat.zero_le _, by dsimp only; omega, by dsimp only; omega⟩, by dsimp only; omega⟩ fun o1 st ho1 hD => ?_
      have ho1 : Gm 30 18 16000 o1 := ho1.mono (by omega) (by dsimp only; omega) (by dsimp only; omega)
      refine seq_go ?_
      (try simp?! only [true_and])
      refine use_deck (0, ds) rfl rfl hD (by omega) ⟨hgx, ⟨Nat.zero_le _, by dsimp only; omega, by dsimp only; omega⟩, by dsimp only; omega⟩ fun o2 st ho2 hD => ?_
      have ho2 : Gm 30 18 16000 o2 := ho2.mono (by omega) (by dsimp only; omega) (by dsimp only; omega)
      refine next_use hD (by omega) fun z st z0 z1 hD => ?_
      refine odd_use3 fun o3 t3 g3 => ?_
      have ho3 := Gm.odd t3 g3
      refine ⟨z4, ?_⟩
      have hl0 := hD.len
      have hD := hD.push (c := .lst [.tup ds, o1, o2, o3])
      have t0 := hD.top
      rw [hl0]
      refine seq_cut (fun e t => ∃ x7 x8 x10 x11 ls, e = [some (.scr (ns.map .int)), some (.ref 2), some (.int (0 + (i : Int))), some (.int (y % 7)), some s.d, some (.str s.d.rep), some (.int (0 + (j : Int))), x7, x8, some (.ref (rest.length + 3)), x10, x11] ∧ ls.length ≤ 5 ∧ (∀ d ∈ ls, Gm 60 34 40000 d) ∧ Dk ((i : Int) * 100000000 + 30000000 + j * 1000000 + 500000) (rest ++ [.lst ls]) t) (fun K hK => ?_) ?_
      · simp?! only [wIsi]
        refine ⟨Any.noRef (ho1.any (by decide)), ?_⟩
        have hall : ∀ d ∈ [.tup ds, o1, o2, o3], Gm 60 34 40000 d := List.forall_mem_cons.mpr ⟨hg.mono (by decide) (by decide) (by decide), List.forall_mem_cons.mpr ⟨ho1.mono (by decide) (by decide) (by decide), List.forall_mem_cons.mpr ⟨ho2.mono (by decide) (by decide) (by decide), List.forall_mem_cons.mpr ⟨ho3.mono (by decide) (by decide) (by decide), fun _ h => nomatch h⟩⟩⟩⟩
        have hls : [D.tup ds, o1, o2, o3].length ≤ 4 := Nat.le_refl _
        generalize [.tup ds, o1, o2, o3] = ls at hD t0 hall hls
        rcases isa_tup (d := o1) with ⟨es, rfl⟩ | ⟨h1, h2⟩
        · rw [isa_tupT, if_pos rfl]
          simp?! only [true_and]
          have hel := ho1.ofTup
          have hdl := depL_le hel.dep
          have hbl := hel.blk
          have hex : GmL 30 (D.depL es) (D.blkL es) es := ⟨hel.gm, depL_of (Nat.le_refl _), Nat.le_refl _⟩
          refine ⟨⟨_, rd_ref' t0⟩, ?_⟩
          refine use_deck (30, es) rfl rfl hD (by omega) ⟨hex, ⟨by dsimp only; omega, by dsimp only; omega, by dsimp only; omega⟩, by dsimp only; omega⟩ fun o4 st ho4 hD => ?_
          have ho4 : Gm 60 34 40000 o4 := ho4.mono (by dsimp only; omega) (by dsimp only; omega) (by dsimp only; omega)
          have t2 := hD.top
          rw [v_app t2]
          refine ⟨by rw [sizeLine_eq]; omega, hK _ _ ⟨_, _, _, _, ls ++ [o4], rfl, by rw [List.length_append, List.length_singleton]; omega, fun d hd => ?_, ?_⟩⟩
          · rcases List.mem_append.mp hd with hd | hd
            · exact hall d hd
            · rw [List.mem_singleton] at hd; subst hd; exact ho4
          · have := dk_set47 (j := rest.length) (c := .lst (ls ++ [o4])) hD
            rw [set_last] at this
            exact this.mono (by omega)
        · rw [h1, if_neg (by decide)]
          exact hK _ _ ⟨_, _, _, _, ls, rfl, by omega, hall, hD.mono (by omega)⟩
      rintro e t ⟨x7, x8, x10, x11, ls, rfl, hls, hlg, hD⟩
      have t1 := hD.top
      simp?! only [wFor]
      refine seqI_of (rd_ref' t1) fun G hG => ?_
      refine forL_inv (fun _ e t' => t' = t ∧ ∃ x10 x11, e = [some (.scr (ns.map .int)), some (.ref 2), some (.int (0 + (i : Int))), some (.int (y % 7)), some s.d, some (.str s.d.rep), some (.int (0 + (j : Int))), x7, x8, some (.ref (rest.length + 3)), x10, x11]) ?_ ?_ _ _ ⟨rfl, _, _, rfl⟩
      · rintro m e t' d ⟨rfl, x10, x11, rfl⟩ he R3 hR3
        have hdg := hlg d (List.mem_of_getElem? he)
        have hfd := hdg.fit (by decide) (by decide) (by decide)
        have had := hdg.any (by decide)
        refine ⟨hG _ (rd_ref' t1), ?_⟩
        simp?! only [w_p_law_1]
        refine seq_go ?_
        (try simp?! only [true_and])
        refine ⟨_, rfl, hfd, ?_⟩
        refine seq_go ?_
        (try simp?! only [true_and])
        refine use_pure (s, d) rfl rfl ⟨hs, had⟩ ?_
        refine use_pure (s, d) rfl rfl ⟨hs, had⟩ ?_
        refine says_use ?_
        simp?! only [beq_self_eq_true]
        refine ⟨_, rfl, hfd, v_eqsI (f := fun b => !b) true (beq_self_eq_true _) ?_⟩
        refine ⟨_, rfl, ?_⟩
        rw [if_neg (by decide)]
        exact hR3 _ _ ⟨rfl, _, _, rfl⟩
      · rintro e t' ⟨rfl, x10, x11, rfl⟩
        refine ⟨hG _ (rd_ref' t1), ?_⟩
        exact hR2 _ _ ⟨_, _, _, _, _, _, _, rfl, hD.mono (by omega)⟩
    · rintro e t ⟨x6, x7, x8, x9, x10, x11, rest, rfl, hD⟩
      rw [rangeD_len] at hD
      refine ⟨trivial, ?_⟩
      dsimp only
      (try simp?! only [true_and])
      refine ⟨_, rfl, hfs, v_eqsI (f := fun b => !b) true (beq_self_eq_true _) ?_⟩
      refine ⟨_, rfl, ?_⟩
      rw [if_neg (by decide)]
      exact hR _ _ ⟨_, _, _, _, _, _, _, _, _, _, _, rfl, hD.mono (by omega)⟩
  · rintro e t ⟨x2, x3, x4, x5, x6, x7, x8, x9, x10, x11, rest, rfl, hD⟩
    exact ⟨trivial, [], _, rfl, rfl, rfl, fun i c h => by simp at h, rfl⟩
abbrev N_p_is_number : List Str := ["thing"]
theorem sc_p_is_number : FnScope N_p_is_number ["thing"] (defScope s_p_is_number) := ⟨rfl, rfl, rfl, by decide +kernel, rfl, by decide +kernel, by decide +kernel⟩
abbrev N_f_law_deck : List Str := ["_law_script", "_law_digits", "_law_cells", "_law_cell"]
theorem sc_f_law_deck : FnScope N_f_law_deck ["_law_script"] (defScope s_f_law_deck) := ⟨rfl, rfl, rfl, by decide +kernel, rfl, by decide +kernel, by decide +kernel⟩
abbrev N_f_law_next : List Str := ["_law_deck_here", "_law_at", "_law_primes", "_law_cell", "_law_mixed"]
theorem sc_f_law_next : FnScope N_f_law_next ["_law_deck_here"] (defScope s_f_law_next) := ⟨rfl, rfl, rfl, by decide +kernel, rfl, by decide +kernel, by decide +kernel⟩
abbrev N_f_law_says : List Str := ["_law_found", "_law_due"]
theorem sc_f_law_says : FnScope N_f_law_says ["_law_found", "_law_due"] (defScope s_f_law_says) := ⟨rfl, rfl, rfl, by decide +kernel, rfl, by decide +kernel, by decide +kernel⟩
abbrev N_f_law_is_from : List Str := ["_law_thing", "_law_low", "_law_high"]
theorem sc_f_law_is_from : FnScope N_f_law_is_from ["_law_thing", "_law_low", "_law_high"] (defScope s_f_law_is_from) := ⟨rfl, rfl, rfl, by decide +kernel, rfl, by decide +kernel, by decide +kernel⟩
abbrev N_f_law_odd : List Str := ["_law_number", "_law_odd_here"]
theorem sc_f_law_odd : FnScope N_f_law_odd ["_law_number"] (defScope s_f_law_odd) := ⟨rfl, rfl, rfl, by decide +kernel, rfl, by decide +kernel, by decide +kernel⟩
abbrev N_p_is_from : List Str := ["thing", "low", "high"]
theorem sc_p_is_from : FnScope N_p_is_from ["thing", "low", "high"] (defScope s_p_is_from) := ⟨rfl, rfl, rfl, by decide +kernel, rfl, by decide +kernel, by decide +kernel⟩
abbrev N_f_law_is_rising : List Str := ["_law_thing", "_law_high", "_law_least", "_law_one"]
theorem sc_f_law_is_rising : FnScope N_f_law_is_rising ["_law_thing", "_law_high"] (defScope s_f_law_is_rising) := ⟨rfl, rfl, rfl, by decide +kernel, rfl, by decide +kernel, by decide +kernel⟩
abbrev N_f_law_rows_of : List Str := ["_law_deck_here", "_law_high", "_law_some", "_law_one"]
theorem sc_f_law_rows_of : FnScope N_f_law_rows_of ["_law_deck_here", "_law_high", "_law_some"] (defScope s_f_law_rows_of) := ⟨rfl, rfl, rfl, by decide +kernel, rfl, by decide +kernel, by decide +kernel⟩
abbrev N_f_law_wish : List Str := ["_law_deck_here", "_law_works", "_law_days", "_law_ranks", "_law_weight"]
theorem sc_f_law_wish : FnScope N_f_law_wish ["_law_deck_here", "_law_works", "_law_days"] (defScope s_f_law_wish) := ⟨rfl, rfl, rfl, by decide +kernel, rfl, by decide +kernel, by decide +kernel⟩
abbrev N_f_law_is_wish : List Str := ["_law_thing", "_law_days", "_law_works", "_law_highs", "_law_k"]
theorem sc_f_law_is_wish : FnScope N_f_law_is_wish ["_law_thing", "_law_days", "_law_works"] (defScope s_f_law_is_wish) := ⟨rfl, rfl, rfl, by decide +kernel, rfl, by decide +kernel, by decide +kernel⟩
abbrev N_p_is_rising : List Str := ["thing", "high", "one", "other"]
theorem sc_p_is_rising : FnScope N_p_is_rising ["thing", "high"] (defScope s_p_is_rising) := ⟨rfl, rfl, rfl, by decide +kernel, rfl, by decide +kernel, by decide +kernel⟩
abbrev N_p_is_wish : List Str := ["thing", "days", "works", "work", "sort", "day", "weight", "rank"]
theorem sc_p_is_wish : FnScope N_p_is_wish ["thing", "days", "works"] (defScope s_p_is_wish) := ⟨rfl, rfl, rfl, by decide +kernel, rfl, by decide +kernel, by decide +kernel⟩
abbrev N_p_is_place : List Str := ["parts", "row"]
theorem sc_p_is_place : FnScope N_p_is_place ["parts", "row"] (defScope s_p_is_place) := ⟨rfl, rfl, rfl, by decide +kernel, rfl, by decide +kernel, by decide +kernel⟩
abbrev N_p_is_longer : List Str := ["system", "parts"]
theorem sc_p_is_longer : FnScope N_p_is_longer ["system", "parts"] (defScope s_p_is_longer) := ⟨rfl, rfl, rfl, by decide +kernel, rfl, by decide +kernel, by decide +kernel⟩
abbrev N_p_is_away : List Str := ["system", "parts"]
theorem sc_p_is_away : FnScope N_p_is_away ["system", "parts"] (defScope s_p_is_away) := ⟨rfl, rfl, rfl, by decide +kernel, rfl, by decide +kernel, by decide +kernel⟩
abbrev N_f_law_work : List Str := ["_law_deck_here", "_law_number", "_law_hands", "_law_length", "_law_much", "_law_ahead", "_law_way", "_law_able", "_law_hand"]
theorem sc_f_law_work : FnScope N_f_law_work ["_law_deck_here", "_law_number", "_law_hands", "_law_length"] (defScope s_f_law_work) := ⟨rfl, rfl, rfl, by decide +kernel, rfl, by decide +kernel, by decide +kernel⟩
abbrev N_f_law_is_work : List Str := ["_law_thing", "_law_number", "_law_hands"]
theorem sc_f_law_is_work : FnScope N_f_law_is_work ["_law_thing", "_law_number", "_law_hands"] (defScope s_f_law_is_work) := ⟨rfl, rfl, rfl, by decide +kernel, rfl, by decide +kernel, by decide +kernel⟩
abbrev N_p_is_work : List Str := ["thing", "number", "hands", "length", "ahead", "able"]
theorem sc_p_is_work : FnScope N_p_is_work ["thing", "number", "hands"] (defScope s_p_is_work) := ⟨rfl, rfl, rfl, by decide +kernel, rfl, by decide +kernel, by decide +kernel⟩
abbrev N_p_is_wish_more : List Str := ["system", "parts"]
theorem sc_p_is_wish_more : FnScope N_p_is_wish_more ["system", "parts"] (defScope s_p_is_wish_more) := ⟨rfl, rfl, rfl, by decide +kernel, rfl, by decide +kernel, by decide +kernel⟩
abbrev N_p_is_hand_more : List Str := ["system", "parts"]
theorem sc_p_is_hand_more : FnScope N_p_is_hand_more ["system", "parts"] (defScope s_p_is_hand_more) := ⟨rfl, rfl, rfl, by decide +kernel, rfl, by decide +kernel, by decide +kernel⟩
abbrev N_f_law_system : List Str := ["_law_deck_here", "_law_days", "_law_hands", "_law_works", "_law_length", "_law_wishes", "_law_many", "_law_some", "_law_rows", "_law_count", "_law_longest", "_law_works_drawn", "_law_wished", "_law_hand", "_law_work_here", "_law_k"]
theorem sc_f_law_system : FnScope N_f_law_system ["_law_deck_here", "_law_days", "_law_hands", "_law_works", "_law_length", "_law_wishes"] (defScope s_f_law_system) := ⟨rfl, rfl, rfl, by decide +kernel, rfl, by decide +kernel, by decide +kernel⟩
abbrev N_f_law_is_changem : List Str := ["_law_system_here", "_law_thing", "_law_days", "_law_hands", "_law_works", "_law_wishes", "_law_sizes", "_law_word", "_law_high"]
theorem sc_f_law_is_changem : FnScope N_f_law_is_changem ["_law_system_here", "_law_thing"] (defScope s_f_law_is_changem) := ⟨rfl, rfl, rfl, by decide +kernel, rfl, by decide +kernel, by decide +kernel⟩
abbrev N_f_law_changem : List Str := ["_law_deck_here", "_law_system_here", "_law_way", "_law_days", "_law_hands", "_law_works", "_law_wishes", "_law_number", "_law_one", "_law_first"]
theorem sc_f_law_changem : FnScope N_f_law_changem ["_law_deck_here", "_law_system_here", "_law_way"] (defScope s_f_law_changem) := ⟨rfl, rfl, rfl, by decide +kernel, rfl, by decide +kernel, by decide +kernel⟩
abbrev N_p_is_work_more : List Str := ["system", "parts"]
theorem sc_p_is_work_more : FnScope N_p_is_work_more ["system", "parts"] (defScope s_p_is_work_more) := ⟨rfl, rfl, rfl, by decide +kernel, rfl, by decide +kernel, by decide +kernel⟩
abbrev N_f_law_any_system : List Str := ["_law_deck_here", "_law_sort", "_law_many", "_law_hands", "_law_count", "_law_works", "_law_wished", "_law_hand", "_law_work_here", "_law_k"]
theorem sc_f_law_any_system : FnScope N_f_law_any_system ["_law_deck_here"] (defScope s_f_law_any_system) := ⟨rfl, rfl, rfl, by decide +kernel, rfl, by decide +kernel, by decide +kernel⟩
abbrev N_p_is_change : List Str := ["system", "thing", "word", "parts"]
theorem sc_p_is_change : FnScope N_p_is_change ["system", "thing"] (defScope s_p_is_change) := ⟨rfl, rfl, rfl, by decide +kernel, rfl, by decide +kernel, by decide +kernel⟩
abbrev N_f_law_nearm : List Str := ["_law_deck_here", "_law_part", "_law_number", "_law_at"]
theorem sc_f_law_nearm : FnScope N_f_law_nearm ["_law_deck_here", "_law_part"] (defScope s_f_law_nearm) := ⟨rfl, rfl, rfl, by decide +kernel, rfl, by decide +kernel, by decide +kernel⟩
abbrev N_f_law_bentm : List Str := ["_law_deck_here", "_law_row", "_law_kind", "_law_number", "_law_at"]
theorem sc_f_law_bentm : FnScope N_f_law_bentm ["_law_deck_here", "_law_row"] (defScope s_f_law_bentm) := ⟨rfl, rfl, rfl, by decide +kernel, rfl, by decide +kernel, by decide +kernel⟩
abbrev N_p_law : List Str := ["_law_script", "_law_deck_here", "_law_turn", "_law_way", "_law_system_here", "_law_mark", "_law_k", "_law_change_here", "_law_once", "_law_things", "_law_thing", "_law_shown"]
theorem sc_p_law : FnScope N_p_law ["_law_script"] (defScope s_p_law) := ⟨rfl, rfl, rfl, by decide +kernel, rfl, by decide +kernel, by decide +kernel⟩
set_option genInjectivity false in
set_option genSizeOf false in
structure Txt (K : PySem.W.Frag) (mg : Str → Option Value) where
  a_p_is_number : Addr
  d_p_is_number : FuncData
  F_p_is_number : Fun K "is_number" "is_number" s_p_is_number a_p_is_number d_p_is_number
  b_p_is_number : Binds K d_p_is_number ["thing"] []
  m_p_is_number : mg "is_number" = some (.ref a_p_is_number)
  a_f_law_deck : Addr
  d_f_law_deck : FuncData
  F_f_law_deck : Fun K "_law_deck" "_law_deck" s_f_law_deck a_f_law_deck d_f_law_deck
  b_f_law_deck : Binds K d_f_law_deck ["_law_script"] []
  m_f_law_deck : mg "_law_deck" = some (.ref a_f_law_deck)
  a_f_law_next : Addr
  d_f_law_next : FuncData
  F_f_law_next : Fun K "_law_next" "_law_next" s_f_law_next a_f_law_next d_f_law_next
  b_f_law_next : Binds K d_f_law_next ["_law_deck_here"] []
  m_f_law_next : mg "_law_next" = some (.ref a_f_law_next)
  a_f_law_says : Addr
  d_f_law_says : FuncData
  F_f_law_says : Fun K "_law_says" "_law_says" s_f_law_says a_f_law_says d_f_law_says
  b_f_law_says : Binds K d_f_law_says ["_law_found", "_law_due"] []
  m_f_law_says : mg "_law_says" = some (.ref a_f_law_says)
  a_f_law_is_from : Addr
  d_f_law_is_from : FuncData
  F_f_law_is_from : Fun K "_law_is_from" "_law_is_from" s_f_law_is_from a_f_law_is_from d_f_law_is_from
  b_f_law_is_from : Binds K d_f_law_is_from ["_law_thing", "_law_low", "_law_high"] []
  m_f_law_is_from : mg "_law_is_from" = some (.ref a_f_law_is_from)
  a_f_law_odd : Addr
  d_f_law_odd : FuncData
  F_f_law_odd : Fun K "_law_odd" "_law_odd" s_f_law_odd a_f_law_odd d_f_law_odd
  b_f_law_odd : Binds K d_f_law_odd ["_law_number"] []
  m_f_law_odd : mg "_law_odd" = some (.ref a_f_law_odd)
  a_p_is_from : Addr
  d_p_is_from : FuncData
  F_p_is_from : Fun K "is_from" "is_from" s_p_is_from a_p_is_from d_p_is_from
  b_p_is_from : Binds K d_p_is_from ["thing", "low", "high"] []
  m_p_is_from : mg "is_from" = some (.ref a_p_is_from)
  a_f_law_is_rising : Addr
  d_f_law_is_rising : FuncData
  F_f_law_is_rising : Fun K "_law_is_rising" "_law_is_rising" s_f_law_is_rising a_f_law_is_rising d_f_law_is_rising
  b_f_law_is_rising : Binds K d_f_law_is_rising ["_law_thing", "_law_high"] []
  m_f_law_is_rising : mg "_law_is_rising" = some (.ref a_f_law_is_rising)
  a_f_law_rows_of : Addr
  d_f_law_rows_of : FuncData
  F_f_law_rows_of : Fun K "_law_rows_of" "_law_rows_of" s_f_law_rows_of a_f_law_rows_of d_f_law_rows_of
  b_f_law_rows_of : Binds K d_f_law_rows_of ["_law_deck_here", "_law_high", "_law_some"] []
  m_f_law_rows_of : mg "_law_rows_of" = some (.ref a_f_law_rows_of)
  a_f_law_wish : Addr
  d_f_law_wish : FuncData
  F_f_law_wish : Fun K "_law_wish" "_law_wish" s_f_law_wish a_f_law_wish d_f_law_wish
  b_f_law_wish : Binds K d_f_law_wish ["_law_deck_here", "_law_works", "_law_days"] []
  m_f_law_wish : mg "_law_wish" = some (.ref a_f_law_wish)
  a_f_law_is_wish : Addr
  d_f_law_is_wish : FuncData
  F_f_law_is_wish : Fun K "_law_is_wish" "_law_is_wish" s_f_law_is_wish a_f_law_is_wish d_f_law_is_wish
  b_f_law_is_wish : Binds K d_f_law_is_wish ["_law_thing", "_law_days", "_law_works"] []
  m_f_law_is_wish : mg "_law_is_wish" = some (.ref a_f_law_is_wish)
  a_p_is_rising : Addr
  d_p_is_rising : FuncData
  F_p_is_rising : Fun K "is_rising" "is_rising" s_p_is_rising a_p_is_rising d_p_is_rising
  b_p_is_rising : Binds K d_p_is_rising ["thing", "high"] []
  m_p_is_rising : mg "is_rising" = some (.ref a_p_is_rising)
  a_p_is_wish : Addr
  d_p_is_wish : FuncData
  F_p_is_wish : Fun K "is_wish" "is_wish" s_p_is_wish a_p_is_wish d_p_is_wish
  b_p_is_wish : Binds K d_p_is_wish ["thing", "days", "works"] []
  m_p_is_wish : mg "is_wish" = some (.ref a_p_is_wish)
  a_p_is_place : Addr
  d_p_is_place : FuncData
  F_p_is_place : Fun K "is_place" "is_place" s_p_is_place a_p_is_place d_p_is_place
  b_p_is_place : Binds K d_p_is_place ["parts", "row"] []
  m_p_is_place : mg "is_place" = some (.ref a_p_is_place)
  a_p_is_longer : Addr
  d_p_is_longer : FuncData
  F_p_is_longer : Fun K "is_longer" "is_longer" s_p_is_longer a_p_is_longer d_p_is_longer
  b_p_is_longer : Binds K d_p_is_longer ["system", "parts"] []
  m_p_is_longer : mg "is_longer" = some (.ref a_p_is_longer)
  a_p_is_away : Addr
  d_p_is_away : FuncData
  F_p_is_away : Fun K "is_away" "is_away" s_p_is_away a_p_is_away d_p_is_away
  b_p_is_away : Binds K d_p_is_away ["system", "parts"] []
  m_p_is_away : mg "is_away" = some (.ref a_p_is_away)
  a_f_law_work : Addr
  d_f_law_work : FuncData
  F_f_law_work : Fun K "_law_work" "_law_work" s_f_law_work a_f_law_work d_f_law_work
  b_f_law_work : Binds K d_f_law_work ["_law_deck_here", "_law_number", "_law_hands", "_law_length"] []
  m_f_law_work : mg "_law_work" = some (.ref a_f_law_work)
  a_f_law_is_work : Addr
  d_f_law_is_work : FuncData
  F_f_law_is_work : Fun K "_law_is_work" "_law_is_work" s_f_law_is_work a_f_law_is_work d_f_law_is_work
  b_f_law_is_work : Binds K d_f_law_is_work ["_law_thing", "_law_number", "_law_hands"] []
  m_f_law_is_work : mg "_law_is_work" = some (.ref a_f_law_is_work)
  a_p_is_work : Addr
  d_p_is_work : FuncData
  F_p_is_work : Fun K "is_work" "is_work" s_p_is_work a_p_is_work d_p_is_work
  b_p_is_work : Binds K d_p_is_work ["thing", "number", "hands"] []
  m_p_is_work : mg "is_work" = some (.ref a_p_is_work)
  a_p_is_wish_more : Addr
  d_p_is_wish_more : FuncData
  F_p_is_wish_more : Fun K "is_wish_more" "is_wish_more" s_p_is_wish_more a_p_is_wish_more d_p_is_wish_more
  b_p_is_wish_more : Binds K d_p_is_wish_more ["system", "parts"] []
  m_p_is_wish_more : mg "is_wish_more" = some (.ref a_p_is_wish_more)
  a_p_is_hand_more : Addr
  d_p_is_hand_more : FuncData
  F_p_is_hand_more : Fun K "is_hand_more" "is_hand_more" s_p_is_hand_more a_p_is_hand_more d_p_is_hand_more
  b_p_is_hand_more : Binds K d_p_is_hand_more ["system", "parts"] []
  m_p_is_hand_more : mg "is_hand_more" = some (.ref a_p_is_hand_more)
  a_f_law_system : Addr
  d_f_law_system : FuncData
  F_f_law_system : Fun K "_law_system" "_law_system" s_f_law_system a_f_law_system d_f_law_system
  b_f_law_system : Binds K d_f_law_system ["_law_deck_here", "_law_days", "_law_hands", "_law_works", "_law_length", "_law_wishes"] []
  m_f_law_system : mg "_law_system" = some (.ref a_f_law_system)
  a_f_law_is_changem : Addr
  d_f_law_is_changem : FuncData
  F_f_law_is_changem : Fun K "_law_is_change" "_law_is_change" s_f_law_is_changem a_f_law_is_changem d_f_law_is_changem
  b_f_law_is_changem : Binds K d_f_law_is_changem ["_law_system_here", "_law_thing"] []
  m_f_law_is_changem : mg "_law_is_change" = some (.ref a_f_law_is_changem)
  a_f_law_changem : Addr
  d_f_law_changem : FuncData
  F_f_law_changem : Fun K "_law_change" "_law_change" s_f_law_changem a_f_law_changem d_f_law_changem
  b_f_law_changem : Binds K d_f_law_changem ["_law_deck_here", "_law_system_here", "_law_way"] []
  m_f_law_changem : mg "_law_change" = some (.ref a_f_law_changem)
  a_p_is_work_more : Addr
  d_p_is_work_more : FuncData
  F_p_is_work_more : Fun K "is_work_more" "is_work_more" s_p_is_work_more a_p_is_work_more d_p_is_work_more
  b_p_is_work_more : Binds K d_p_is_work_more ["system", "parts"] []
  m_p_is_work_more : mg "is_work_more" = some (.ref a_p_is_work_more)
  a_f_law_any_system : Addr
  d_f_law_any_system : FuncData
  F_f_law_any_system : Fun K "_law_any_system" "_law_any_system" s_f_law_any_system a_f_law_any_system d_f_law_any_system
  b_f_law_any_system : Binds K d_f_law_any_system ["_law_deck_here"] []
  m_f_law_any_system : mg "_law_any_system" = some (.ref a_f_law_any_system)
  a_p_is_change : Addr
  d_p_is_change : FuncData
  F_p_is_change : Fun K "is_change" "is_change" s_p_is_change a_p_is_change d_p_is_change
  b_p_is_change : Binds K d_p_is_change ["system", "thing"] []
  m_p_is_change : mg "is_change" = some (.ref a_p_is_change)
  a_f_law_nearm : Addr
  d_f_law_nearm : FuncData
  F_f_law_nearm : Fun K "_law_near" "_law_near" s_f_law_nearm a_f_law_nearm d_f_law_nearm
  b_f_law_nearm : Binds K d_f_law_nearm ["_law_deck_here", "_law_part"] []
  m_f_law_nearm : mg "_law_near" = some (.ref a_f_law_nearm)
  a_f_law_bentm : Addr
  d_f_law_bentm : FuncData
  F_f_law_bentm : Fun K "_law_bent" "_law_bent" s_f_law_bentm a_f_law_bentm d_f_law_bentm
  b_f_law_bentm : Binds K d_f_law_bentm ["_law_deck_here", "_law_row"] []
  m_f_law_bentm : mg "_law_bent" = some (.ref a_f_law_bentm)
  a_p_law : Addr
  d_p_law : FuncData
  F_p_law : Fun K "law" "law" s_p_law a_p_law d_p_law
  b_p_law : Binds K d_p_law ["_law_script"] []
  m_p_law : mg "law" = some (.ref a_p_law)
  sm : smB K = true
  n_abs : mg "abs" = none
  n_all : mg "all" = none
  n_bool : mg "bool" = none
  n_int : mg "int" = none
  n_isinstance : mg "isinstance" = none
  n_len : mg "len" = none
  n_list : mg "list" = none
  n_max : mg "max" = none
  n_min : mg "min" = none
  n_range : mg "range" = none
  n_repr : mg "repr" = none
  n_str : mg "str" = none
  n_tuple : mg "tuple" = none
  n_zip : mg "zip" = none
  g_MOST_HANDS : ∃ t, mg "MOST_HANDS" = some (.int 5 t)
  g_MOST_LENGTH : ∃ t, mg "MOST_LENGTH" = some (.int 10 t)
  g_MOST_WEIGHT : ∃ t, mg "MOST_WEIGHT" = some (.int 100 t)
  g_MOST_WISHES : ∃ t, mg "MOST_WISHES" = some (.int 24 t)
  g_MOST_WORKS : ∃ t, mg "MOST_WORKS" = some (.int 12 t)
  g_RANKS : ∃ t, mg "RANKS" = some (.int 4 t)
section
variable {P : Program} {w : World} {K : PySem.W.Frag} {mg : Str → Option Value} {base : Heap}
theorem ok_p_is_number (T : Txt K mg) : FnG P w K mg base CX0 1 T.a_p_is_number T.d_p_is_number ["thing"] (spOf K S_p_is_number) := by
  refine fn_ok T.F_p_is_number sc_p_is_number rfl (fun cdv A outer s H E hr hgd => ?_) vc_p_is_number
  have nd := sc_p_is_number.nd
  exact wb_one (ws_ret (we_and (we_isi tok_int (by rfl) T.n_isinstance (by rfl) T.n_int bb_int (we_var (i := 0) rfl (.inl rfl))) (we_one (we_not (we_isi tok_bool (by rfl) T.n_isinstance (by rfl) T.n_bool bb_bool (we_var (i := 0) rfl (.inl rfl)))))))
theorem ok_f_law_deck (T : Txt K mg) : FnG P w K mg base CX0 1 T.a_f_law_deck T.d_f_law_deck ["_law_script"] (spOf K S_f_law_deck) := by
  refine fn_ok T.F_f_law_deck sc_f_law_deck rfl (fun cdv A outer s H E hr hgd => ?_) vc_f_law_deck
  have nd := sc_f_law_deck.nd
  exact wb_cons (ws_set (i := 1) nd rfl (.inl rfl) (we_lst (m := true) (wa_nil))) (wb_cons (ws_set (i := 2) nd rfl (.inl rfl) (we_lst (m := true) (wa_cons (we_callX z_len (fun h => pe_callB (CallR.or call_len_seq call_len_str) (by rfl) T.n_len bb_len h) (wa_cons (we_var (i := 0) rfl (.inl rfl)) (wa_nil))) (wa_nil)))) (wb_cons (ws_for PassesOwn.never rfl (wi_seq (we_sl (m := false) (we_var (i := 0) rfl (.inl rfl)) wo_none (wo_some (we_int)))) (wg_name (i := 3) nd rfl (.inl rfl)) (wb_cons (ws_set (i := 3) nd rfl (.inl rfl) (we_callX z_abs (fun h => pe_callB call_abs (by rfl) T.n_abs bb_abs h) (wa_cons (we_var (i := 3) rfl (.inl rfl)) (wa_nil)))) (wb_cons (ws_expr (we_m PySem.F.slot_list_append PySem.F.type_list_append mt_append z_append (we_var (i := 2) rfl (.inl rfl)) (wa_cons (we_op op_mod z_mod (we_var (i := 3) rfl (.inl rfl)) (we_int)) (wa_nil)) (fun h1 h2 => pe_bm PySem.F.plainAttrs_list PySem.F.slot_list_append PySem.F.type_list_append mt_append h1 h2))) (wb_one (ws_while PassesOwn.never ((ww_and (wt_cmp (op_geD hr.units0) z_ge (we_var (i := 3) rfl (.inl rfl)) (we_op op_pow z_pow (we_int) (we_int)) ((nomark _))) (ww_and1 (wt_cmp (op_ltD hr.units0) z_lt (we_callX z_len (fun h => pe_callB (CallR.or call_len_seq call_len_str) (by rfl) T.n_len bb_len h) (wa_cons (we_var (i := 1) rfl (.inl rfl)) (wa_nil))) (we_int) ((nomark _))))).wt) (wb_cons (ws_expr (we_m PySem.F.slot_list_append PySem.F.type_list_append mt_append z_append (we_var (i := 1) rfl (.inl rfl)) (wa_cons (we_op op_mod z_mod (we_var (i := 3) rfl (.inl rfl)) (we_int)) (wa_nil)) (fun h1 h2 => pe_bm PySem.F.plainAttrs_list PySem.F.slot_list_append PySem.F.type_list_append mt_append h1 h2))) (wb_one (ws_set (i := 3) nd rfl (.inl rfl) (we_op op_fdivW z_fdiv (we_var (i := 3) rfl (.inl rfl)) (we_int)))))))))) (wb_one (ws_ret (we_lst (m := true) (wa_cons (we_var (i := 1) rfl (.inl rfl)) (wa_cons (we_var (i := 2) rfl (.inl rfl)) (wa_cons (we_int) (wa_nil)))))))))
theorem ok_f_law_next (T : Txt K mg) : FnG P w K mg base CX0 1 T.a_f_law_next T.d_f_law_next ["_law_deck_here"] (spOf K S_f_law_next) := by
  refine fn_ok T.F_f_law_next sc_f_law_next rfl (fun cdv A outer s H E hr hgd => ?_) vc_f_law_next
  have nd := sc_f_law_next.nd
  exact wb_cons (ws_if (wt_cmp (op_neC hr.units) z_eqB (we_ix (we_var (i := 0) rfl (.inl rfl)) (we_int)) (we_lst (m := false) (wa_nil)) ((nomark _))) (wb_one (ws_ret (we_m PySem.F.slot_list_pop PySem.F.type_list_pop mt_popAt z_popAt (we_ix (we_var (i := 0) rfl (.inl rfl)) (we_int)) (wa_cons (we_int) (wa_nil)) (fun h1 h2 => pe_bm PySem.F.plainAttrs_list PySem.F.slot_list_pop PySem.F.type_list_pop mt_popAt h1 h2)))) (wb_nil)) (wb_cons (ws_set (i := 1) nd rfl (.inl rfl) (we_ix (we_var (i := 0) rfl (.inl rfl)) (we_int))) (wb_cons (ws_asg (we_op op_addD z_add (we_var (i := 1) rfl (.inl rfl)) (we_int)) (wg_sub (we_var (i := 0) rfl (.inl rfl)) (we_int))) (wb_cons (ws_set (i := 2) nd rfl (.inl rfl) (we_tup (wa_cons (we_int) (wa_cons (we_int) (wa_cons (we_int) (wa_cons (we_int) (wa_cons (we_int) (wa_cons (we_int) (wa_cons (we_int) (wa_cons (we_int) (wa_cons (we_int) (wa_cons (we_int) (wa_cons (we_int) (wa_cons (we_int) (wa_nil))))))))))))))) (wb_cons (ws_set (i := 3) nd rfl (.inl rfl) (we_op op_addD z_add (we_ix (we_ix (we_var (i := 0) rfl (.inl rfl)) (we_int)) (we_op op_mod z_mod (we_op op_addD z_add (we_var (i := 1) rfl (.inl rfl)) (we_int)) (we_callX z_len (fun h => pe_callB (CallR.or call_len_seq call_len_str) (by rfl) T.n_len bb_len h) (wa_cons (we_ix (we_var (i := 0) rfl (.inl rfl)) (we_int)) (wa_nil))))) (we_op op_mulD z_mul (we_int) (we_var (i := 1) rfl (.inl rfl))))) (wb_cons (ws_set (i := 4) nd rfl (.inl rfl) (we_op op_mod z_mod (we_op op_pow z_pow (we_op op_addD z_add (we_var (i := 3) rfl (.inl rfl)) (we_op op_mulD z_mul (we_ix (we_var (i := 2) rfl (.inl rfl)) (we_op op_mod z_mod (we_var (i := 1) rfl (.inl rfl)) (we_int))) (we_op op_addD z_add (we_var (i := 1) rfl (.inl rfl)) (we_int)))) (we_int)) (we_int))) (wb_one (ws_ret (we_op op_mod z_mod (we_op op_addD z_add (we_var (i := 4) rfl (.inl rfl)) (we_op op_mulD z_mul (we_ix (we_var (i := 2) rfl (.inl rfl)) (we_op op_mod z_mod (we_op op_addD z_add (we_var (i := 1) rfl (.inl rfl)) (we_int)) (we_int))) (we_var (i := 3) rfl (.inl rfl)))) (we_int)))))))))
theorem ok_f_law_says (T : Txt K mg) : FnG P w K mg base CX0 1 T.a_f_law_says T.d_f_law_says ["_law_found", "_law_due"] (spOf K S_f_law_says) := by
  refine fn_ok T.F_f_law_says sc_f_law_says rfl (fun cdv A outer s H E hr hgd => ?_) vc_f_law_says
  have nd := sc_f_law_says.nd
  exact wb_cons (ws_if (wt_val (we_var (i := 1) rfl (.inl rfl))) (wb_one (ws_ret (we_cmp (op_isBl) (z_isBl (f := fun b => b)) (we_var (i := 0) rfl (.inl rfl)) (we_bl) ((nomark _))))) (wb_nil)) (wb_one (ws_ret (we_cmp (op_isBl) (z_isBl (f := fun b => b)) (we_var (i := 0) rfl (.inl rfl)) (we_bl) ((nomark _)))))
theorem ok_f_law_is_from (T : Txt K mg) : FnG P w K mg base CX0 1 T.a_f_law_is_from T.d_f_law_is_from ["_law_thing", "_law_low", "_law_high"] (spOf K S_f_law_is_from) := by
  refine fn_ok T.F_f_law_is_from sc_f_law_is_from rfl (fun cdv A outer s H E hr hgd => ?_) vc_f_law_is_from
  have nd := sc_f_law_is_from.nd
  exact wb_one (ws_ret (we_and (we_isi tok_int (by rfl) T.n_isinstance (by rfl) T.n_int bb_int (we_var (i := 0) rfl (.inl rfl))) (we_and (we_not (we_isi tok_bool (by rfl) T.n_isinstance (by rfl) T.n_bool bb_bool (we_var (i := 0) rfl (.inl rfl)))) (we_one (we_chain (op_leD hr.units0) z_le (op_leD hr.units0) z_le (we_var (i := 1) rfl (.inl rfl)) (we_var (i := 0) rfl (.inl rfl)) (we_var (i := 2) rfl (.inl rfl)))))))
theorem ok_f_law_odd (T : Txt K mg) : FnG P w K mg base CX0 1 T.a_f_law_odd T.d_f_law_odd ["_law_number"] (spOf K S_f_law_odd) := by
  refine fn_ok T.F_f_law_odd sc_f_law_odd rfl (fun cdv A outer s H E hr hgd => ?_) vc_f_law_odd
  have nd := sc_f_law_odd.nd
  exact wb_cons (ws_set (i := 1) nd rfl (.inl rfl) (we_lst (m := false) (wa_cons (we_non) (wa_cons (we_bl) (wa_cons (we_bl) (wa_cons (we_int) (wa_cons (we_int) (wa_cons (we_neg (we_int)) (wa_cons (we_int) (wa_cons (we_str) (wa_cons (we_str) (wa_cons (we_str) (wa_cons (we_tup (wa_nil)) (wa_cons (we_tup (wa_cons (we_int) (wa_nil))) (wa_cons (we_tup (wa_cons (we_int) (wa_cons (we_int) (wa_nil)))) (wa_cons (we_tup (wa_cons (we_tup (wa_nil)) (wa_cons (we_tup (wa_nil)) (wa_nil)))) (wa_cons (we_lst (m := false) (wa_nil)) (wa_cons (we_lst (m := false) (wa_cons (we_int) (wa_nil))) (wa_cons (we_dict0) (wa_cons (we_dict1) (wa_nil))))))))))))))))))))) (wb_cons (ws_set (i := 1) nd rfl (.inl rfl) (we_op op_addD z_add (we_var (i := 1) rfl (.inl rfl)) (we_lst (m := false) (wa_cons (we_tup (wa_cons (we_non) (wa_nil))) (wa_cons (we_tup (wa_cons (we_tup (wa_nil)) (wa_nil))) (wa_cons (we_lst (m := false) (wa_cons (we_tup (wa_nil)) (wa_nil))) (wa_cons (we_tup (wa_cons (we_bl) (wa_cons (we_bl) (wa_nil)))) (wa_cons (we_tup (wa_cons (we_tup (wa_cons (we_int) (wa_cons (we_int) (wa_nil)))) (wa_cons (we_tup (wa_cons (we_int) (wa_cons (we_int) (wa_nil)))) (wa_nil)))) (wa_cons (we_tup (wa_cons (we_tup (wa_cons (we_tup (wa_nil)) (wa_cons (we_tup (wa_nil)) (wa_nil)))) (wa_nil))) (wa_cons (we_tup (wa_cons (we_str) (wa_cons (we_int) (wa_nil)))) (wa_cons (we_tup (wa_cons (we_tup (wa_cons (we_int) (wa_cons (we_int) (wa_nil)))) (wa_nil))) (wa_cons (we_op op_pow z_pow (we_int) (we_int)) (wa_nil))))))))))))) (wb_cons (ws_set (i := 1) nd rfl (.inl rfl) (we_op op_addD z_add (we_var (i := 1) rfl (.inl rfl)) (we_lst (m := false) (wa_cons (we_tup (wa_cons (we_tup (wa_cons (we_int) (wa_cons (we_int) (wa_nil)))) (wa_cons (we_non) (wa_nil)))) (wa_cons (we_tup (wa_cons (we_int) (wa_cons (we_tup (wa_nil)) (wa_cons (we_tup (wa_nil)) (wa_cons (we_tup (wa_nil)) (wa_nil)))))) (wa_cons (we_tup (wa_cons (we_tup (wa_cons (we_int) (wa_nil))) (wa_nil))) (wa_cons (we_tup (wa_cons (we_tup (wa_cons (we_int) (wa_cons (we_int) (wa_cons (we_tup (wa_nil)) (wa_nil))))) (wa_nil))) (wa_cons (we_str) (wa_cons (we_tup (wa_cons (we_str) (wa_cons (we_bl) (wa_nil)))) (wa_cons (we_tup (wa_cons (we_tup (wa_cons (we_int) (wa_cons (we_int) (wa_cons (we_int) (wa_nil))))) (wa_nil))) (wa_nil))))))))))) (wb_cons (ws_set (i := 1) nd rfl (.inl rfl) (we_op op_addD z_add (we_var (i := 1) rfl (.inl rfl)) (we_lst (m := false) (wa_cons (we_tup (wa_cons (we_tup (wa_cons (we_int) (wa_cons (we_lst (m := false) (wa_cons (we_int) (wa_nil))) (wa_nil)))) (wa_nil))) (wa_cons (we_tup (wa_cons (we_tup (wa_cons (we_tup (wa_cons (we_tup (wa_cons (we_tup (wa_cons (we_tup (wa_cons (we_tup (wa_cons (we_tup (wa_cons (we_tup (wa_cons (we_int) (wa_nil))) (wa_nil))) (wa_nil))) (wa_nil))) (wa_nil))) (wa_nil))) (wa_nil))) (wa_nil))) (wa_nil))) (wa_cons (we_op op_repS z_mulS (we_str) (we_int)) (wa_cons (we_tup (wa_cons (we_int) (wa_cons (we_tup (wa_cons (we_int) (wa_cons (we_dict0) (wa_nil)))) (wa_nil)))) (wa_cons (we_tup (wa_cons (we_tup (wa_cons (we_int) (wa_cons (we_int) (wa_nil)))) (wa_cons (we_tup (wa_cons (we_int) (wa_cons (we_int) (wa_nil)))) (wa_cons (we_lst (m := false) (wa_cons (we_int) (wa_cons (we_int) (wa_nil)))) (wa_nil))))) (wa_nil))))))))) (wb_one (ws_ret (we_ix (we_var (i := 1) rfl (.inl rfl)) (we_op op_mod z_mod (we_var (i := 0) rfl (.inl rfl)) (we_callX z_len (fun h => pe_callB (CallR.or call_len_seq call_len_str) (by rfl) T.n_len bb_len h) (wa_cons (we_var (i := 1) rfl (.inl rfl)) (wa_nil))))))))))
theorem ok_p_is_from (T : Txt K mg) : FnG P w K mg base CX0 2 T.a_p_is_from T.d_p_is_from ["thing", "low", "high"] (spOf K S_p_is_from) := by
  refine fn_ok T.F_p_is_from sc_p_is_from rfl (fun cdv A outer s H E hr hgd => ?_) vc_p_is_from
  have nd := sc_p_is_from.nd
  exact wb_one (ws_ret (we_and (we_call (ok_p_is_number T) (hr.mono (by decide)) hgd (by rfl) T.m_p_is_number T.F_p_is_number.kp T.b_p_is_number (wa_cons (we_var (i := 0) rfl (.inl rfl)) (wa_nil))) (we_one (we_chain (op_leD hr.units0) z_le (op_leD hr.units0) z_le (we_var (i := 1) rfl (.inl rfl)) (we_var (i := 0) rfl (.inl rfl)) (we_var (i := 2) rfl (.inl rfl))))))
theorem ok_f_law_is_rising (T : Txt K mg) : FnG P w K mg base CX0 2 T.a_f_law_is_rising T.d_f_law_is_rising ["_law_thing", "_law_high"] (spOf K S_f_law_is_rising) := by
  refine fn_ok T.F_f_law_is_rising sc_f_law_is_rising rfl (fun cdv A outer s H E hr hgd => ?_) vc_f_law_is_rising
  have nd := sc_f_law_is_rising.nd
  exact wb_cons (ws_if (wt_not (wt_val (we_isi tok_tuple (by rfl) T.n_isinstance (by rfl) T.n_tuple bb_tuple (we_var (i := 0) rfl (.inl rfl))))) (wb_one (ws_ret (we_bl))) (wb_nil)) (wb_cons (ws_set (i := 2) nd rfl (.inl rfl) (we_int)) (wb_cons (ws_for PassesOwn.never rfl (wi_seq (we_var (i := 0) rfl (.inl rfl))) (wg_name (i := 3) nd rfl (.inl rfl)) (wb_cons (ws_if (wt_not (wt_val (we_call (ok_f_law_is_from T) (hr.mono (by decide)) hgd (by rfl) T.m_f_law_is_from T.F_f_law_is_from.kp T.b_f_law_is_from (wa_cons (we_var (i := 3) rfl (.inl rfl)) (wa_cons (we_var (i := 2) rfl (.inl rfl)) (wa_cons (we_var (i := 1) rfl (.inl rfl)) (wa_nil))))))) (wb_one (ws_ret (we_bl))) (wb_nil)) (wb_one (ws_set (i := 2) nd rfl (.inl rfl) (we_op op_addD z_add (we_var (i := 3) rfl (.inl rfl)) (we_int)))))) (wb_one (ws_ret (we_bl)))))
theorem ok_f_law_rows_of (T : Txt K mg) : FnG P w K mg base CX0 2 T.a_f_law_rows_of T.d_f_law_rows_of ["_law_deck_here", "_law_high", "_law_some"] (spOf K S_f_law_rows_of) := by
  refine fn_ok T.F_f_law_rows_of sc_f_law_rows_of rfl (fun cdv A outer s H E hr hgd => ?_) vc_f_law_rows_of
  have nd := sc_f_law_rows_of.nd
  exact wb_one (ws_ret (we_callX z_tuple (fun h => pe_callTy call_tupleX (by rfl) T.n_tuple bb_tuple h) (wa_cons (we_lc (m := false) (t := (.nm 3)) (own := [("_law_one", 3)]) rfl nd (wi_range1 (by rfl) T.n_range (wa_cons (we_op op_addD z_add (we_var (i := 1) rfl (.inl rfl)) (we_int)) (wa_nil))) (blkOk_by (own := [("_law_one", 3)]) (N := N_f_law_rows_of) (by kernel_rfl)) (by simp [Tg.ix]) (fun _ _ _ _ _ => pg_name (i := 3) nd rfl (.inl rfl)) (fun _ _ _ _ _ => wts_one (wt_cmp (op_eqC hr.units) z_eqB (we_op op_mod z_mod (we_call (ok_f_law_next T) (hr.mono (by decide)) hgd (by rfl) T.m_f_law_next T.F_f_law_next.kp T.b_f_law_next (wa_cons (we_var (i := 0) rfl (.inr (.inl rfl))) (wa_nil))) (we_var (i := 2) rfl (.inr (.inl rfl)))) (we_int) ((nomark _)))) (fun _ _ _ _ _ => we_var (i := 3) rfl (.inl rfl))) (wa_nil))))
theorem ok_f_law_wish (T : Txt K mg) : FnG P w K mg base CX0 2 T.a_f_law_wish T.d_f_law_wish ["_law_deck_here", "_law_works", "_law_days"] (spOf K S_f_law_wish) := by
  refine fn_ok T.F_f_law_wish sc_f_law_wish rfl (fun cdv A outer s H E hr hgd => ?_) vc_f_law_wish
  have nd := sc_f_law_wish.nd
  exact wb_cons (ws_set (i := 3) nd rfl (.inl rfl) (we_ix (we_lst (m := false) (wa_cons (we_int) (wa_cons (we_int) (wa_cons (we_int) (wa_nil))))) (we_op op_mod z_mod (we_call (ok_f_law_next T) (hr.mono (by decide)) hgd (by rfl) T.m_f_law_next T.F_f_law_next.kp T.b_f_law_next (wa_cons (we_var (i := 0) rfl (.inl rfl)) (wa_nil))) (we_int)))) (wb_cons (ws_set (i := 4) nd rfl (.inl rfl) (we_ix (we_lst (m := false) (wa_cons (we_op op_addD z_add (we_int) (we_op op_mod z_mod (we_call (ok_f_law_next T) (hr.mono (by decide)) hgd (by rfl) T.m_f_law_next T.F_f_law_next.kp T.b_f_law_next (wa_cons (we_var (i := 0) rfl (.inl rfl)) (wa_nil))) (we_int))) (wa_cons (we_op op_addD z_add (we_int) (we_op op_mod z_mod (we_call (ok_f_law_next T) (hr.mono (by decide)) hgd (by rfl) T.m_f_law_next T.F_f_law_next.kp T.b_f_law_next (wa_cons (we_var (i := 0) rfl (.inl rfl)) (wa_nil))) (we_int))) (wa_nil)))) (we_op op_mod z_mod (we_call (ok_f_law_next T) (hr.mono (by decide)) hgd (by rfl) T.m_f_law_next T.F_f_law_next.kp T.b_f_law_next (wa_cons (we_var (i := 0) rfl (.inl rfl)) (wa_nil))) (we_int)))) (wb_one (ws_ret (we_tup (wa_cons (we_op op_mod z_mod (we_call (ok_f_law_next T) (hr.mono (by decide)) hgd (by rfl) T.m_f_law_next T.F_f_law_next.kp T.b_f_law_next (wa_cons (we_var (i := 0) rfl (.inl rfl)) (wa_nil))) (we_var (i := 1) rfl (.inl rfl))) (wa_cons (we_op op_mod z_mod (we_call (ok_f_law_next T) (hr.mono (by decide)) hgd (by rfl) T.m_f_law_next T.F_f_law_next.kp T.b_f_law_next (wa_cons (we_var (i := 0) rfl (.inl rfl)) (wa_nil))) (we_int)) (wa_cons (we_op op_mod z_mod (we_call (ok_f_law_next T) (hr.mono (by decide)) hgd (by rfl) T.m_f_law_next T.F_f_law_next.kp T.b_f_law_next (wa_cons (we_var (i := 0) rfl (.inl rfl)) (wa_nil))) (we_op op_addD z_add (we_var (i := 2) rfl (.inl rfl)) (we_int))) (wa_cons (we_var (i := 4) rfl (.inl rfl)) (wa_cons (we_op op_mod z_mod (we_call (ok_f_law_next T) (hr.mono (by decide)) hgd (by rfl) T.m_f_law_next T.F_f_law_next.kp T.b_f_law_next (wa_cons (we_var (i := 0) rfl (.inl rfl)) (wa_nil))) (we_var (i := 3) rfl (.inl rfl))) (wa_nil))))))))))
theorem ok_f_law_is_wish (T : Txt K mg) : FnG P w K mg base CX0 2 T.a_f_law_is_wish T.d_f_law_is_wish ["_law_thing", "_law_days", "_law_works"] (spOf K S_f_law_is_wish) := by
  refine fn_ok T.F_f_law_is_wish sc_f_law_is_wish rfl (fun cdv A outer s H E hr hgd => ?_) vc_f_law_is_wish
  have nd := sc_f_law_is_wish.nd
  exact wb_cons (ws_if ((ww_or (wt_not (wt_val (we_isi tok_tuple (by rfl) T.n_isinstance (by rfl) T.n_tuple bb_tuple (we_var (i := 0) rfl (.inr (.inl rfl)))))) (ww_or1 (wt_cmp (op_neC hr.units) z_eqB (we_callX z_len (fun h => pe_callB (CallR.or call_len_seq call_len_str) (by rfl) T.n_len bb_len h) (wa_cons (we_var (i := 0) rfl (.inr (.inl rfl))) (wa_nil))) (we_int) ((nomark _))))).wt) (wb_one (ws_ret (we_bl))) (wb_nil)) (wb_cons (ws_set (i := 3) nd rfl (.inr rfl) (we_lst (m := false) (wa_cons (we_op op_sub z_sub (we_var (i := 2) rfl (.inl rfl)) (we_int)) (wa_cons (we_int) (wa_cons (we_var (i := 1) rfl (.inl rfl)) (wa_cons (we_int) (wa_cons (we_int) (wa_nil)))))))) (wb_one (ws_ret (we_cmp (op_eqC hr.units) z_eqB (we_lc (m := false) (t := (.nm 4)) (own := [("_law_k", 4)]) rfl nd (wi_range1 (by rfl) T.n_range (wa_cons (we_int) (wa_nil))) (blkOk_by (own := [("_law_k", 4)]) (N := N_f_law_is_wish) (by kernel_rfl)) (by simp [Tg.ix]) (fun _ _ _ _ _ => pg_name (i := 4) nd rfl (.inl rfl)) (fun _ _ _ _ _ => wts_one (wt_not (wt_val (we_call (ok_f_law_is_from T) (hr.mono (by decide)) hgd (by rfl) T.m_f_law_is_from T.F_f_law_is_from.kp T.b_f_law_is_from (wa_cons (we_ix (we_var (i := 0) rfl (.inr (.inl rfl))) (we_var (i := 4) rfl (.inl rfl))) (wa_cons (we_callX z_int (fun h => pe_callTy call_int1 (by rfl) T.n_int bb_int h) (wa_cons (we_cmp (op_eqC hr.units) z_eqB (we_var (i := 4) rfl (.inl rfl)) (we_int) ((nomark _))) (wa_nil))) (wa_cons (we_ix (we_var (i := 3) rfl (.inr (.inl rfl))) (we_var (i := 4) rfl (.inl rfl))) (wa_nil)))))))) (fun _ _ _ _ _ => we_var (i := 4) rfl (.inl rfl))) (we_lst (m := false) (wa_nil)) ((nomark _))))))
theorem ok_p_is_rising (T : Txt K mg) : FnG P w K mg base CX0 3 T.a_p_is_rising T.d_p_is_rising ["thing", "high"] (spOf K S_p_is_rising) := by
  refine fn_ok T.F_p_is_rising sc_p_is_rising rfl (fun cdv A outer s H E hr hgd => ?_) vc_p_is_rising
  have nd := sc_p_is_rising.nd
  exact wb_cons (ws_if ((ww_or (wt_not (wt_val (we_isi tok_tuple (by rfl) T.n_isinstance (by rfl) T.n_tuple bb_tuple (we_var (i := 0) rfl (.inl rfl))))) (ww_or1 (wt_not (wt_val (we_callX z_all (fun h => pe_callB (cr_all rfl) (by rfl) T.n_all bb_all h) (wa_cons (we_lc (m := false) (t := (.nm 2)) (own := [("one", 2)]) rfl nd (wi_seq (we_var (i := 0) rfl (.inl rfl))) (blkOk_by (own := [("one", 2)]) (N := N_p_is_rising) (by kernel_rfl)) (by simp [Tg.ix]) (fun _ _ _ _ _ => pg_name (i := 2) nd rfl (.inl rfl)) (fun _ _ _ _ _ => wts_nil) (fun _ _ _ _ _ => we_call (ok_p_is_from T) (hr.mono (by decide)) hgd (by rfl) T.m_p_is_from T.F_p_is_from.kp T.b_p_is_from (wa_cons (we_var (i := 2) rfl (.inl rfl)) (wa_cons (we_int) (wa_cons (we_var (i := 1) rfl (.inr (.inl rfl))) (wa_nil)))))) (wa_nil))))))).wt) (wb_one (ws_ret (we_bl))) (wb_nil)) (wb_one (ws_ret (we_callX z_all (fun h => pe_callB (cr_all rfl) (by rfl) T.n_all bb_all h) (wa_cons (we_lc (m := false) (t := (.tp [2, 3])) (own := [("one", 2), ("other", 3)]) rfl nd (wi_zip (by rfl) T.n_zip (we_sl (m := false) (we_var (i := 0) rfl (.inl rfl)) wo_none (wo_some (we_neg (we_int)))) (we_sl (m := false) (we_var (i := 0) rfl (.inl rfl)) (wo_some (we_int)) wo_none)) (blkOk_by (own := [("one", 2), ("other", 3)]) (N := N_p_is_rising) (by kernel_rfl)) (by simp [Tg.ix]) (fun _ _ _ _ _ => pg_tup rfl (pgs_cons (pg_name (i := 2) nd rfl (.inl rfl)) (pgs_cons (pg_name (i := 3) nd rfl (.inl rfl)) (pgs_nil)))) (fun _ _ _ _ _ => wts_nil) (fun _ _ _ _ _ => we_cmp (op_ltD hr.units0) z_lt (we_var (i := 2) rfl (.inl rfl)) (we_var (i := 3) rfl (.inl rfl)) ((nomark _)))) (wa_nil)))))
theorem ok_p_is_wish (T : Txt K mg) : FnG P w K mg base CX0 3 T.a_p_is_wish T.d_p_is_wish ["thing", "days", "works"] (spOf K S_p_is_wish) := by
  refine fn_ok T.F_p_is_wish sc_p_is_wish rfl (fun cdv A outer s H E hr hgd => ?_) vc_p_is_wish
  have nd := sc_p_is_wish.nd
  exact wb_cons (ws_if ((ww_or (wt_not (wt_val (we_isi tok_tuple (by rfl) T.n_isinstance (by rfl) T.n_tuple bb_tuple (we_var (i := 0) rfl (.inl rfl))))) (ww_or1 (wt_cmp (op_neC hr.units) z_eqB (we_callX z_len (fun h => pe_callB (CallR.or call_len_seq call_len_str) (by rfl) T.n_len bb_len h) (wa_cons (we_var (i := 0) rfl (.inl rfl)) (wa_nil))) (we_int) ((nomark _))))).wt) (wb_one (ws_ret (we_bl))) (wb_nil)) (wb_cons (ws_asg (we_var (i := 0) rfl (.inl rfl)) (wg_tup rfl (wgs_cons (wg_name (i := 3) nd rfl (.inl rfl)) (wgs_cons (wg_name (i := 4) nd rfl (.inl rfl)) (wgs_cons (wg_name (i := 5) nd rfl (.inl rfl)) (wgs_cons (wg_name (i := 6) nd rfl (.inl rfl)) (wgs_cons (wg_name (i := 7) nd rfl (.inl rfl)) (wgs_nil)))))))) (wb_cons (ws_if ((ww_or (wt_not (wt_val (we_call (ok_p_is_from T) (hr.mono (by decide)) hgd (by rfl) T.m_p_is_from T.F_p_is_from.kp T.b_p_is_from (wa_cons (we_var (i := 3) rfl (.inl rfl)) (wa_cons (we_int) (wa_cons (we_op op_sub z_sub (we_var (i := 2) rfl (.inl rfl)) (we_int)) (wa_nil))))))) (ww_or (wt_not (wt_val (we_call (ok_p_is_from T) (hr.mono (by decide)) hgd (by rfl) T.m_p_is_from T.F_p_is_from.kp T.b_p_is_from (wa_cons (we_var (i := 4) rfl (.inl rfl)) (wa_cons (we_int) (wa_cons (we_int) (wa_nil))))))) (ww_or1 (wt_not (wt_val (we_call (ok_p_is_from T) (hr.mono (by decide)) hgd (by rfl) T.m_p_is_from T.F_p_is_from.kp T.b_p_is_from (wa_cons (we_var (i := 5) rfl (.inl rfl)) (wa_cons (we_int) (wa_cons (we_var (i := 1) rfl (.inl rfl)) (wa_nil)))))))))).wt) (wb_one (ws_ret (we_bl))) (wb_nil)) (wb_one (ws_ret (we_and (we_call (ok_p_is_from T) (hr.mono (by decide)) hgd (by rfl) T.m_p_is_from T.F_p_is_from.kp T.b_p_is_from (wa_cons (we_var (i := 6) rfl (.inl rfl)) (wa_cons (we_int) (wa_cons (we_gint (by rfl) T.g_MOST_WEIGHT) (wa_nil))))) (we_one (we_call (ok_p_is_from T) (hr.mono (by decide)) hgd (by rfl) T.m_p_is_from T.F_p_is_from.kp T.b_p_is_from (wa_cons (we_var (i := 7) rfl (.inl rfl)) (wa_cons (we_int) (wa_cons (we_op op_sub z_sub (we_gint (by rfl) T.g_RANKS) (we_int)) (wa_nil)))))))))))
theorem ok_p_is_place (T : Txt K mg) : FnG P w K mg base CX0 3 T.a_p_is_place T.d_p_is_place ["parts", "row"] (spOf K S_p_is_place) := by
  refine fn_ok T.F_p_is_place sc_p_is_place rfl (fun cdv A outer s H E hr hgd => ?_) vc_p_is_place
  have nd := sc_p_is_place.nd
  exact wb_one (ws_ret (we_and (we_cmp (op_eqC hr.units) z_eqB (we_callX z_len (fun h => pe_callB (CallR.or call_len_seq call_len_str) (by rfl) T.n_len bb_len h) (wa_cons (we_var (i := 0) rfl (.inl rfl)) (wa_nil))) (we_int) ((nomark _))) (we_one (we_call (ok_p_is_from T) (hr.mono (by decide)) hgd (by rfl) T.m_p_is_from T.F_p_is_from.kp T.b_p_is_from (wa_cons (we_ix (we_var (i := 0) rfl (.inl rfl)) (we_int)) (wa_cons (we_int) (wa_cons (we_op op_sub z_sub (we_callX z_len (fun h => pe_callB (CallR.or call_len_seq call_len_str) (by rfl) T.n_len bb_len h) (wa_cons (we_var (i := 1) rfl (.inl rfl)) (wa_nil))) (we_int)) (wa_nil))))))))
theorem ok_p_is_longer (T : Txt K mg) : FnG P w K mg base CX0 3 T.a_p_is_longer T.d_p_is_longer ["system", "parts"] (spOf K S_p_is_longer) := by
  refine fn_ok T.F_p_is_longer sc_p_is_longer rfl (fun cdv A outer s H E hr hgd => ?_) vc_p_is_longer
  have nd := sc_p_is_longer.nd
  exact wb_cons (ws_if ((ww_or (wt_cmp (op_neC hr.units) z_eqB (we_callX z_len (fun h => pe_callB (CallR.or call_len_seq call_len_str) (by rfl) T.n_len bb_len h) (wa_cons (we_var (i := 1) rfl (.inl rfl)) (wa_nil))) (we_int) ((nomark _))) (ww_or1 (wt_not (wt_val (we_call (ok_p_is_from T) (hr.mono (by decide)) hgd (by rfl) T.m_p_is_from T.F_p_is_from.kp T.b_p_is_from (wa_cons (we_ix (we_var (i := 1) rfl (.inl rfl)) (we_int)) (wa_cons (we_int) (wa_cons (we_op op_sub z_sub (we_callX z_len (fun h => pe_callB (CallR.or call_len_seq call_len_str) (by rfl) T.n_len bb_len h) (wa_cons (we_ix (we_var (i := 0) rfl (.inl rfl)) (we_int)) (wa_nil))) (we_int)) (wa_nil))))))))).wt) (wb_one (ws_ret (we_bl))) (wb_nil)) (wb_one (ws_ret (we_call (ok_p_is_from T) (hr.mono (by decide)) hgd (by rfl) T.m_p_is_from T.F_p_is_from.kp T.b_p_is_from (wa_cons (we_ix (we_var (i := 1) rfl (.inl rfl)) (we_int)) (wa_cons (we_op op_addD z_add (we_ix (we_ix (we_ix (we_var (i := 0) rfl (.inl rfl)) (we_int)) (we_ix (we_var (i := 1) rfl (.inl rfl)) (we_int))) (we_int)) (we_int)) (wa_cons (we_gint (by rfl) T.g_MOST_LENGTH) (wa_nil)))))))
theorem ok_p_is_away (T : Txt K mg) : FnG P w K mg base CX0 3 T.a_p_is_away T.d_p_is_away ["system", "parts"] (spOf K S_p_is_away) := by
  refine fn_ok T.F_p_is_away sc_p_is_away rfl (fun cdv A outer s H E hr hgd => ?_) vc_p_is_away
  have nd := sc_p_is_away.nd
  exact wb_cons (ws_if ((ww_or (wt_cmp (op_neC hr.units) z_eqB (we_callX z_len (fun h => pe_callB (CallR.or call_len_seq call_len_str) (by rfl) T.n_len bb_len h) (wa_cons (we_var (i := 1) rfl (.inl rfl)) (wa_nil))) (we_int) ((nomark _))) (ww_or1 (wt_not (wt_val (we_call (ok_p_is_from T) (hr.mono (by decide)) hgd (by rfl) T.m_p_is_from T.F_p_is_from.kp T.b_p_is_from (wa_cons (we_ix (we_var (i := 1) rfl (.inl rfl)) (we_int)) (wa_cons (we_int) (wa_cons (we_op op_sub z_sub (we_callX z_len (fun h => pe_callB (CallR.or call_len_seq call_len_str) (by rfl) T.n_len bb_len h) (wa_cons (we_ix (we_var (i := 0) rfl (.inl rfl)) (we_int)) (wa_nil))) (we_int)) (wa_nil))))))))).wt) (wb_one (ws_ret (we_bl))) (wb_nil)) (wb_one (ws_ret (we_and (we_call (ok_p_is_from T) (hr.mono (by decide)) hgd (by rfl) T.m_p_is_from T.F_p_is_from.kp T.b_p_is_from (wa_cons (we_ix (we_var (i := 1) rfl (.inl rfl)) (we_int)) (wa_cons (we_int) (wa_cons (we_op op_sub z_sub (we_ix (we_var (i := 0) rfl (.inl rfl)) (we_int)) (we_int)) (wa_nil))))) (we_one (we_call (ok_p_is_from T) (hr.mono (by decide)) hgd (by rfl) T.m_p_is_from T.F_p_is_from.kp T.b_p_is_from (wa_cons (we_ix (we_var (i := 1) rfl (.inl rfl)) (we_int)) (wa_cons (we_op op_addD z_add (we_ix (we_var (i := 1) rfl (.inl rfl)) (we_int)) (we_int)) (wa_cons (we_ix (we_var (i := 0) rfl (.inl rfl)) (we_int)) (wa_nil)))))))))
theorem ok_f_law_work (T : Txt K mg) : FnG P w K mg base CX0 3 T.a_f_law_work T.d_f_law_work ["_law_deck_here", "_law_number", "_law_hands", "_law_length"] (spOf K S_f_law_work) := by
  refine fn_ok T.F_f_law_work sc_f_law_work rfl (fun cdv A outer s H E hr hgd => ?_) vc_f_law_work
  have nd := sc_f_law_work.nd
  exact wb_cons (ws_set (i := 4) nd rfl (.inl rfl) (we_op op_addD z_add (we_int) (we_op op_mod z_mod (we_call (ok_f_law_next T) (hr.mono (by decide)) hgd (by rfl) T.m_f_law_next T.F_f_law_next.kp T.b_f_law_next (wa_cons (we_var (i := 0) rfl (.inr (.inl rfl))) (wa_nil))) (we_var (i := 3) rfl (.inl rfl))))) (wb_cons (ws_set (i := 5) nd rfl (.inl rfl) (we_call (ok_f_law_rows_of T) (hr.mono (by decide)) hgd (by rfl) T.m_f_law_rows_of T.F_f_law_rows_of.kp T.b_f_law_rows_of (wa_cons (we_var (i := 0) rfl (.inr (.inl rfl))) (wa_cons (we_op op_sub z_sub (we_var (i := 1) rfl (.inl rfl)) (we_int)) (wa_cons (we_ix (we_lst (m := false) (wa_cons (we_int) (wa_cons (we_int) (wa_cons (we_int) (wa_nil))))) (we_op op_mod z_mod (we_call (ok_f_law_next T) (hr.mono (by decide)) hgd (by rfl) T.m_f_law_next T.F_f_law_next.kp T.b_f_law_next (wa_cons (we_var (i := 0) rfl (.inr (.inl rfl))) (wa_nil))) (we_int))) (wa_nil)))))) (wb_cons (ws_set (i := 6) nd rfl (.inr rfl) (we_op op_mod z_mod (we_call (ok_f_law_next T) (hr.mono (by decide)) hgd (by rfl) T.m_f_law_next T.F_f_law_next.kp T.b_f_law_next (wa_cons (we_var (i := 0) rfl (.inr (.inl rfl))) (wa_nil))) (we_int))) (wb_cons (ws_set (i := 7) nd rfl (.inl rfl) (we_callX z_tuple (fun h => pe_callTy call_tupleX (by rfl) T.n_tuple bb_tuple h) (wa_cons (we_lc (m := false) (t := (.nm 8)) (own := [("_law_hand", 8)]) rfl nd (wi_range1 (by rfl) T.n_range (wa_cons (we_var (i := 2) rfl (.inl rfl)) (wa_nil))) (blkOk_by (own := [("_law_hand", 8)]) (N := N_f_law_work) (by kernel_rfl)) (by simp [Tg.ix]) (fun _ _ _ _ _ => pg_name (i := 8) nd rfl (.inl rfl)) (fun _ _ _ _ _ => wts_one ((ww_or (wt_cmp (op_eqC hr.units) z_eqB (we_var (i := 6) rfl (.inr (.inl rfl))) (we_int) ((nomark _))) (ww_or1 (wt_cmp (op_eqC hr.units) z_eqB (we_op op_mod z_mod (we_call (ok_f_law_next T) (hr.mono (by decide)) hgd (by rfl) T.m_f_law_next T.F_f_law_next.kp T.b_f_law_next (wa_cons (we_var (i := 0) rfl (.inr (.inl rfl))) (wa_nil))) (we_int)) (we_int) ((nomark _))))).wt)) (fun _ _ _ _ _ => we_var (i := 8) rfl (.inl rfl))) (wa_nil)))) (wb_cons (ws_if (wt_cmp (op_eqC hr.units) z_eqB (we_var (i := 7) rfl (.inl rfl)) (we_tup (wa_nil)) ((nomark _))) (wb_one (ws_set (i := 7) nd rfl (.inl rfl) (we_tup (wa_cons (we_op op_mod z_mod (we_call (ok_f_law_next T) (hr.mono (by decide)) hgd (by rfl) T.m_f_law_next T.F_f_law_next.kp T.b_f_law_next (wa_cons (we_var (i := 0) rfl (.inr (.inl rfl))) (wa_nil))) (we_var (i := 2) rfl (.inl rfl))) (wa_nil))))) (wb_nil)) (wb_one (ws_ret (we_tup (wa_cons (we_var (i := 4) rfl (.inl rfl)) (wa_cons (we_var (i := 5) rfl (.inl rfl)) (wa_cons (we_var (i := 7) rfl (.inl rfl)) (wa_nil)))))))))))
theorem ok_f_law_is_work (T : Txt K mg) : FnG P w K mg base CX0 3 T.a_f_law_is_work T.d_f_law_is_work ["_law_thing", "_law_number", "_law_hands"] (spOf K S_f_law_is_work) := by
  refine fn_ok T.F_f_law_is_work sc_f_law_is_work rfl (fun cdv A outer s H E hr hgd => ?_) vc_f_law_is_work
  have nd := sc_f_law_is_work.nd
  exact wb_cons (ws_if ((ww_or (wt_not (wt_val (we_isi tok_tuple (by rfl) T.n_isinstance (by rfl) T.n_tuple bb_tuple (we_var (i := 0) rfl (.inl rfl))))) (ww_or1 (wt_cmp (op_neC hr.units) z_eqB (we_callX z_len (fun h => pe_callB (CallR.or call_len_seq call_len_str) (by rfl) T.n_len bb_len h) (wa_cons (we_var (i := 0) rfl (.inl rfl)) (wa_nil))) (we_int) ((nomark _))))).wt) (wb_one (ws_ret (we_bl))) (wb_nil)) (wb_cons (ws_if ((ww_or (wt_not (wt_val (we_call (ok_f_law_is_from T) (hr.mono (by decide)) hgd (by rfl) T.m_f_law_is_from T.F_f_law_is_from.kp T.b_f_law_is_from (wa_cons (we_ix (we_var (i := 0) rfl (.inl rfl)) (we_int)) (wa_cons (we_int) (wa_cons (we_int) (wa_nil))))))) (ww_or1 (wt_not (wt_val (we_call (ok_f_law_is_rising T) (hr.mono (by decide)) hgd (by rfl) T.m_f_law_is_rising T.F_f_law_is_rising.kp T.b_f_law_is_rising (wa_cons (we_ix (we_var (i := 0) rfl (.inl rfl)) (we_int)) (wa_cons (we_op op_sub z_sub (we_var (i := 1) rfl (.inl rfl)) (we_int)) (wa_nil)))))))).wt) (wb_one (ws_ret (we_bl))) (wb_nil)) (wb_one (ws_ret (we_and (we_call (ok_f_law_is_rising T) (hr.mono (by decide)) hgd (by rfl) T.m_f_law_is_rising T.F_f_law_is_rising.kp T.b_f_law_is_rising (wa_cons (we_ix (we_var (i := 0) rfl (.inl rfl)) (we_int)) (wa_cons (we_op op_sub z_sub (we_var (i := 2) rfl (.inl rfl)) (we_int)) (wa_nil)))) (we_one (we_cmp (op_neC hr.units) z_eqB (we_ix (we_var (i := 0) rfl (.inl rfl)) (we_int)) (we_tup (wa_nil)) ((nomark _))))))))
theorem ok_p_is_work (T : Txt K mg) : FnG P w K mg base CX0 4 T.a_p_is_work T.d_p_is_work ["thing", "number", "hands"] (spOf K S_p_is_work) := by
  refine fn_ok T.F_p_is_work sc_p_is_work rfl (fun cdv A outer s H E hr hgd => ?_) vc_p_is_work
  have nd := sc_p_is_work.nd
  exact wb_cons (ws_if ((ww_or (wt_not (wt_val (we_isi tok_tuple (by rfl) T.n_isinstance (by rfl) T.n_tuple bb_tuple (we_var (i := 0) rfl (.inl rfl))))) (ww_or1 (wt_cmp (op_neC hr.units) z_eqB (we_callX z_len (fun h => pe_callB (CallR.or call_len_seq call_len_str) (by rfl) T.n_len bb_len h) (wa_cons (we_var (i := 0) rfl (.inl rfl)) (wa_nil))) (we_int) ((nomark _))))).wt) (wb_one (ws_ret (we_bl))) (wb_nil)) (wb_cons (ws_asg (we_var (i := 0) rfl (.inl rfl)) (wg_tup rfl (wgs_cons (wg_name (i := 3) nd rfl (.inl rfl)) (wgs_cons (wg_name (i := 4) nd rfl (.inl rfl)) (wgs_cons (wg_name (i := 5) nd rfl (.inl rfl)) (wgs_nil)))))) (wb_cons (ws_if ((ww_or (wt_not (wt_val (we_call (ok_p_is_from T) (hr.mono (by decide)) hgd (by rfl) T.m_p_is_from T.F_p_is_from.kp T.b_p_is_from (wa_cons (we_var (i := 3) rfl (.inl rfl)) (wa_cons (we_int) (wa_cons (we_gint (by rfl) T.g_MOST_LENGTH) (wa_nil))))))) (ww_or1 (wt_not (wt_val (we_call (ok_p_is_rising T) (hr.mono (by decide)) hgd (by rfl) T.m_p_is_rising T.F_p_is_rising.kp T.b_p_is_rising (wa_cons (we_var (i := 4) rfl (.inl rfl)) (wa_cons (we_op op_sub z_sub (we_var (i := 1) rfl (.inl rfl)) (we_int)) (wa_nil)))))))).wt) (wb_one (ws_ret (we_bl))) (wb_nil)) (wb_one (ws_ret (we_and (we_call (ok_p_is_rising T) (hr.mono (by decide)) hgd (by rfl) T.m_p_is_rising T.F_p_is_rising.kp T.b_p_is_rising (wa_cons (we_var (i := 5) rfl (.inl rfl)) (wa_cons (we_op op_sub z_sub (we_var (i := 2) rfl (.inl rfl)) (we_int)) (wa_nil)))) (we_one (we_cmp (op_gtD hr.units0) z_gt (we_callX z_len (fun h => pe_callB (CallR.or call_len_seq call_len_str) (by rfl) T.n_len bb_len h) (wa_cons (we_var (i := 5) rfl (.inl rfl)) (wa_nil))) (we_int) ((nomark _)))))))))
theorem ok_p_is_wish_more (T : Txt K mg) : FnG P w K mg base CX0 4 T.a_p_is_wish_more T.d_p_is_wish_more ["system", "parts"] (spOf K S_p_is_wish_more) := by
  refine fn_ok T.F_p_is_wish_more sc_p_is_wish_more rfl (fun cdv A outer s H E hr hgd => ?_) vc_p_is_wish_more
  have nd := sc_p_is_wish_more.nd
  exact wb_one (ws_ret (we_and (we_cmp (op_ltD hr.units0) z_lt (we_callX z_len (fun h => pe_callB (CallR.or call_len_seq call_len_str) (by rfl) T.n_len bb_len h) (wa_cons (we_ix (we_var (i := 0) rfl (.inl rfl)) (we_int)) (wa_nil))) (we_gint (by rfl) T.g_MOST_WISHES) ((nomark _))) (we_one (we_call (ok_p_is_wish T) (hr.mono (by decide)) hgd (by rfl) T.m_p_is_wish T.F_p_is_wish.kp T.b_p_is_wish (wa_cons (we_var (i := 1) rfl (.inl rfl)) (wa_cons (we_ix (we_var (i := 0) rfl (.inl rfl)) (we_int)) (wa_cons (we_callX z_len (fun h => pe_callB (CallR.or call_len_seq call_len_str) (by rfl) T.n_len bb_len h) (wa_cons (we_ix (we_var (i := 0) rfl (.inl rfl)) (we_int)) (wa_nil))) (wa_nil))))))))
theorem ok_p_is_hand_more (T : Txt K mg) : FnG P w K mg base CX0 4 T.a_p_is_hand_more T.d_p_is_hand_more ["system", "parts"] (spOf K S_p_is_hand_more) := by
  refine fn_ok T.F_p_is_hand_more sc_p_is_hand_more rfl (fun cdv A outer s H E hr hgd => ?_) vc_p_is_hand_more
  have nd := sc_p_is_hand_more.nd
  exact wb_cons (ws_if ((ww_or (wt_cmp (op_neC hr.units) z_eqB (we_callX z_len (fun h => pe_callB (CallR.or call_len_seq call_len_str) (by rfl) T.n_len bb_len h) (wa_cons (we_var (i := 1) rfl (.inl rfl)) (wa_nil))) (we_int) ((nomark _))) (ww_or1 (wt_cmp (op_eqC hr.units) z_eqB (we_callX z_len (fun h => pe_callB (CallR.or call_len_seq call_len_str) (by rfl) T.n_len bb_len h) (wa_cons (we_ix (we_var (i := 0) rfl (.inl rfl)) (we_int)) (wa_nil))) (we_gint (by rfl) T.g_MOST_HANDS) ((nomark _))))).wt) (wb_one (ws_ret (we_bl))) (wb_nil)) (wb_one (ws_ret (we_and (we_call (ok_p_is_rising T) (hr.mono (by decide)) hgd (by rfl) T.m_p_is_rising T.F_p_is_rising.kp T.b_p_is_rising (wa_cons (we_ix (we_var (i := 1) rfl (.inl rfl)) (we_int)) (wa_cons (we_op op_sub z_sub (we_ix (we_var (i := 0) rfl (.inl rfl)) (we_int)) (we_int)) (wa_nil)))) (we_one (we_call (ok_p_is_rising T) (hr.mono (by decide)) hgd (by rfl) T.m_p_is_rising T.F_p_is_rising.kp T.b_p_is_rising (wa_cons (we_ix (we_var (i := 1) rfl (.inl rfl)) (we_int)) (wa_cons (we_op op_sub z_sub (we_callX z_len (fun h => pe_callB (CallR.or call_len_seq call_len_str) (by rfl) T.n_len bb_len h) (wa_cons (we_ix (we_var (i := 0) rfl (.inl rfl)) (we_int)) (wa_nil))) (we_int)) (wa_nil))))))))
theorem ok_f_law_system (T : Txt K mg) : FnG P w K mg base CX0 4 T.a_f_law_system T.d_f_law_system ["_law_deck_here", "_law_days", "_law_hands", "_law_works", "_law_length", "_law_wishes"] (spOf K S_f_law_system) := by
  refine fn_ok T.F_f_law_system sc_f_law_system rfl (fun cdv A outer s H E hr hgd => ?_) vc_f_law_system
  have nd := sc_f_law_system.nd
  exact wb_cons (ws_set (i := 6) nd rfl (.inr rfl) (we_op op_addD z_add (we_int) (we_op op_mod z_mod (we_call (ok_f_law_next T) (hr.mono (by decide)) hgd (by rfl) T.m_f_law_next T.F_f_law_next.kp T.b_f_law_next (wa_cons (we_var (i := 0) rfl (.inr (.inl rfl))) (wa_nil))) (we_var (i := 1) rfl (.inl rfl))))) (wb_cons (ws_set (i := 7) nd rfl (.inr rfl) (we_ix (we_lst (m := false) (wa_cons (we_int) (wa_cons (we_int) (wa_cons (we_int) (wa_nil))))) (we_op op_mod z_mod (we_call (ok_f_law_next T) (hr.mono (by decide)) hgd (by rfl) T.m_f_law_next T.F_f_law_next.kp T.b_f_law_next (wa_cons (we_var (i := 0) rfl (.inr (.inl rfl))) (wa_nil))) (we_int)))) (wb_cons (ws_set (i := 8) nd rfl (.inr rfl) (we_callX z_tuple (fun h => pe_callTy call_tupleX (by rfl) T.n_tuple bb_tuple h) (wa_cons (we_lc (m := false) (t := (.nm 13)) (own := [("_law_hand", 13)]) rfl nd (wi_range1 (by rfl) T.n_range (wa_cons (we_op op_addD z_add (we_int) (we_op op_mod z_mod (we_call (ok_f_law_next T) (hr.mono (by decide)) hgd (by rfl) T.m_f_law_next T.F_f_law_next.kp T.b_f_law_next (wa_cons (we_var (i := 0) rfl (.inr (.inl rfl))) (wa_nil))) (we_var (i := 2) rfl (.inl rfl)))) (wa_nil))) (blkOk_by (own := [("_law_hand", 13)]) (N := N_f_law_system) (by kernel_rfl)) (by simp [Tg.ix]) (fun _ _ _ _ _ => pg_name (i := 13) nd rfl (.inl rfl)) (fun _ _ _ _ _ => wts_nil) (fun _ _ _ _ _ => we_call (ok_f_law_rows_of T) (hr.mono (by decide)) hgd (by rfl) T.m_f_law_rows_of T.F_f_law_rows_of.kp T.b_f_law_rows_of (wa_cons (we_var (i := 0) rfl (.inr (.inl rfl))) (wa_cons (we_op op_sub z_sub (we_var (i := 6) rfl (.inr (.inl rfl))) (we_int)) (wa_cons (we_var (i := 7) rfl (.inr (.inl rfl))) (wa_nil)))))) (wa_nil)))) (wb_cons (ws_set (i := 9) nd rfl (.inr rfl) (we_op op_mod z_mod (we_call (ok_f_law_next T) (hr.mono (by decide)) hgd (by rfl) T.m_f_law_next T.F_f_law_next.kp T.b_f_law_next (wa_cons (we_var (i := 0) rfl (.inr (.inl rfl))) (wa_nil))) (we_op op_addD z_add (we_var (i := 3) rfl (.inl rfl)) (we_int)))) (wb_cons (ws_set (i := 10) nd rfl (.inr rfl) (we_ix (we_lst (m := false) (wa_cons (we_callX z_min2 (fun h => pe_callB (call_min2 rfl) (by rfl) T.n_min bb_min h) (wa_cons (we_var (i := 4) rfl (.inl rfl)) (wa_cons (we_var (i := 6) rfl (.inr (.inl rfl))) (wa_nil)))) (wa_cons (we_var (i := 4) rfl (.inl rfl)) (wa_nil)))) (we_callX z_int (fun h => pe_callTy call_int1 (by rfl) T.n_int bb_int h) (wa_cons (we_cmp (op_eqC hr.units) z_eqB (we_op op_mod z_mod (we_call (ok_f_law_next T) (hr.mono (by decide)) hgd (by rfl) T.m_f_law_next T.F_f_law_next.kp T.b_f_law_next (wa_cons (we_var (i := 0) rfl (.inr (.inl rfl))) (wa_nil))) (we_int)) (we_int) ((nomark _))) (wa_nil))))) (wb_cons (ws_set (i := 11) nd rfl (.inl rfl) (we_callX z_tuple (fun h => pe_callTy call_tupleX (by rfl) T.n_tuple bb_tuple h) (wa_cons (we_lc (m := false) (t := (.nm 14)) (own := [("_law_work_here", 14)]) rfl nd (wi_range1 (by rfl) T.n_range (wa_cons (we_var (i := 9) rfl (.inr (.inl rfl))) (wa_nil))) (blkOk_by (own := [("_law_work_here", 14)]) (N := N_f_law_system) (by kernel_rfl)) (by simp [Tg.ix]) (fun _ _ _ _ _ => pg_name (i := 14) nd rfl (.inl rfl)) (fun _ _ _ _ _ => wts_nil) (fun _ _ _ _ _ => we_call (ok_f_law_work T) (hr.mono (by decide)) hgd (by rfl) T.m_f_law_work T.F_f_law_work.kp T.b_f_law_work (wa_cons (we_var (i := 0) rfl (.inr (.inl rfl))) (wa_cons (we_var (i := 14) rfl (.inl rfl)) (wa_cons (we_callX z_len (fun h => pe_callB (CallR.or call_len_seq call_len_str) (by rfl) T.n_len bb_len h) (wa_cons (we_var (i := 8) rfl (.inr (.inl rfl))) (wa_nil))) (wa_cons (we_var (i := 10) rfl (.inr (.inl rfl))) (wa_nil))))))) (wa_nil)))) (wb_cons (ws_set (i := 12) nd rfl (.inl rfl) (we_op op_mulD z_mul (we_op op_mod z_mod (we_call (ok_f_law_next T) (hr.mono (by decide)) hgd (by rfl) T.m_f_law_next T.F_f_law_next.kp T.b_f_law_next (wa_cons (we_var (i := 0) rfl (.inr (.inl rfl))) (wa_nil))) (we_op op_addD z_add (we_var (i := 5) rfl (.inl rfl)) (we_int))) (we_callX z_int (fun h => pe_callTy call_int1 (by rfl) T.n_int bb_int h) (wa_cons (we_cmp (op_gtD hr.units0) z_gt (we_var (i := 9) rfl (.inr (.inl rfl))) (we_int) ((nomark _))) (wa_nil))))) (wb_one (ws_ret (we_tup (wa_cons (we_var (i := 6) rfl (.inr (.inl rfl))) (wa_cons (we_var (i := 8) rfl (.inr (.inl rfl))) (wa_cons (we_var (i := 11) rfl (.inl rfl)) (wa_cons (we_callX z_tuple (fun h => pe_callTy call_tupleX (by rfl) T.n_tuple bb_tuple h) (wa_cons (we_lc (m := false) (t := (.nm 15)) (own := [("_law_k", 15)]) rfl nd (wi_range1 (by rfl) T.n_range (wa_cons (we_var (i := 12) rfl (.inl rfl)) (wa_nil))) (blkOk_by (own := [("_law_k", 15)]) (N := N_f_law_system) (by kernel_rfl)) (by simp [Tg.ix]) (fun _ _ _ _ _ => pg_name (i := 15) nd rfl (.inl rfl)) (fun _ _ _ _ _ => wts_nil) (fun _ _ _ _ _ => we_call (ok_f_law_wish T) (hr.mono (by decide)) hgd (by rfl) T.m_f_law_wish T.F_f_law_wish.kp T.b_f_law_wish (wa_cons (we_var (i := 0) rfl (.inr (.inl rfl))) (wa_cons (we_var (i := 9) rfl (.inr (.inl rfl))) (wa_cons (we_var (i := 6) rfl (.inr (.inl rfl))) (wa_nil)))))) (wa_nil))) (wa_nil))))))))))))))
theorem ok_f_law_is_changem (T : Txt K mg) : FnG P w K mg base CX0 4 T.a_f_law_is_changem T.d_f_law_is_changem ["_law_system_here", "_law_thing"] (spOf K S_f_law_is_changem) := by
  refine fn_ok T.F_f_law_is_changem sc_f_law_is_changem rfl (fun cdv A outer s H E hr hgd => ?_) vc_f_law_is_changem
  have nd := sc_f_law_is_changem.nd
  exact wb_cons (ws_asg (we_var (i := 0) rfl (.inl rfl)) (wg_tup rfl (wgs_cons (wg_name (i := 2) nd rfl (.inl rfl)) (wgs_cons (wg_name (i := 3) nd rfl (.inl rfl)) (wgs_cons (wg_name (i := 4) nd rfl (.inl rfl)) (wgs_cons (wg_name (i := 5) nd rfl (.inl rfl)) (wgs_nil))))))) (wb_cons (ws_set (i := 6) nd rfl (.inl rfl) (we_dct (qp_cons mo_dnI qi_int (qp_cons mo_dnI qi_int (qp_cons mo_dnI qi_int (qp_cons mo_dnI qi_int (qp_cons mo_dnI qi_int (qp_cons mo_dnI qi_int (qp_cons mo_dnI qi_int (qp_nil)))))))) (by simp) (by decide) (by decide +kernel))) (wb_cons (ws_if ((ww_or (wt_not (wt_val (we_isi tok_tuple (by rfl) T.n_isinstance (by rfl) T.n_tuple bb_tuple (we_var (i := 1) rfl (.inl rfl))))) (ww_or (wt_cmp (op_eqT hr.units) (z_eqT (f := fun b => b)) (we_var (i := 1) rfl (.inl rfl)) (we_tup (wa_nil)) ((nomark _))) (ww_or (wt_cmp (op_notInW hr.units) z_inW (we_ix (we_var (i := 1) rfl (.inl rfl)) (we_int)) (we_callX z_listK (fun h => pe_callTy (call_list_dK rfl) (by rfl) T.n_list bb_list h) (wa_cons (we_var (i := 6) rfl (.inl rfl)) (wa_nil))) (by rfl)) (ww_or1 (wt_cmp (op_neC hr.units) z_eqB (we_callX z_len (fun h => pe_callB (CallR.or call_len_seq call_len_str) (by rfl) T.n_len bb_len h) (wa_cons (we_var (i := 1) rfl (.inl rfl)) (wa_nil))) (we_dget (Nat.lt_of_le_of_lt (Nat.add_le_add_left (show 1 ≤ 64 by decide) _) hr.units) (fun _ _ => rfl) (we_var (i := 6) rfl (.inl rfl)) (we_ix (we_var (i := 1) rfl (.inl rfl)) (we_int))) ((nomark _))))))).wt) (wb_one (ws_ret (we_bl))) (wb_nil)) (wb_cons (ws_set (i := 7) nd rfl (.inl rfl) (we_ix (we_var (i := 1) rfl (.inl rfl)) (we_int))) (wb_cons (ws_if (wt_cmp (op_eqC hr.units) z_eqB (we_var (i := 7) rfl (.inl rfl)) (we_str) ((nomark _))) (wb_one (ws_ret (we_and (we_cmp (op_ltD hr.units0) z_lt (we_callX z_len (fun h => pe_callB (CallR.or call_len_seq call_len_str) (by rfl) T.n_len bb_len h) (wa_cons (we_var (i := 5) rfl (.inl rfl)) (wa_nil))) (we_int) ((nomark _))) (we_one (we_call (ok_f_law_is_wish T) (hr.mono (by decide)) hgd (by rfl) T.m_f_law_is_wish T.F_f_law_is_wish.kp T.b_f_law_is_wish (wa_cons (we_sl (m := false) (we_var (i := 1) rfl (.inl rfl)) (wo_some (we_int)) wo_none) (wa_cons (we_var (i := 2) rfl (.inl rfl)) (wa_cons (we_callX z_len (fun h => pe_callB (CallR.or call_len_seq call_len_str) (by rfl) T.n_len bb_len h) (wa_cons (we_var (i := 4) rfl (.inl rfl)) (wa_nil))) (wa_nil))))))))) (wb_nil)) (wb_cons (ws_if (wt_cmp (op_eqC hr.units) z_eqB (we_var (i := 7) rfl (.inl rfl)) (we_str) ((nomark _))) (wb_one (ws_ret (we_and (we_cmp (op_ltD hr.units0) z_lt (we_callX z_len (fun h => pe_callB (CallR.or call_len_seq call_len_str) (by rfl) T.n_len bb_len h) (wa_cons (we_var (i := 4) rfl (.inl rfl)) (wa_nil))) (we_int) ((nomark _))) (we_one (we_call (ok_f_law_is_work T) (hr.mono (by decide)) hgd (by rfl) T.m_f_law_is_work T.F_f_law_is_work.kp T.b_f_law_is_work (wa_cons (we_sl (m := false) (we_var (i := 1) rfl (.inl rfl)) (wo_some (we_int)) wo_none) (wa_cons (we_callX z_len (fun h => pe_callB (CallR.or call_len_seq call_len_str) (by rfl) T.n_len bb_len h) (wa_cons (we_var (i := 4) rfl (.inl rfl)) (wa_nil))) (wa_cons (we_callX z_len (fun h => pe_callB (CallR.or call_len_seq call_len_str) (by rfl) T.n_len bb_len h) (wa_cons (we_var (i := 3) rfl (.inl rfl)) (wa_nil))) (wa_nil))))))))) (wb_nil)) (wb_cons (ws_if (wt_cmp (op_eqC hr.units) z_eqB (we_var (i := 7) rfl (.inl rfl)) (we_str) ((nomark _))) (wb_one (ws_ret (we_and (we_cmp (op_ltD hr.units0) z_lt (we_callX z_len (fun h => pe_callB (CallR.or call_len_seq call_len_str) (by rfl) T.n_len bb_len h) (wa_cons (we_var (i := 3) rfl (.inl rfl)) (wa_nil))) (we_int) ((nomark _))) (we_and (we_call (ok_f_law_is_rising T) (hr.mono (by decide)) hgd (by rfl) T.m_f_law_is_rising T.F_f_law_is_rising.kp T.b_f_law_is_rising (wa_cons (we_ix (we_var (i := 1) rfl (.inl rfl)) (we_int)) (wa_cons (we_op op_sub z_sub (we_var (i := 2) rfl (.inl rfl)) (we_int)) (wa_nil)))) (we_one (we_call (ok_f_law_is_rising T) (hr.mono (by decide)) hgd (by rfl) T.m_f_law_is_rising T.F_f_law_is_rising.kp T.b_f_law_is_rising (wa_cons (we_ix (we_var (i := 1) rfl (.inl rfl)) (we_int)) (wa_cons (we_op op_sub z_sub (we_callX z_len (fun h => pe_callB (CallR.or call_len_seq call_len_str) (by rfl) T.n_len bb_len h) (wa_cons (we_var (i := 4) rfl (.inl rfl)) (wa_nil))) (we_int)) (wa_nil))))))))) (wb_nil)) (wb_cons (ws_set (i := 8) nd rfl (.inl rfl) (we_op op_sub z_sub (we_dget (Nat.lt_of_le_of_lt (Nat.add_le_add_left (show 1 ≤ 64 by decide) _) hr.units) (fun _ _ => rfl) (we_dct (qp_cons mo_dnLen (qi_len (i := 5) (by rfl) T.n_len rfl (.inl rfl)) (qp_cons mo_dnLen (qi_len (i := 4) (by rfl) T.n_len rfl (.inl rfl)) (qp_cons mo_dnLen (qi_len (i := 4) (by rfl) T.n_len rfl (.inl rfl)) (qp_cons mo_dnLen (qi_len (i := 3) (by rfl) T.n_len rfl (.inl rfl)) (qp_nil))))) (by simp) (by decide) (by decide +kernel)) (we_var (i := 7) rfl (.inl rfl))) (we_int))) (wb_cons (ws_if (wt_not (wt_val (we_call (ok_f_law_is_from T) (hr.mono (by decide)) hgd (by rfl) T.m_f_law_is_from T.F_f_law_is_from.kp T.b_f_law_is_from (wa_cons (we_ix (we_var (i := 1) rfl (.inl rfl)) (we_int)) (wa_cons (we_int) (wa_cons (we_var (i := 8) rfl (.inl rfl)) (wa_nil))))))) (wb_one (ws_ret (we_bl))) (wb_nil)) (wb_cons (ws_if (wt_cmp (op_eqC hr.units) z_eqB (we_var (i := 7) rfl (.inl rfl)) (we_str) ((nomark _))) (wb_one (ws_ret (we_call (ok_f_law_is_from T) (hr.mono (by decide)) hgd (by rfl) T.m_f_law_is_from T.F_f_law_is_from.kp T.b_f_law_is_from (wa_cons (we_ix (we_var (i := 1) rfl (.inl rfl)) (we_int)) (wa_cons (we_op op_addD z_add (we_ix (we_ix (we_var (i := 4) rfl (.inl rfl)) (we_ix (we_var (i := 1) rfl (.inl rfl)) (we_int))) (we_int)) (we_int)) (wa_cons (we_int) (wa_nil))))))) (wb_nil)) (wb_one (ws_ret (we_or (we_cmp (op_neC hr.units) z_eqB (we_var (i := 7) rfl (.inl rfl)) (we_str) ((nomark _))) (we_one (we_and (we_call (ok_f_law_is_from T) (hr.mono (by decide)) hgd (by rfl) T.m_f_law_is_from T.F_f_law_is_from.kp T.b_f_law_is_from (wa_cons (we_ix (we_var (i := 1) rfl (.inl rfl)) (we_int)) (wa_cons (we_int) (wa_cons (we_op op_sub z_sub (we_var (i := 2) rfl (.inl rfl)) (we_int)) (wa_nil))))) (we_one (we_call (ok_f_law_is_from T) (hr.mono (by decide)) hgd (by rfl) T.m_f_law_is_from T.F_f_law_is_from.kp T.b_f_law_is_from (wa_cons (we_ix (we_var (i := 1) rfl (.inl rfl)) (we_int)) (wa_cons (we_op op_addD z_add (we_ix (we_var (i := 1) rfl (.inl rfl)) (we_int)) (we_int)) (wa_cons (we_var (i := 2) rfl (.inl rfl)) (wa_nil))))))))))))))))))))
theorem ok_f_law_changem (T : Txt K mg) : FnG P w K mg base CX0 4 T.a_f_law_changem T.d_f_law_changem ["_law_deck_here", "_law_system_here", "_law_way"] (spOf K S_f_law_changem) := by
  refine fn_ok T.F_f_law_changem sc_f_law_changem rfl (fun cdv A outer s H E hr hgd => ?_) vc_f_law_changem
  have nd := sc_f_law_changem.nd
  exact wb_cons (ws_asg (we_var (i := 1) rfl (.inl rfl)) (wg_tup rfl (wgs_cons (wg_name (i := 3) nd rfl (.inl rfl)) (wgs_cons (wg_name (i := 4) nd rfl (.inl rfl)) (wgs_cons (wg_name (i := 5) nd rfl (.inl rfl)) (wgs_cons (wg_name (i := 6) nd rfl (.inl rfl)) (wgs_nil))))))) (wb_cons (ws_set (i := 7) nd rfl (.inl rfl) (we_call (ok_f_law_next T) (hr.mono (by decide)) hgd (by rfl) T.m_f_law_next T.F_f_law_next.kp T.b_f_law_next (wa_cons (we_var (i := 0) rfl (.inl rfl)) (wa_nil)))) (wb_cons (ws_if (wt_cmp (op_eqC hr.units) z_eqB (we_var (i := 2) rfl (.inl rfl)) (we_int) ((nomark _))) (wb_one (ws_ret (we_op op_addD z_add (we_tup (wa_cons (we_str) (wa_nil))) (we_call (ok_f_law_wish T) (hr.mono (by decide)) hgd (by rfl) T.m_f_law_wish T.F_f_law_wish.kp T.b_f_law_wish (wa_cons (we_var (i := 0) rfl (.inl rfl)) (wa_cons (we_callX z_max2 (fun h => pe_callB (call_max2 rfl) (by rfl) T.n_max bb_max h) (wa_cons (we_int) (wa_cons (we_callX z_len (fun h => pe_callB (CallR.or call_len_seq call_len_str) (by rfl) T.n_len bb_len h) (wa_cons (we_var (i := 5) rfl (.inl rfl)) (wa_nil))) (wa_nil)))) (wa_cons (we_var (i := 3) rfl (.inl rfl)) (wa_nil)))))))) (wb_nil)) (wb_cons (ws_if (wt_cmp (op_eqC hr.units) z_eqB (we_var (i := 2) rfl (.inl rfl)) (we_int) ((nomark _))) (wb_one (ws_ret (we_tup (wa_cons (we_str) (wa_cons (we_op op_mod z_mod (we_var (i := 7) rfl (.inl rfl)) (we_callX z_max2 (fun h => pe_callB (call_max2 rfl) (by rfl) T.n_max bb_max h) (wa_cons (we_int) (wa_cons (we_callX z_len (fun h => pe_callB (CallR.or call_len_seq call_len_str) (by rfl) T.n_len bb_len h) (wa_cons (we_var (i := 6) rfl (.inl rfl)) (wa_nil))) (wa_nil))))) (wa_nil)))))) (wb_nil)) (wb_cons (ws_if (wt_cmp (op_eqC hr.units) z_eqB (we_var (i := 2) rfl (.inl rfl)) (we_int) ((nomark _))) (wb_one (ws_ret (we_op op_addD z_add (we_tup (wa_cons (we_str) (wa_nil))) (we_call (ok_f_law_work T) (hr.mono (by decide)) hgd (by rfl) T.m_f_law_work T.F_f_law_work.kp T.b_f_law_work (wa_cons (we_var (i := 0) rfl (.inl rfl)) (wa_cons (we_callX z_len (fun h => pe_callB (CallR.or call_len_seq call_len_str) (by rfl) T.n_len bb_len h) (wa_cons (we_var (i := 5) rfl (.inl rfl)) (wa_nil))) (wa_cons (we_callX z_len (fun h => pe_callB (CallR.or call_len_seq call_len_str) (by rfl) T.n_len bb_len h) (wa_cons (we_var (i := 4) rfl (.inl rfl)) (wa_nil))) (wa_cons (we_int) (wa_nil))))))))) (wb_nil)) (wb_cons (ws_if (wt_cmp (op_eqC hr.units) z_eqB (we_var (i := 2) rfl (.inl rfl)) (we_int) ((nomark _))) (wb_one (ws_ret (we_tup (wa_cons (we_str) (wa_cons (we_op op_mod z_mod (we_var (i := 7) rfl (.inl rfl)) (we_callX z_max2 (fun h => pe_callB (call_max2 rfl) (by rfl) T.n_max bb_max h) (wa_cons (we_int) (wa_cons (we_callX z_len (fun h => pe_callB (CallR.or call_len_seq call_len_str) (by rfl) T.n_len bb_len h) (wa_cons (we_var (i := 5) rfl (.inl rfl)) (wa_nil))) (wa_nil))))) (wa_nil)))))) (wb_nil)) (wb_cons (ws_if (wt_cmp (op_eqC hr.units) z_eqB (we_var (i := 2) rfl (.inl rfl)) (we_int) ((nomark _))) (wb_cons (ws_set (i := 8) nd rfl (.inl rfl) (we_op op_mod z_mod (we_var (i := 7) rfl (.inl rfl)) (we_callX z_max2 (fun h => pe_callB (call_max2 rfl) (by rfl) T.n_max bb_max h) (wa_cons (we_int) (wa_cons (we_callX z_len (fun h => pe_callB (CallR.or call_len_seq call_len_str) (by rfl) T.n_len bb_len h) (wa_cons (we_var (i := 5) rfl (.inl rfl)) (wa_nil))) (wa_nil)))))) (wb_one (ws_ret (we_tup (wa_cons (we_str) (wa_cons (we_var (i := 8) rfl (.inl rfl)) (wa_cons (we_op op_addD z_add (we_op op_addD z_add (we_ix (we_ix (we_op op_addD z_add (we_var (i := 5) rfl (.inl rfl)) (we_tup (wa_cons (we_tup (wa_cons (we_int) (wa_nil))) (wa_nil)))) (we_var (i := 8) rfl (.inl rfl))) (we_int)) (we_int)) (we_op op_mod z_mod (we_call (ok_f_law_next T) (hr.mono (by decide)) hgd (by rfl) T.m_f_law_next T.F_f_law_next.kp T.b_f_law_next (wa_cons (we_var (i := 0) rfl (.inl rfl)) (wa_nil))) (we_int))) (wa_nil)))))))) (wb_nil)) (wb_cons (ws_if (wt_cmp (op_eqC hr.units) z_eqB (we_var (i := 2) rfl (.inl rfl)) (we_int) ((nomark _))) (wb_cons (ws_set (i := 9) nd rfl (.inl rfl) (we_op op_mod z_mod (we_var (i := 7) rfl (.inl rfl)) (we_var (i := 3) rfl (.inl rfl)))) (wb_one (ws_ret (we_tup (wa_cons (we_str) (wa_cons (we_op op_mod z_mod (we_op op_fdivW z_fdiv (we_var (i := 7) rfl (.inl rfl)) (we_int)) (we_callX z_len (fun h => pe_callB (CallR.or call_len_seq call_len_str) (by rfl) T.n_len bb_len h) (wa_cons (we_var (i := 4) rfl (.inl rfl)) (wa_nil)))) (wa_cons (we_var (i := 9) rfl (.inl rfl)) (wa_cons (we_op op_addD z_add (we_op op_addD z_add (we_var (i := 9) rfl (.inl rfl)) (we_int)) (we_op op_mod z_mod (we_op op_fdivW z_fdiv (we_var (i := 7) rfl (.inl rfl)) (we_int)) (we_op op_sub z_sub (we_var (i := 3) rfl (.inl rfl)) (we_var (i := 9) rfl (.inl rfl))))) (wa_nil))))))))) (wb_nil)) (wb_one (ws_ret (we_tup (wa_cons (we_str) (wa_cons (we_call (ok_f_law_rows_of T) (hr.mono (by decide)) hgd (by rfl) T.m_f_law_rows_of T.F_f_law_rows_of.kp T.b_f_law_rows_of (wa_cons (we_var (i := 0) rfl (.inl rfl)) (wa_cons (we_op op_sub z_sub (we_var (i := 3) rfl (.inl rfl)) (we_int)) (wa_cons (we_ix (we_lst (m := false) (wa_cons (we_int) (wa_cons (we_int) (wa_cons (we_int) (wa_nil))))) (we_op op_mod z_mod (we_var (i := 7) rfl (.inl rfl)) (we_int))) (wa_nil))))) (wa_cons (we_call (ok_f_law_rows_of T) (hr.mono (by decide)) hgd (by rfl) T.m_f_law_rows_of T.F_f_law_rows_of.kp T.b_f_law_rows_of (wa_cons (we_var (i := 0) rfl (.inl rfl)) (wa_cons (we_op op_sub z_sub (we_callX z_len (fun h => pe_callB (CallR.or call_len_seq call_len_str) (by rfl) T.n_len bb_len h) (wa_cons (we_var (i := 5) rfl (.inl rfl)) (wa_nil))) (we_int)) (wa_cons (we_int) (wa_nil))))) (wa_nil))))))))))))))
theorem ok_p_is_work_more (T : Txt K mg) : FnG P w K mg base CX0 5 T.a_p_is_work_more T.d_p_is_work_more ["system", "parts"] (spOf K S_p_is_work_more) := by
  refine fn_ok T.F_p_is_work_more sc_p_is_work_more rfl (fun cdv A outer s H E hr hgd => ?_) vc_p_is_work_more
  have nd := sc_p_is_work_more.nd
  exact wb_one (ws_ret (we_and (we_cmp (op_ltD hr.units0) z_lt (we_callX z_len (fun h => pe_callB (CallR.or call_len_seq call_len_str) (by rfl) T.n_len bb_len h) (wa_cons (we_ix (we_var (i := 0) rfl (.inl rfl)) (we_int)) (wa_nil))) (we_gint (by rfl) T.g_MOST_WORKS) ((nomark _))) (we_one (we_call (ok_p_is_work T) (hr.mono (by decide)) hgd (by rfl) T.m_p_is_work T.F_p_is_work.kp T.b_p_is_work (wa_cons (we_var (i := 1) rfl (.inl rfl)) (wa_cons (we_callX z_len (fun h => pe_callB (CallR.or call_len_seq call_len_str) (by rfl) T.n_len bb_len h) (wa_cons (we_ix (we_var (i := 0) rfl (.inl rfl)) (we_int)) (wa_nil))) (wa_cons (we_callX z_len (fun h => pe_callB (CallR.or call_len_seq call_len_str) (by rfl) T.n_len bb_len h) (wa_cons (we_ix (we_var (i := 0) rfl (.inl rfl)) (we_int)) (wa_nil))) (wa_nil))))))))
theorem ok_f_law_any_system (T : Txt K mg) : FnG P w K mg base CX0 5 T.a_f_law_any_system T.d_f_law_any_system ["_law_deck_here"] (spOf K S_f_law_any_system) := by
  refine fn_ok T.F_f_law_any_system sc_f_law_any_system rfl (fun cdv A outer s H E hr hgd => ?_) vc_f_law_any_system
  have nd := sc_f_law_any_system.nd
  exact wb_cons (ws_set (i := 1) nd rfl (.inl rfl) (we_op op_mod z_mod (we_call (ok_f_law_next T) (hr.mono (by decide)) hgd (by rfl) T.m_f_law_next T.F_f_law_next.kp T.b_f_law_next (wa_cons (we_var (i := 0) rfl (.inr (.inl rfl))) (wa_nil))) (we_int))) (wb_cons (ws_if (wt_cmp (op_gtD hr.units0) z_gt (we_var (i := 1) rfl (.inl rfl)) (we_int) ((nomark _))) (wb_one (ws_ret (we_call (ok_f_law_system T) (hr.mono (by decide)) hgd (by rfl) T.m_f_law_system T.F_f_law_system.kp T.b_f_law_system (wa_cons (we_var (i := 0) rfl (.inr (.inl rfl))) (wa_cons (we_int) (wa_cons (we_int) (wa_cons (we_int) (wa_cons (we_int) (wa_cons (we_int) (wa_nil)))))))))) (wb_nil)) (wb_cons (ws_set (i := 2) nd rfl (.inr rfl) (we_op op_addD z_add (we_int) (we_op op_mod z_mod (we_call (ok_f_law_next T) (hr.mono (by decide)) hgd (by rfl) T.m_f_law_next T.F_f_law_next.kp T.b_f_law_next (wa_cons (we_var (i := 0) rfl (.inr (.inl rfl))) (wa_nil))) (we_int)))) (wb_cons (ws_set (i := 3) nd rfl (.inr rfl) (we_callX z_tuple (fun h => pe_callTy call_tupleX (by rfl) T.n_tuple bb_tuple h) (wa_cons (we_lc (m := false) (t := (.nm 7)) (own := [("_law_hand", 7)]) rfl nd (wi_range1 (by rfl) T.n_range (wa_cons (we_op op_addD z_add (we_int) (we_op op_mod z_mod (we_call (ok_f_law_next T) (hr.mono (by decide)) hgd (by rfl) T.m_f_law_next T.F_f_law_next.kp T.b_f_law_next (wa_cons (we_var (i := 0) rfl (.inr (.inl rfl))) (wa_nil))) (we_int))) (wa_nil))) (blkOk_by (own := [("_law_hand", 7)]) (N := N_f_law_any_system) (by kernel_rfl)) (by simp [Tg.ix]) (fun _ _ _ _ _ => pg_name (i := 7) nd rfl (.inl rfl)) (fun _ _ _ _ _ => wts_nil) (fun _ _ _ _ _ => we_call (ok_f_law_rows_of T) (hr.mono (by decide)) hgd (by rfl) T.m_f_law_rows_of T.F_f_law_rows_of.kp T.b_f_law_rows_of (wa_cons (we_var (i := 0) rfl (.inr (.inl rfl))) (wa_cons (we_op op_sub z_sub (we_var (i := 2) rfl (.inr (.inl rfl))) (we_int)) (wa_cons (we_ix (we_lst (m := false) (wa_cons (we_int) (wa_cons (we_int) (wa_nil)))) (we_op op_mod z_mod (we_var (i := 7) rfl (.inl rfl)) (we_int))) (wa_nil)))))) (wa_nil)))) (wb_cons (ws_set (i := 4) nd rfl (.inr rfl) (we_op op_addD z_add (we_int) (we_op op_mod z_mod (we_call (ok_f_law_next T) (hr.mono (by decide)) hgd (by rfl) T.m_f_law_next T.F_f_law_next.kp T.b_f_law_next (wa_cons (we_var (i := 0) rfl (.inr (.inl rfl))) (wa_nil))) (we_int)))) (wb_cons (ws_set (i := 5) nd rfl (.inl rfl) (we_callX z_tuple (fun h => pe_callTy call_tupleX (by rfl) T.n_tuple bb_tuple h) (wa_cons (we_lc (m := false) (t := (.nm 8)) (own := [("_law_work_here", 8)]) rfl nd (wi_range1 (by rfl) T.n_range (wa_cons (we_var (i := 4) rfl (.inr (.inl rfl))) (wa_nil))) (blkOk_by (own := [("_law_work_here", 8)]) (N := N_f_law_any_system) (by kernel_rfl)) (by simp [Tg.ix]) (fun _ _ _ _ _ => pg_name (i := 8) nd rfl (.inl rfl)) (fun _ _ _ _ _ => wts_nil) (fun _ _ _ _ _ => we_call (ok_f_law_work T) (hr.mono (by decide)) hgd (by rfl) T.m_f_law_work T.F_f_law_work.kp T.b_f_law_work (wa_cons (we_var (i := 0) rfl (.inr (.inl rfl))) (wa_cons (we_var (i := 8) rfl (.inl rfl)) (wa_cons (we_callX z_len (fun h => pe_callB (CallR.or call_len_seq call_len_str) (by rfl) T.n_len bb_len h) (wa_cons (we_var (i := 3) rfl (.inr (.inl rfl))) (wa_nil))) (wa_cons (we_int) (wa_nil))))))) (wa_nil)))) (wb_cons (ws_set (i := 6) nd rfl (.inl rfl) (we_op op_addD z_add (we_int) (we_op op_mod z_mod (we_call (ok_f_law_next T) (hr.mono (by decide)) hgd (by rfl) T.m_f_law_next T.F_f_law_next.kp T.b_f_law_next (wa_cons (we_var (i := 0) rfl (.inr (.inl rfl))) (wa_nil))) (we_int)))) (wb_one (ws_ret (we_tup (wa_cons (we_var (i := 2) rfl (.inr (.inl rfl))) (wa_cons (we_var (i := 3) rfl (.inr (.inl rfl))) (wa_cons (we_var (i := 5) rfl (.inl rfl)) (wa_cons (we_callX z_tuple (fun h => pe_callTy call_tupleX (by rfl) T.n_tuple bb_tuple h) (wa_cons (we_lc (m := false) (t := (.nm 9)) (own := [("_law_k", 9)]) rfl nd (wi_range1 (by rfl) T.n_range (wa_cons (we_var (i := 6) rfl (.inl rfl)) (wa_nil))) (blkOk_by (own := [("_law_k", 9)]) (N := N_f_law_any_system) (by kernel_rfl)) (by simp [Tg.ix]) (fun _ _ _ _ _ => pg_name (i := 9) nd rfl (.inl rfl)) (fun _ _ _ _ _ => wts_nil) (fun _ _ _ _ _ => we_call (ok_f_law_wish T) (hr.mono (by decide)) hgd (by rfl) T.m_f_law_wish T.F_f_law_wish.kp T.b_f_law_wish (wa_cons (we_var (i := 0) rfl (.inr (.inl rfl))) (wa_cons (we_var (i := 4) rfl (.inr (.inl rfl))) (wa_cons (we_var (i := 2) rfl (.inr (.inl rfl))) (wa_nil)))))) (wa_nil))) (wa_nil))))))))))))))
theorem ok_p_is_change (T : Txt K mg) : FnG P w K mg base CX0 6 T.a_p_is_change T.d_p_is_change ["system", "thing"] (spOf K S_p_is_change) := by
  refine fn_ok T.F_p_is_change sc_p_is_change rfl (fun cdv A outer s H E hr hgd => ?_) vc_p_is_change
  have nd := sc_p_is_change.nd
  exact wb_cons (ws_if ((ww_or (wt_not (wt_val (we_isi tok_tuple (by rfl) T.n_isinstance (by rfl) T.n_tuple bb_tuple (we_var (i := 1) rfl (.inl rfl))))) (ww_or (wt_cmp (op_eqC hr.units) z_eqB (we_callX z_len (fun h => pe_callB (CallR.or call_len_seq call_len_str) (by rfl) T.n_len bb_len h) (wa_cons (we_var (i := 1) rfl (.inl rfl)) (wa_nil))) (we_int) ((nomark _))) (ww_or1 (wt_not (wt_val (we_isi tok_str (by rfl) T.n_isinstance (by rfl) T.n_str bb_str (we_ix (we_var (i := 1) rfl (.inl rfl)) (we_int)))))))).wt) (wb_one (ws_ret (we_bl))) (wb_nil)) (wb_cons (ws_set (i := 2) nd rfl (.inl rfl) (we_ix (we_var (i := 1) rfl (.inl rfl)) (we_int))) (wb_cons (ws_set (i := 3) nd rfl (.inl rfl) (we_sl (m := false) (we_var (i := 1) rfl (.inl rfl)) (wo_some (we_int)) wo_none)) (wb_cons (ws_if (wt_cmp (op_eqC hr.units) z_eqB (we_var (i := 2) rfl (.inl rfl)) (we_str) ((nomark _))) (wb_one (ws_ret (we_call (ok_p_is_wish_more T) (hr.mono (by decide)) hgd (by rfl) T.m_p_is_wish_more T.F_p_is_wish_more.kp T.b_p_is_wish_more (wa_cons (we_var (i := 0) rfl (.inl rfl)) (wa_cons (we_var (i := 3) rfl (.inl rfl)) (wa_nil)))))) (wb_nil)) (wb_cons (ws_if (wt_cmp (op_eqC hr.units) z_eqB (we_var (i := 2) rfl (.inl rfl)) (we_str) ((nomark _))) (wb_one (ws_ret (we_call (ok_p_is_place T) (hr.mono (by decide)) hgd (by rfl) T.m_p_is_place T.F_p_is_place.kp T.b_p_is_place (wa_cons (we_var (i := 3) rfl (.inl rfl)) (wa_cons (we_ix (we_var (i := 0) rfl (.inl rfl)) (we_int)) (wa_nil)))))) (wb_nil)) (wb_cons (ws_if (wt_cmp (op_eqC hr.units) z_eqB (we_var (i := 2) rfl (.inl rfl)) (we_str) ((nomark _))) (wb_one (ws_ret (we_call (ok_p_is_work_more T) (hr.mono (by decide)) hgd (by rfl) T.m_p_is_work_more T.F_p_is_work_more.kp T.b_p_is_work_more (wa_cons (we_var (i := 0) rfl (.inl rfl)) (wa_cons (we_var (i := 3) rfl (.inl rfl)) (wa_nil)))))) (wb_nil)) (wb_cons (ws_if (wt_cmp (op_eqC hr.units) z_eqB (we_var (i := 2) rfl (.inl rfl)) (we_str) ((nomark _))) (wb_one (ws_ret (we_call (ok_p_is_place T) (hr.mono (by decide)) hgd (by rfl) T.m_p_is_place T.F_p_is_place.kp T.b_p_is_place (wa_cons (we_var (i := 3) rfl (.inl rfl)) (wa_cons (we_ix (we_var (i := 0) rfl (.inl rfl)) (we_int)) (wa_nil)))))) (wb_nil)) (wb_cons (ws_if (wt_cmp (op_eqC hr.units) z_eqB (we_var (i := 2) rfl (.inl rfl)) (we_str) ((nomark _))) (wb_one (ws_ret (we_call (ok_p_is_longer T) (hr.mono (by decide)) hgd (by rfl) T.m_p_is_longer T.F_p_is_longer.kp T.b_p_is_longer (wa_cons (we_var (i := 0) rfl (.inl rfl)) (wa_cons (we_var (i := 3) rfl (.inl rfl)) (wa_nil)))))) (wb_nil)) (wb_cons (ws_if (wt_cmp (op_eqC hr.units) z_eqB (we_var (i := 2) rfl (.inl rfl)) (we_str) ((nomark _))) (wb_one (ws_ret (we_call (ok_p_is_away T) (hr.mono (by decide)) hgd (by rfl) T.m_p_is_away T.F_p_is_away.kp T.b_p_is_away (wa_cons (we_var (i := 0) rfl (.inl rfl)) (wa_cons (we_var (i := 3) rfl (.inl rfl)) (wa_nil)))))) (wb_nil)) (wb_one (ws_ret (we_and (we_cmp (op_eqC hr.units) z_eqB (we_var (i := 2) rfl (.inl rfl)) (we_str) ((nomark _))) (we_one (we_call (ok_p_is_hand_more T) (hr.mono (by decide)) hgd (by rfl) T.m_p_is_hand_more T.F_p_is_hand_more.kp T.b_p_is_hand_more (wa_cons (we_var (i := 0) rfl (.inl rfl)) (wa_cons (we_var (i := 3) rfl (.inl rfl)) (wa_nil))))))))))))))))
theorem okn_f_law_nearm (T : Txt K mg) : ∀ n : Nat, FnG P w K mg base CX0 (1 + n) T.a_f_law_nearm T.d_f_law_nearm ["_law_deck_here", "_law_part"] (spOf K (S_f_law_nearm n)) ∧ FnG P w K mg base CX0 (1 + n) T.a_f_law_bentm T.d_f_law_bentm ["_law_deck_here", "_law_row"] (spOf K (S_f_law_bentm n))
  | 0 => ⟨fnG_none none_f_law_nearm, fnG_none none_f_law_bentm⟩
  | n + 1 => by
    have ih := okn_f_law_nearm T n
    obtain ⟨ih_f_law_nearm, ih_f_law_bentm⟩ := ih
    refine ⟨?_, ?_⟩
    · refine fn_ok (k := 1 + n) T.F_f_law_nearm sc_f_law_nearm rfl (fun cdv A outer s H E hr hgd => ?_) (vc_f_law_nearm n)
      have nd := sc_f_law_nearm.nd
      exact wb_cons (ws_set (i := 2) nd rfl (.inl rfl) (we_call (ok_f_law_next T) (hr.mono (by omega)) hgd (by rfl) T.m_f_law_next T.F_f_law_next.kp T.b_f_law_next (wa_cons (we_var (i := 0) rfl (.inl rfl)) (wa_nil)))) (wb_cons (ws_if (wt_val (we_isi tok_tuple (by rfl) T.n_isinstance (by rfl) T.n_tuple bb_tuple (we_var (i := 1) rfl (.inl rfl)))) (wb_one (ws_ret (we_call ih_f_law_bentm (hr.mono (by omega)) hgd (by rfl) T.m_f_law_bentm T.F_f_law_bentm.kp T.b_f_law_bentm (wa_cons (we_var (i := 0) rfl (.inl rfl)) (wa_cons (we_var (i := 1) rfl (.inl rfl)) (wa_nil)))))) (wb_nil)) (wb_cons (ws_if (wt_val (we_isi tok_str (by rfl) T.n_isinstance (by rfl) T.n_str bb_str (we_var (i := 1) rfl (.inl rfl)))) (wb_cons (ws_set (i := 3) nd rfl (.inl rfl) (we_op op_mod z_mod (we_var (i := 2) rfl (.inl rfl)) (we_callX z_max2 (fun h => pe_callB (call_max2 rfl) (by rfl) T.n_max bb_max h) (wa_cons (we_int) (wa_cons (we_callX z_len (fun h => pe_callB (CallR.or call_len_seq call_len_str) (by rfl) T.n_len bb_len h) (wa_cons (we_var (i := 1) rfl (.inl rfl)) (wa_nil))) (wa_nil)))))) (wb_one (ws_ret (we_op op_addB z_addB (we_op op_addB z_addB (we_sl (m := false) (we_var (i := 1) rfl (.inl rfl)) wo_none (wo_some (we_var (i := 3) rfl (.inl rfl)))) (we_ix (we_str) (we_op op_mod z_mod (we_op op_fdivW z_fdiv (we_var (i := 2) rfl (.inl rfl)) (we_int)) (we_int)))) (we_sl (m := false) (we_var (i := 1) rfl (.inl rfl)) (wo_some (we_op op_addB z_addB (we_var (i := 3) rfl (.inl rfl)) (we_int))) wo_none))))) (wb_nil)) (wb_cons (ws_if (wt_val (we_isi tok_int (by rfl) T.n_isinstance (by rfl) T.n_int bb_int (we_var (i := 1) rfl (.inl rfl)))) (wb_one (ws_ret (we_ix (we_lst (m := false) (wa_cons (we_op op_addB z_addB (we_var (i := 1) rfl (.inl rfl)) (we_int)) (wa_cons (we_op op_subB z_subB (we_var (i := 1) rfl (.inl rfl)) (we_int)) (wa_cons (we_op op_addB z_addB (we_var (i := 1) rfl (.inl rfl)) (we_int)) (wa_cons (we_op op_subB z_subB (we_int) (we_var (i := 1) rfl (.inl rfl))) (wa_cons (we_op op_addB z_addB (we_var (i := 1) rfl (.inl rfl)) (we_int)) (wa_cons (we_cmp (op_eqC hr.units) z_eqB (we_var (i := 1) rfl (.inl rfl)) (we_int) ((nomark _))) (wa_cons (we_callX z_strB (fun h => pe_callTy call_strB (by rfl) T.n_str bb_str h) (wa_cons (we_var (i := 1) rfl (.inl rfl)) (wa_nil))) (wa_nil))))))))) (we_op op_mod z_mod (we_var (i := 2) rfl (.inl rfl)) (we_int))))) (wb_nil)) (wb_one (ws_ret (we_call (ok_f_law_odd T) (hr.mono (by omega)) hgd (by rfl) T.m_f_law_odd T.F_f_law_odd.kp T.b_f_law_odd (wa_cons (we_var (i := 2) rfl (.inl rfl)) (wa_nil))))))))
    · refine fn_ok (k := 1 + n) T.F_f_law_bentm sc_f_law_bentm rfl (fun cdv A outer s H E hr hgd => ?_) (vc_f_law_bentm n)
      have nd := sc_f_law_bentm.nd
      exact wb_cons (ws_set (i := 2) nd rfl (.inl rfl) (we_op op_mod z_mod (we_call (ok_f_law_next T) (hr.mono (by omega)) hgd (by rfl) T.m_f_law_next T.F_f_law_next.kp T.b_f_law_next (wa_cons (we_var (i := 0) rfl (.inl rfl)) (wa_nil))) (we_int))) (wb_cons (ws_set (i := 3) nd rfl (.inl rfl) (we_call (ok_f_law_next T) (hr.mono (by omega)) hgd (by rfl) T.m_f_law_next T.F_f_law_next.kp T.b_f_law_next (wa_cons (we_var (i := 0) rfl (.inl rfl)) (wa_nil)))) (wb_cons (ws_if (wt_cmp (op_eqT hr.units) (z_eqT (f := fun b => b)) (we_var (i := 1) rfl (.inl rfl)) (we_tup (wa_nil)) ((nomark _))) (wb_one (ws_ret (we_ix (we_lst (m := false) (wa_cons (we_tup (wa_cons (we_op op_mod z_mod (we_op op_fdivW z_fdiv (we_var (i := 3) rfl (.inl rfl)) (we_int)) (we_int)) (wa_nil))) (wa_cons (we_tup (wa_cons (we_op op_mod z_mod (we_op op_fdivW z_fdiv (we_var (i := 3) rfl (.inl rfl)) (we_int)) (we_int)) (wa_cons (we_op op_mod z_mod (we_op op_fdivW z_fdiv (we_var (i := 3) rfl (.inl rfl)) (we_int)) (we_int)) (wa_nil)))) (wa_cons (we_non) (wa_cons (we_lst (m := false) (wa_nil)) (wa_cons (we_tup (wa_cons (we_bl) (wa_nil))) (wa_cons (we_dict0) (wa_cons (we_tup (wa_cons (we_int) (wa_nil))) (wa_cons (we_str) (wa_nil)))))))))) (we_var (i := 2) rfl (.inl rfl))))) (wb_nil)) (wb_cons (ws_set (i := 4) nd rfl (.inl rfl) (we_op op_mod z_mod (we_var (i := 3) rfl (.inl rfl)) (we_callX z_len (fun h => pe_callB (CallR.or call_len_seq call_len_str) (by rfl) T.n_len bb_len h) (wa_cons (we_var (i := 1) rfl (.inl rfl)) (wa_nil))))) (wb_cons (ws_if (wt_cmp (op_eqC hr.units) z_eqB (we_var (i := 2) rfl (.inl rfl)) (we_int) ((nomark _))) (wb_one (ws_ret (we_op op_addD z_add (we_sl (m := false) (we_var (i := 1) rfl (.inl rfl)) wo_none (wo_some (we_var (i := 4) rfl (.inl rfl)))) (we_sl (m := false) (we_var (i := 1) rfl (.inl rfl)) (wo_some (we_op op_addD z_add (we_var (i := 4) rfl (.inl rfl)) (we_int))) wo_none)))) (wb_nil)) (wb_cons (ws_if (wt_cmp (op_eqC hr.units) z_eqB (we_var (i := 2) rfl (.inl rfl)) (we_int) ((nomark _))) (wb_one (ws_ret (we_op op_addD z_add (we_sl (m := false) (we_var (i := 1) rfl (.inl rfl)) wo_none (wo_some (we_op op_addD z_add (we_var (i := 4) rfl (.inl rfl)) (we_int)))) (we_sl (m := false) (we_var (i := 1) rfl (.inl rfl)) (wo_some (we_var (i := 4) rfl (.inl rfl))) wo_none)))) (wb_nil)) (wb_cons (ws_if (wt_cmp (op_eqC hr.units) z_eqB (we_var (i := 2) rfl (.inl rfl)) (we_int) ((nomark _))) (wb_one (ws_ret (we_op op_addD z_add (we_op op_addD z_add (we_sl (m := false) (we_var (i := 1) rfl (.inl rfl)) wo_none (wo_some (we_var (i := 4) rfl (.inl rfl)))) (we_tup (wa_cons (we_call (ok_f_law_odd T) (hr.mono (by omega)) hgd (by rfl) T.m_f_law_odd T.F_f_law_odd.kp T.b_f_law_odd (wa_cons (we_op op_fdivW z_fdiv (we_var (i := 3) rfl (.inl rfl)) (we_int)) (wa_nil))) (wa_nil)))) (we_sl (m := false) (we_var (i := 1) rfl (.inl rfl)) (wo_some (we_op op_addD z_add (we_var (i := 4) rfl (.inl rfl)) (we_int))) wo_none)))) (wb_nil)) (wb_cons (ws_if (wt_cmp (op_eqC hr.units) z_eqB (we_var (i := 2) rfl (.inl rfl)) (we_int) ((nomark _))) (wb_one (ws_ret (we_op op_addD z_add (we_op op_addD z_add (we_sl (m := false) (we_var (i := 1) rfl (.inl rfl)) wo_none (wo_some (we_var (i := 4) rfl (.inl rfl)))) (we_tup (wa_cons (we_call (ok_f_law_odd T) (hr.mono (by omega)) hgd (by rfl) T.m_f_law_odd T.F_f_law_odd.kp T.b_f_law_odd (wa_cons (we_op op_fdivW z_fdiv (we_var (i := 3) rfl (.inl rfl)) (we_int)) (wa_nil))) (wa_nil)))) (we_sl (m := false) (we_var (i := 1) rfl (.inl rfl)) (wo_some (we_var (i := 4) rfl (.inl rfl))) wo_none)))) (wb_nil)) (wb_cons (ws_if (wt_cmp (op_eqC hr.units) z_eqB (we_var (i := 2) rfl (.inl rfl)) (we_int) ((nomark _))) (wb_one (ws_ret (we_ix (we_lst (m := false) (wa_cons (we_callX (z_list (m := false)) (fun h => pe_callTy call_list_of (by rfl) T.n_list bb_list h) (wa_cons (we_var (i := 1) rfl (.inl rfl)) (wa_nil))) (wa_cons (we_revA (m := false) (we_var (i := 1) rfl (.inl rfl))) (wa_cons (we_tup (wa_cons (we_var (i := 1) rfl (.inl rfl)) (wa_nil))) (wa_nil))))) (we_op op_mod z_mod (we_op op_fdivW z_fdiv (we_var (i := 3) rfl (.inl rfl)) (we_int)) (we_int))))) (wb_nil)) (wb_one (ws_ret (we_op op_addD z_add (we_op op_addD z_add (we_sl (m := false) (we_var (i := 1) rfl (.inl rfl)) wo_none (wo_some (we_var (i := 4) rfl (.inl rfl)))) (we_tup (wa_cons (we_call ih_f_law_nearm (hr.mono (by omega)) hgd (by rfl) T.m_f_law_nearm T.F_f_law_nearm.kp T.b_f_law_nearm (wa_cons (we_var (i := 0) rfl (.inl rfl)) (wa_cons (we_ix (we_var (i := 1) rfl (.inl rfl)) (we_var (i := 4) rfl (.inl rfl))) (wa_nil)))) (wa_nil)))) (we_sl (m := false) (we_var (i := 1) rfl (.inl rfl)) (wo_some (we_op op_addD z_add (we_var (i := 4) rfl (.inl rfl)) (we_int))) wo_none))))))))))))
theorem ok_f_law_bentm (T : Txt K mg) : FnG P w K mg base CX0 81 T.a_f_law_bentm T.d_f_law_bentm ["_law_deck_here", "_law_row"] (spOf K (S_f_law_bentm 80)) := (okn_f_law_nearm T 80).2
theorem ok_p_law (T : Txt K mg) : FnG P w K mg base CX0 82 T.a_p_law T.d_p_law ["_law_script"] (spOf K S_p_law) := by
  refine fn_okP T.F_p_law sc_p_law rfl (fun cdv A outer s H E hr hgd => ?_) vc_p_law
  have nd := sc_p_law.nd
  exact wb_cons (ws_set (i := 1) nd rfl (.inl rfl) (we_call (ok_f_law_deck T) (hr.mono (by decide)) hgd (by rfl) T.m_f_law_deck T.F_f_law_deck.kp T.b_f_law_deck (wa_cons (we_var (i := 0) rfl (.inl rfl)) (wa_nil)))) (wb_cons (ws_for PassesOwn.never rfl (wi_range1 (by rfl) T.n_range (wa_cons (we_int) (wa_nil))) (wg_name (i := 2) nd rfl (.inl rfl)) (wb_cons (ws_set (i := 3) nd rfl (.inl rfl) (we_op op_mod z_mod (we_call (ok_f_law_next T) (hr.mono (by decide)) hgd (by rfl) T.m_f_law_next T.F_f_law_next.kp T.b_f_law_next (wa_cons (we_var (i := 1) rfl (.inl rfl)) (wa_nil))) (we_int))) (wb_cons (ws_set (i := 4) nd rfl (.inl rfl) (we_call (ok_f_law_any_system T) (hr.mono (by decide)) hgd (by rfl) T.m_f_law_any_system T.F_f_law_any_system.kp T.b_f_law_any_system (wa_cons (we_var (i := 1) rfl (.inl rfl)) (wa_nil)))) (wb_cons (ws_set (i := 5) nd rfl (.inl rfl) (we_callX z_reprM (fun h => pe_callB (call_reprM T.sm hgd hr.units) (by rfl) T.n_repr bb_repr h) (wa_cons (we_var (i := 4) rfl (.inl rfl)) (wa_nil)))) (wb_cons (ws_for PassesOwn.never rfl (wi_range1 (by rfl) T.n_range (wa_cons (we_int) (wa_nil))) (wg_name (i := 6) nd rfl (.inl rfl)) (wb_cons (ws_set (i := 7) nd rfl (.inl rfl) (we_call (ok_f_law_changem T) (hr.mono (by decide)) hgd (by rfl) T.m_f_law_changem T.F_f_law_changem.kp T.b_f_law_changem (wa_cons (we_var (i := 1) rfl (.inl rfl)) (wa_cons (we_var (i := 4) rfl (.inl rfl)) (wa_cons (we_op op_mod z_mod (we_op op_addD z_add (we_var (i := 3) rfl (.inl rfl)) (we_var (i := 6) rfl (.inl rfl))) (we_int)) (wa_nil)))))) (wb_cons (ws_set (i := 8) nd rfl (.inl rfl) (we_call (ok_f_law_bentm T) (hr.mono (by decide)) hgd (by rfl) T.m_f_law_bentm T.F_f_law_bentm.kp T.b_f_law_bentm (wa_cons (we_var (i := 1) rfl (.inl rfl)) (wa_cons (we_var (i := 7) rfl (.inl rfl)) (wa_nil))))) (wb_cons (ws_set (i := 9) nd rfl (.inl rfl) (we_lst (m := true) (wa_cons (we_var (i := 7) rfl (.inl rfl)) (wa_cons (we_var (i := 8) rfl (.inl rfl)) (wa_cons (we_call (ok_f_law_bentm T) (hr.mono (by decide)) hgd (by rfl) T.m_f_law_bentm T.F_f_law_bentm.kp T.b_f_law_bentm (wa_cons (we_var (i := 1) rfl (.inl rfl)) (wa_cons (we_var (i := 7) rfl (.inl rfl)) (wa_nil)))) (wa_cons (we_call (ok_f_law_odd T) (hr.mono (by decide)) hgd (by rfl) T.m_f_law_odd T.F_f_law_odd.kp T.b_f_law_odd (wa_cons (we_call (ok_f_law_next T) (hr.mono (by decide)) hgd (by rfl) T.m_f_law_next T.F_f_law_next.kp T.b_f_law_next (wa_cons (we_var (i := 1) rfl (.inl rfl)) (wa_nil))) (wa_nil))) (wa_nil))))))) (wb_cons (ws_if (wt_val (we_isi tok_tuple (by rfl) T.n_isinstance (by rfl) T.n_tuple bb_tuple (we_var (i := 8) rfl (.inl rfl)))) (wb_one (ws_expr (we_m PySem.F.slot_list_append PySem.F.type_list_append mt_append z_append (we_var (i := 9) rfl (.inl rfl)) (wa_cons (we_call (ok_f_law_bentm T) (hr.mono (by decide)) hgd (by rfl) T.m_f_law_bentm T.F_f_law_bentm.kp T.b_f_law_bentm (wa_cons (we_var (i := 1) rfl (.inl rfl)) (wa_cons (we_var (i := 8) rfl (.inl rfl)) (wa_nil)))) (wa_nil)) (fun h1 h2 => pe_bm PySem.F.plainAttrs_list PySem.F.slot_list_append PySem.F.type_list_append mt_append h1 h2)))) (wb_nil)) (wb_one (ws_for PassesOwn.never rfl (wi_seq (we_var (i := 9) rfl (.inl rfl))) (wg_name (i := 10) nd rfl (.inl rfl)) (wb_cons (ws_set (i := 11) nd rfl (.inl rfl) (we_callX z_reprM (fun h => pe_callB (call_reprM T.sm hgd hr.units) (by rfl) T.n_repr bb_repr h) (wa_cons (we_var (i := 10) rfl (.inl rfl)) (wa_nil)))) (wb_cons (ws_if (wt_not (wt_val (we_call (ok_f_law_says T) (hr.mono (by decide)) hgd (by rfl) T.m_f_law_says T.F_f_law_says.kp T.b_f_law_says (wa_cons (we_call (ok_p_is_change T) (hr.mono (by decide)) hgd (by rfl) T.m_p_is_change T.F_p_is_change.kp T.b_p_is_change (wa_cons (we_var (i := 4) rfl (.inl rfl)) (wa_cons (we_var (i := 10) rfl (.inl rfl)) (wa_nil)))) (wa_cons (we_call (ok_f_law_is_changem T) (hr.mono (by decide)) hgd (by rfl) T.m_f_law_is_changem T.F_f_law_is_changem.kp T.b_f_law_is_changem (wa_cons (we_var (i := 4) rfl (.inl rfl)) (wa_cons (we_var (i := 10) rfl (.inl rfl)) (wa_nil)))) (wa_nil)))))) (wb_one (ws_ret (we_bl))) (wb_nil)) (wb_one (ws_if (wt_cmp (op_neC hr.units) z_eqB (we_callX z_reprM (fun h => pe_callB (call_reprM T.sm hgd hr.units) (by rfl) T.n_repr bb_repr h) (wa_cons (we_var (i := 10) rfl (.inl rfl)) (wa_nil))) (we_var (i := 11) rfl (.inl rfl)) ((nomark _))) (wb_one (ws_ret (we_bl))) (wb_nil)))))))))))) (wb_one (ws_if (wt_cmp (op_neC hr.units) z_eqB (we_callX z_reprM (fun h => pe_callB (call_reprM T.sm hgd hr.units) (by rfl) T.n_repr bb_repr h) (wa_cons (we_var (i := 4) rfl (.inl rfl)) (wa_nil))) (we_var (i := 5) rfl (.inl rfl)) ((nomark _))) (wb_one (ws_ret (we_bl))) (wb_nil)))))))) (wb_one (ws_ret (we_bl))))
end
theorem all_mk {l : PySem.W.OpenLaw} {w : World} {K : PySem.W.Frag} {h : Heap} {mg : Str → Option Value} {fa : Addr} (X : K.In h) (G : h.Ns mainGlobals mg) (hfa : mg "law" = some (.ref fa))
    {f0 : Addr} {od0 an0 : Option Addr} {sl0 : Array (Option Value)} {oc0 kV0 dc0 pm0 cd0 ct0 : Value}
    {f1 : Addr} {od1 an1 : Option Addr} {sl1 : Array (Option Value)} {oc1 kV1 dc1 pm1 cd1 ct1 : Value}
    {f2 : Addr} {od2 an2 : Option Addr} {sl2 : Array (Option Value)} {oc2 kV2 dc2 pm2 cd2 ct2 : Value}
    {f3 : Addr} {od3 an3 : Option Addr} {sl3 : Array (Option Value)} {oc3 kV3 dc3 pm3 cd3 ct3 : Value}
    {f4 : Addr} {od4 an4 : Option Addr} {sl4 : Array (Option Value)} {oc4 kV4 dc4 pm4 cd4 ct4 : Value}
    {f5 : Addr} {od5 an5 : Option Addr} {sl5 : Array (Option Value)} {oc5 kV5 dc5 pm5 cd5 ct5 : Value}
    {f6 : Addr} {od6 an6 : Option Addr} {sl6 : Array (Option Value)} {oc6 kV6 dc6 pm6 cd6 ct6 : Value}
    {f7 : Addr} {od7 an7 : Option Addr} {sl7 : Array (Option Value)} {oc7 kV7 dc7 pm7 cd7 ct7 : Value}
    {f8 : Addr} {od8 an8 : Option Addr} {sl8 : Array (Option Value)} {oc8 kV8 dc8 pm8 cd8 ct8 : Value}
    {f9 : Addr} {od9 an9 : Option Addr} {sl9 : Array (Option Value)} {oc9 kV9 dc9 pm9 cd9 ct9 : Value}
    {f10 : Addr} {od10 an10 : Option Addr} {sl10 : Array (Option Value)} {oc10 kV10 dc10 pm10 cd10 ct10 : Value}
    {f11 : Addr} {od11 an11 : Option Addr} {sl11 : Array (Option Value)} {oc11 kV11 dc11 pm11 cd11 ct11 : Value}
    {f12 : Addr} {od12 an12 : Option Addr} {sl12 : Array (Option Value)} {oc12 kV12 dc12 pm12 cd12 ct12 : Value}
    {f13 : Addr} {od13 an13 : Option Addr} {sl13 : Array (Option Value)} {oc13 kV13 dc13 pm13 cd13 ct13 : Value}
    {f14 : Addr} {od14 an14 : Option Addr} {sl14 : Array (Option Value)} {oc14 kV14 dc14 pm14 cd14 ct14 : Value}
    {f15 : Addr} {od15 an15 : Option Addr} {sl15 : Array (Option Value)} {oc15 kV15 dc15 pm15 cd15 ct15 : Value}
    {f16 : Addr} {od16 an16 : Option Addr} {sl16 : Array (Option Value)} {oc16 kV16 dc16 pm16 cd16 ct16 : Value}
    {f17 : Addr} {od17 an17 : Option Addr} {sl17 : Array (Option Value)} {oc17 kV17 dc17 pm17 cd17 ct17 : Value}
    {f18 : Addr} {od18 an18 : Option Addr} {sl18 : Array (Option Value)} {oc18 kV18 dc18 pm18 cd18 ct18 : Value}
    {f19 : Addr} {od19 an19 : Option Addr} {sl19 : Array (Option Value)} {oc19 kV19 dc19 pm19 cd19 ct19 : Value}
    {f20 : Addr} {od20 an20 : Option Addr} {sl20 : Array (Option Value)} {oc20 kV20 dc20 pm20 cd20 ct20 : Value}
    {f21 : Addr} {od21 an21 : Option Addr} {sl21 : Array (Option Value)} {oc21 kV21 dc21 pm21 cd21 ct21 : Value}
    {f22 : Addr} {od22 an22 : Option Addr} {sl22 : Array (Option Value)} {oc22 kV22 dc22 pm22 cd22 ct22 : Value}
    {f23 : Addr} {od23 an23 : Option Addr} {sl23 : Array (Option Value)} {oc23 kV23 dc23 pm23 cd23 ct23 : Value}
    {f24 : Addr} {od24 an24 : Option Addr} {sl24 : Array (Option Value)} {oc24 kV24 dc24 pm24 cd24 ct24 : Value}
    {f25 : Addr} {od25 an25 : Option Addr} {sl25 : Array (Option Value)} {oc25 kV25 dc25 pm25 cd25 ct25 : Value}
    {f26 : Addr} {od26 an26 : Option Addr} {sl26 : Array (Option Value)} {oc26 kV26 dc26 pm26 cd26 ct26 : Value}
    {f27 : Addr} {od27 an27 : Option Addr} {sl27 : Array (Option Value)} {oc27 kV27 dc27 pm27 cd27 ct27 : Value}
    {f28 : Addr} {od28 an28 : Option Addr} {sl28 : Array (Option Value)} {oc28 kV28 dc28 pm28 cd28 ct28 : Value}
    {f29 : Addr} {od29 an29 : Option Addr} {sl29 : Array (Option Value)} {oc29 kV29 dc29 pm29 cd29 ct29 : Value}
    {t_MOST_HANDS : Tok}
    {t_MOST_LENGTH : Tok}
    {t_MOST_WEIGHT : Tok}
    {t_MOST_WISHES : Tok}
    {t_MOST_WORKS : Tok}
    {t_RANKS : Tok}
    (a0 : PySem.W.nsIn K mainGlobals "is_number" = some (some (.ref f0))) (l0 : K.lookup f0 = some ⟨oc0, od0, .func (PySem.W.fnOf "is_number" "is_number" (defArgs s_p_is_number) (defBody s_p_is_number) (defScope s_p_is_number) .none kV0 dc0 pm0 an0 cd0 ct0), sl0⟩) (c0 : PySem.W.codeIn K cd0 "is_number" = true) (k0 : PySem.W.keepIn K (.ref f0) = true)
    (a1 : PySem.W.nsIn K mainGlobals "_law_deck" = some (some (.ref f1))) (l1 : K.lookup f1 = some ⟨oc1, od1, .func (PySem.W.fnOf "_law_deck" "_law_deck" (defArgs s_f_law_deck) (defBody s_f_law_deck) (defScope s_f_law_deck) .none kV1 dc1 pm1 an1 cd1 ct1), sl1⟩) (c1 : PySem.W.codeIn K cd1 "_law_deck" = true) (k1 : PySem.W.keepIn K (.ref f1) = true)
    (a2 : PySem.W.nsIn K mainGlobals "_law_next" = some (some (.ref f2))) (l2 : K.lookup f2 = some ⟨oc2, od2, .func (PySem.W.fnOf "_law_next" "_law_next" (defArgs s_f_law_next) (defBody s_f_law_next) (defScope s_f_law_next) .none kV2 dc2 pm2 an2 cd2 ct2), sl2⟩) (c2 : PySem.W.codeIn K cd2 "_law_next" = true) (k2 : PySem.W.keepIn K (.ref f2) = true)
    (a3 : PySem.W.nsIn K mainGlobals "_law_says" = some (some (.ref f3))) (l3 : K.lookup f3 = some ⟨oc3, od3, .func (PySem.W.fnOf "_law_says" "_law_says" (defArgs s_f_law_says) (defBody s_f_law_says) (defScope s_f_law_says) .none kV3 dc3 pm3 an3 cd3 ct3), sl3⟩) (c3 : PySem.W.codeIn K cd3 "_law_says" = true) (k3 : PySem.W.keepIn K (.ref f3) = true)
    (a4 : PySem.W.nsIn K mainGlobals "_law_is_from" = some (some (.ref f4))) (l4 : K.lookup f4 = some ⟨oc4, od4, .func (PySem.W.fnOf "_law_is_from" "_law_is_from" (defArgs s_f_law_is_from) (defBody s_f_law_is_from) (defScope s_f_law_is_from) .none kV4 dc4 pm4 an4 cd4 ct4), sl4⟩) (c4 : PySem.W.codeIn K cd4 "_law_is_from" = true) (k4 : PySem.W.keepIn K (.ref f4) = true)
    (a5 : PySem.W.nsIn K mainGlobals "_law_odd" = some (some (.ref f5))) (l5 : K.lookup f5 = some ⟨oc5, od5, .func (PySem.W.fnOf "_law_odd" "_law_odd" (defArgs s_f_law_odd) (defBody s_f_law_odd) (defScope s_f_law_odd) .none kV5 dc5 pm5 an5 cd5 ct5), sl5⟩) (c5 : PySem.W.codeIn K cd5 "_law_odd" = true) (k5 : PySem.W.keepIn K (.ref f5) = true)
    (a6 : PySem.W.nsIn K mainGlobals "is_from" = some (some (.ref f6))) (l6 : K.lookup f6 = some ⟨oc6, od6, .func (PySem.W.fnOf "is_from" "is_from" (defArgs s_p_is_from) (defBody s_p_is_from) (defScope s_p_is_from) .none kV6 dc6 pm6 an6 cd6 ct6), sl6⟩) (c6 : PySem.W.codeIn K cd6 "is_from" = true) (k6 : PySem.W.keepIn K (.ref f6) = true)
    (a7 : PySem.W.nsIn K mainGlobals "_law_is_rising" = some (some (.ref f7))) (l7 : K.lookup f7 = some ⟨oc7, od7, .func (PySem.W.fnOf "_law_is_rising" "_law_is_rising" (defArgs s_f_law_is_rising) (defBody s_f_law_is_rising) (defScope s_f_law_is_rising) .none kV7 dc7 pm7 an7 cd7 ct7), sl7⟩) (c7 : PySem.W.codeIn K cd7 "_law_is_rising" = true) (k7 : PySem.W.keepIn K (.ref f7) = true)
    (a8 : PySem.W.nsIn K mainGlobals "_law_rows_of" = some (some (.ref f8))) (l8 : K.lookup f8 = some ⟨oc8, od8, .func (PySem.W.fnOf "_law_rows_of" "_law_rows_of" (defArgs s_f_law_rows_of) (defBody s_f_law_rows_of) (defScope s_f_law_rows_of) .none kV8 dc8 pm8 an8 cd8 ct8), sl8⟩) (c8 : PySem.W.codeIn K cd8 "_law_rows_of" = true) (k8 : PySem.W.keepIn K (.ref f8) = true)
    (a9 : PySem.W.nsIn K mainGlobals "_law_wish" = some (some (.ref f9))) (l9 : K.lookup f9 = some ⟨oc9, od9, .func (PySem.W.fnOf "_law_wish" "_law_wish" (defArgs s_f_law_wish) (defBody s_f_law_wish) (defScope s_f_law_wish) .none kV9 dc9 pm9 an9 cd9 ct9), sl9⟩) (c9 : PySem.W.codeIn K cd9 "_law_wish" = true) (k9 : PySem.W.keepIn K (.ref f9) = true)
    (a10 : PySem.W.nsIn K mainGlobals "_law_is_wish" = some (some (.ref f10))) (l10 : K.lookup f10 = some ⟨oc10, od10, .func (PySem.W.fnOf "_law_is_wish" "_law_is_wish" (defArgs s_f_law_is_wish) (defBody s_f_law_is_wish) (defScope s_f_law_is_wish) .none kV10 dc10 pm10 an10 cd10 ct10), sl10⟩) (c10 : PySem.W.codeIn K cd10 "_law_is_wish" = true) (k10 : PySem.W.keepIn K (.ref f10) = true)
    (a11 : PySem.W.nsIn K mainGlobals "is_rising" = some (some (.ref f11))) (l11 : K.lookup f11 = some ⟨oc11, od11, .func (PySem.W.fnOf "is_rising" "is_rising" (defArgs s_p_is_rising) (defBody s_p_is_rising) (defScope s_p_is_rising) .none kV11 dc11 pm11 an11 cd11 ct11), sl11⟩) (c11 : PySem.W.codeIn K cd11 "is_rising" = true) (k11 : PySem.W.keepIn K (.ref f11) = true)
    (a12 : PySem.W.nsIn K mainGlobals "is_wish" = some (some (.ref f12))) (l12 : K.lookup f12 = some ⟨oc12, od12, .func (PySem.W.fnOf "is_wish" "is_wish" (defArgs s_p_is_wish) (defBody s_p_is_wish) (defScope s_p_is_wish) .none kV12 dc12 pm12 an12 cd12 ct12), sl12⟩) (c12 : PySem.W.codeIn K cd12 "is_wish" = true) (k12 : PySem.W.keepIn K (.ref f12) = true)
    (a13 : PySem.W.nsIn K mainGlobals "is_place" = some (some (.ref f13))) (l13 : K.lookup f13 = some ⟨oc13, od13, .func (PySem.W.fnOf "is_place" "is_place" (defArgs s_p_is_place) (defBody s_p_is_place) (defScope s_p_is_place) .none kV13 dc13 pm13 an13 cd13 ct13), sl13⟩) (c13 : PySem.W.codeIn K cd13 "is_place" = true) (k13 : PySem.W.keepIn K (.ref f13) = true)
    (a14 : PySem.W.nsIn K mainGlobals "is_longer" = some (some (.ref f14))) (l14 : K.lookup f14 = some ⟨oc14, od14, .func (PySem.W.fnOf "is_longer" "is_longer" (defArgs s_p_is_longer) (defBody s_p_is_longer) (defScope s_p_is_longer) .none kV14 dc14 pm14 an14 cd14 ct14), sl14⟩) (c14 : PySem.W.codeIn K cd14 "is_longer" = true) (k14 : PySem.W.keepIn K (.ref f14) = true)
    (a15 : PySem.W.nsIn K mainGlobals "is_away" = some (some (.ref f15))) (l15 : K.lookup f15 = some ⟨oc15, od15, .func (PySem.W.fnOf "is_away" "is_away" (defArgs s_p_is_away) (defBody s_p_is_away) (defScope s_p_is_away) .none kV15 dc15 pm15 an15 cd15 ct15), sl15⟩) (c15 : PySem.W.codeIn K cd15 "is_away" = true) (k15 : PySem.W.keepIn K (.ref f15) = true)
    (a16 : PySem.W.nsIn K mainGlobals "_law_work" = some (some (.ref f16))) (l16 : K.lookup f16 = some ⟨oc16, od16, .func (PySem.W.fnOf "_law_work" "_law_work" (defArgs s_f_law_work) (defBody s_f_law_work) (defScope s_f_law_work) .none kV16 dc16 pm16 an16 cd16 ct16), sl16⟩) (c16 : PySem.W.codeIn K cd16 "_law_work" = true) (k16 : PySem.W.keepIn K (.ref f16) = true)
    (a17 : PySem.W.nsIn K mainGlobals "_law_is_work" = some (some (.ref f17))) (l17 : K.lookup f17 = some ⟨oc17, od17, .func (PySem.W.fnOf "_law_is_work" "_law_is_work" (defArgs s_f_law_is_work) (defBody s_f_law_is_work) (defScope s_f_law_is_work) .none kV17 dc17 pm17 an17 cd17 ct17), sl17⟩) (c17 : PySem.W.codeIn K cd17 "_law_is_work" = true) (k17 : PySem.W.keepIn K (.ref f17) = true)
    (a18 : PySem.W.nsIn K mainGlobals "is_work" = some (some (.ref f18))) (l18 : K.lookup f18 = some ⟨oc18, od18, .func (PySem.W.fnOf "is_work" "is_work" (defArgs s_p_is_work) (defBody s_p_is_work) (defScope s_p_is_work) .none kV18 dc18 pm18 an18 cd18 ct18), sl18⟩) (c18 : PySem.W.codeIn K cd18 "is_work" = true) (k18 : PySem.W.keepIn K (.ref f18) = true)
    (a19 : PySem.W.nsIn K mainGlobals "is_wish_more" = some (some (.ref f19))) (l19 : K.lookup f19 = some ⟨oc19, od19, .func (PySem.W.fnOf "is_wish_more" "is_wish_more" (defArgs s_p_is_wish_more) (defBody s_p_is_wish_more) (defScope s_p_is_wish_more) .none kV19 dc19 pm19 an19 cd19 ct19), sl19⟩) (c19 : PySem.W.codeIn K cd19 "is_wish_more" = true) (k19 : PySem.W.keepIn K (.ref f19) = true)
    (a20 : PySem.W.nsIn K mainGlobals "is_hand_more" = some (some (.ref f20))) (l20 : K.lookup f20 = some ⟨oc20, od20, .func (PySem.W.fnOf "is_hand_more" "is_hand_more" (defArgs s_p_is_hand_more) (defBody s_p_is_hand_more) (defScope s_p_is_hand_more) .none kV20 dc20 pm20 an20 cd20 ct20), sl20⟩) (c20 : PySem.W.codeIn K cd20 "is_hand_more" = true) (k20 : PySem.W.keepIn K (.ref f20) = true)
    (a21 : PySem.W.nsIn K mainGlobals "_law_system" = some (some (.ref f21))) (l21 : K.lookup f21 = some ⟨oc21, od21, .func (PySem.W.fnOf "_law_system" "_law_system" (defArgs s_f_law_system) (defBody s_f_law_system) (defScope s_f_law_system) .none kV21 dc21 pm21 an21 cd21 ct21), sl21⟩) (c21 : PySem.W.codeIn K cd21 "_law_system" = true) (k21 : PySem.W.keepIn K (.ref f21) = true)
    (a22 : PySem.W.nsIn K mainGlobals "_law_is_change" = some (some (.ref f22))) (l22 : K.lookup f22 = some ⟨oc22, od22, .func (PySem.W.fnOf "_law_is_change" "_law_is_change" (defArgs s_f_law_is_changem) (defBody s_f_law_is_changem) (defScope s_f_law_is_changem) .none kV22 dc22 pm22 an22 cd22 ct22), sl22⟩) (c22 : PySem.W.codeIn K cd22 "_law_is_change" = true) (k22 : PySem.W.keepIn K (.ref f22) = true)
    (a23 : PySem.W.nsIn K mainGlobals "_law_change" = some (some (.ref f23))) (l23 : K.lookup f23 = some ⟨oc23, od23, .func (PySem.W.fnOf "_law_change" "_law_change" (defArgs s_f_law_changem) (defBody s_f_law_changem) (defScope s_f_law_changem) .none kV23 dc23 pm23 an23 cd23 ct23), sl23⟩) (c23 : PySem.W.codeIn K cd23 "_law_change" = true) (k23 : PySem.W.keepIn K (.ref f23) = true)
    (a24 : PySem.W.nsIn K mainGlobals "is_work_more" = some (some (.ref f24))) (l24 : K.lookup f24 = some ⟨oc24, od24, .func (PySem.W.fnOf "is_work_more" "is_work_more" (defArgs s_p_is_work_more) (defBody s_p_is_work_more) (defScope s_p_is_work_more) .none kV24 dc24 pm24 an24 cd24 ct24), sl24⟩) (c24 : PySem.W.codeIn K cd24 "is_work_more" = true) (k24 : PySem.W.keepIn K (.ref f24) = true)
    (a25 : PySem.W.nsIn K mainGlobals "_law_any_system" = some (some (.ref f25))) (l25 : K.lookup f25 = some ⟨oc25, od25, .func (PySem.W.fnOf "_law_any_system" "_law_any_system" (defArgs s_f_law_any_system) (defBody s_f_law_any_system) (defScope s_f_law_any_system) .none kV25 dc25 pm25 an25 cd25 ct25), sl25⟩) (c25 : PySem.W.codeIn K cd25 "_law_any_system" = true) (k25 : PySem.W.keepIn K (.ref f25) = true)
    (a26 : PySem.W.nsIn K mainGlobals "is_change" = some (some (.ref f26))) (l26 : K.lookup f26 = some ⟨oc26, od26, .func (PySem.W.fnOf "is_change" "is_change" (defArgs s_p_is_change) (defBody s_p_is_change) (defScope s_p_is_change) .none kV26 dc26 pm26 an26 cd26 ct26), sl26⟩) (c26 : PySem.W.codeIn K cd26 "is_change" = true) (k26 : PySem.W.keepIn K (.ref f26) = true)
    (a27 : PySem.W.nsIn K mainGlobals "_law_near" = some (some (.ref f27))) (l27 : K.lookup f27 = some ⟨oc27, od27, .func (PySem.W.fnOf "_law_near" "_law_near" (defArgs s_f_law_nearm) (defBody s_f_law_nearm) (defScope s_f_law_nearm) .none kV27 dc27 pm27 an27 cd27 ct27), sl27⟩) (c27 : PySem.W.codeIn K cd27 "_law_near" = true) (k27 : PySem.W.keepIn K (.ref f27) = true)
    (a28 : PySem.W.nsIn K mainGlobals "_law_bent" = some (some (.ref f28))) (l28 : K.lookup f28 = some ⟨oc28, od28, .func (PySem.W.fnOf "_law_bent" "_law_bent" (defArgs s_f_law_bentm) (defBody s_f_law_bentm) (defScope s_f_law_bentm) .none kV28 dc28 pm28 an28 cd28 ct28), sl28⟩) (c28 : PySem.W.codeIn K cd28 "_law_bent" = true) (k28 : PySem.W.keepIn K (.ref f28) = true)
    (a29 : PySem.W.nsIn K mainGlobals "law" = some (some (.ref f29))) (l29 : K.lookup f29 = some ⟨oc29, od29, .func (PySem.W.fnOf "law" "law" (defArgs s_p_law) (defBody s_p_law) (defScope s_p_law) .none kV29 dc29 pm29 an29 cd29 ct29), sl29⟩) (c29 : PySem.W.codeIn K cd29 "law" = true) (k29 : PySem.W.keepIn K (.ref f29) = true)
    (hsm : smB K = true)
    (z_abs : PySem.W.nsIn K mainGlobals "abs" = some none)
    (z_all : PySem.W.nsIn K mainGlobals "all" = some none)
    (z_bool : PySem.W.nsIn K mainGlobals "bool" = some none)
    (z_int : PySem.W.nsIn K mainGlobals "int" = some none)
    (z_isinstance : PySem.W.nsIn K mainGlobals "isinstance" = some none)
    (z_len : PySem.W.nsIn K mainGlobals "len" = some none)
    (z_list : PySem.W.nsIn K mainGlobals "list" = some none)
    (z_max : PySem.W.nsIn K mainGlobals "max" = some none)
    (z_min : PySem.W.nsIn K mainGlobals "min" = some none)
    (z_range : PySem.W.nsIn K mainGlobals "range" = some none)
    (z_repr : PySem.W.nsIn K mainGlobals "repr" = some none)
    (z_str : PySem.W.nsIn K mainGlobals "str" = some none)
    (z_tuple : PySem.W.nsIn K mainGlobals "tuple" = some none)
    (z_zip : PySem.W.nsIn K mainGlobals "zip" = some none)
    (y_MOST_HANDS : PySem.W.nsIn K mainGlobals "MOST_HANDS" = some (some (.int 5 t_MOST_HANDS)))
    (y_MOST_LENGTH : PySem.W.nsIn K mainGlobals "MOST_LENGTH" = some (some (.int 10 t_MOST_LENGTH)))
    (y_MOST_WEIGHT : PySem.W.nsIn K mainGlobals "MOST_WEIGHT" = some (some (.int 100 t_MOST_WEIGHT)))
    (y_MOST_WISHES : PySem.W.nsIn K mainGlobals "MOST_WISHES" = some (some (.int 24 t_MOST_WISHES)))
    (y_MOST_WORKS : PySem.W.nsIn K mainGlobals "MOST_WORKS" = some (some (.int 12 t_MOST_WORKS)))
    (y_RANKS : PySem.W.nsIn K mainGlobals "RANKS" = some (some (.int 4 t_RANKS))) :
    ∃ fd : FuncData, (∀ (s : Shared) (v : Value), BindsTo s fd ⟨[v], []⟩ [("_law_script", v)]) ∧ ∀ base : Heap, K.In base → base.Ns mainGlobals mg → (∀ p ∈ tabCs K, LamX.TabB base mg p.1 p.2) → FnG l.prog w K mg base CX0 82 fa fd ["_law_script"] (spOf K S_p_law) := by
  have e := hfa.symm.trans (PySem.W.mg_of X G a29)
  have e2 : f29 = fa := (Value.ref.inj (Option.some.inj e)).symm
  subst e2
  let T : Txt K mg := { a_p_is_number := f0, d_p_is_number := _, F_p_is_number := fun_mk (st := s_p_is_number) l0 c0 k0, b_p_is_number := (fun_mk (st := s_p_is_number) l0 c0 k0).binds (fun _ _ _ _ _ _ us hl => match us, hl with | [_], _ => rfl), m_p_is_number := PySem.W.mg_of X G a0, a_f_law_deck := f1, d_f_law_deck := _, F_f_law_deck := fun_mk (st := s_f_law_deck) l1 c1 k1, b_f_law_deck := (fun_mk (st := s_f_law_deck) l1 c1 k1).binds (fun _ _ _ _ _ _ us hl => match us, hl with | [_], _ => rfl), m_f_law_deck := PySem.W.mg_of X G a1, a_f_law_next := f2, d_f_law_next := _, F_f_law_next := fun_mk (st := s_f_law_next) l2 c2 k2, b_f_law_next := (fun_mk (st := s_f_law_next) l2 c2 k2).binds (fun _ _ _ _ _ _ us hl => match us, hl with | [_], _ => rfl), m_f_law_next := PySem.W.mg_of X G a2, a_f_law_says := f3, d_f_law_says := _, F_f_law_says := fun_mk (st := s_f_law_says) l3 c3 k3, b_f_law_says := (fun_mk (st := s_f_law_says) l3 c3 k3).binds (fun _ _ _ _ _ _ us hl => match us, hl with | [_, _], _ => rfl), m_f_law_says := PySem.W.mg_of X G a3, a_f_law_is_from := f4, d_f_law_is_from := _, F_f_law_is_from := fun_mk (st := s_f_law_is_from) l4 c4 k4, b_f_law_is_from := (fun_mk (st := s_f_law_is_from) l4 c4 k4).binds (fun _ _ _ _ _ _ us hl => match us, hl with | [_, _, _], _ => rfl), m_f_law_is_from := PySem.W.mg_of X G a4, a_f_law_odd := f5, d_f_law_odd := _, F_f_law_odd := fun_mk (st := s_f_law_odd) l5 c5 k5, b_f_law_odd := (fun_mk (st := s_f_law_odd) l5 c5 k5).binds (fun _ _ _ _ _ _ us hl => match us, hl with | [_], _ => rfl), m_f_law_odd := PySem.W.mg_of X G a5, a_p_is_from := f6, d_p_is_from := _, F_p_is_from := fun_mk (st := s_p_is_from) l6 c6 k6, b_p_is_from := (fun_mk (st := s_p_is_from) l6 c6 k6).binds (fun _ _ _ _ _ _ us hl => match us, hl with | [_, _, _], _ => rfl), m_p_is_from := PySem.W.mg_of X G a6, a_f_law_is_rising := f7, d_f_law_is_rising := _, F_f_law_is_rising := fun_mk (st := s_f_law_is_rising) l7 c7 k7, b_f_law_is_rising := (fun_mk (st := s_f_law_is_rising) l7 c7 k7).binds (fun _ _ _ _ _ _ us hl => match us, hl with | [_, _], _ => rfl), m_f_law_is_rising := PySem.W.mg_of X G a7, a_f_law_rows_of := f8, d_f_law_rows_of := _, F_f_law_rows_of := fun_mk (st := s_f_law_rows_of) l8 c8 k8, b_f_law_rows_of := (fun_mk (st := s_f_law_rows_of) l8 c8 k8).binds (fun _ _ _ _ _ _ us hl => match us, hl with | [_, _, _], _ => rfl), m_f_law_rows_of := PySem.W.mg_of X G a8, a_f_law_wish := f9, d_f_law_wish := _, F_f_law_wish := fun_mk (st := s_f_law_wish) l9 c9 k9, b_f_law_wish := (fun_mk (st := s_f_law_wish) l9 c9 k9).binds (fun _ _ _ _ _ _ us hl => match us, hl with | [_, _, _], _ => rfl), m_f_law_wish := PySem.W.mg_of X G a9, a_f_law_is_wish := f10, d_f_law_is_wish := _, F_f_law_is_wish := fun_mk (st := s_f_law_is_wish) l10 c10 k10, b_f_law_is_wish := (fun_mk (st := s_f_law_is_wish) l10 c10 k10).binds (fun _ _ _ _ _ _ us hl => match us, hl with | [_, _, _], _ => rfl), m_f_law_is_wish := PySem.W.mg_of X G a10, a_p_is_rising := f11, d_p_is_rising := _, F_p_is_rising := fun_mk (st := s_p_is_rising) l11 c11 k11, b_p_is_rising := (fun_mk (st := s_p_is_rising) l11 c11 k11).binds (fun _ _ _ _ _ _ us hl => match us, hl with | [_, _], _ => rfl), m_p_is_rising := PySem.W.mg_of X G a11, a_p_is_wish := f12, d_p_is_wish := _, F_p_is_wish := fun_mk (st := s_p_is_wish) l12 c12 k12, b_p_is_wish := (fun_mk (st := s_p_is_wish) l12 c12 k12).binds (fun _ _ _ _ _ _ us hl => match us, hl with | [_, _, _], _ => rfl), m_p_is_wish := PySem.W.mg_of X G a12, a_p_is_place := f13, d_p_is_place := _, F_p_is_place := fun_mk (st := s_p_is_place) l13 c13 k13, b_p_is_place := (fun_mk (st := s_p_is_place) l13 c13 k13).binds (fun _ _ _ _ _ _ us hl => match us, hl with | [_, _], _ => rfl), m_p_is_place := PySem.W.mg_of X G a13, a_p_is_longer := f14, d_p_is_longer := _, F_p_is_longer := fun_mk (st := s_p_is_longer) l14 c14 k14, b_p_is_longer := (fun_mk (st := s_p_is_longer) l14 c14 k14).binds (fun _ _ _ _ _ _ us hl => match us, hl with | [_, _], _ => rfl), m_p_is_longer := PySem.W.mg_of X G a14, a_p_is_away := f15, d_p_is_away := _, F_p_is_away := fun_mk (st := s_p_is_away) l15 c15 k15, b_p_is_away := (fun_mk (st := s_p_is_away) l15 c15 k15).binds (fun _ _ _ _ _ _ us hl => match us, hl with | [_, _], _ => rfl), m_p_is_away := PySem.W.mg_of X G a15, a_f_law_work := f16, d_f_law_work := _, F_f_law_work := fun_mk (st := s_f_law_work) l16 c16 k16, b_f_law_work := (fun_mk (st := s_f_law_work) l16 c16 k16).binds (fun _ _ _ _ _ _ us hl => match us, hl with | [_, _, _, _], _ => rfl), m_f_law_work := PySem.W.mg_of X G a16, a_f_law_is_work := f17, d_f_law_is_work := _, F_f_law_is_work := fun_mk (st := s_f_law_is_work) l17 c17 k17, b_f_law_is_work := (fun_mk (st := s_f_law_is_work) l17 c17 k17).binds (fun _ _ _ _ _ _ us hl => match us, hl with | [_, _, _], _ => rfl), m_f_law_is_work := PySem.W.mg_of X G a17, a_p_is_work := f18, d_p_is_work := _, F_p_is_work := fun_mk (st := s_p_is_work) l18 c18 k18, b_p_is_work := (fun_mk (st := s_p_is_work) l18 c18 k18).binds (fun _ _ _ _ _ _ us hl => match us, hl with | [_, _, _], _ => rfl), m_p_is_work := PySem.W.mg_of X G a18, a_p_is_wish_more := f19, d_p_is_wish_more := _, F_p_is_wish_more := fun_mk (st := s_p_is_wish_more) l19 c19 k19, b_p_is_wish_more := (fun_mk (st := s_p_is_wish_more) l19 c19 k19).binds (fun _ _ _ _ _ _ us hl => match us, hl with | [_, _], _ => rfl), m_p_is_wish_more := PySem.W.mg_of X G a19, a_p_is_hand_more := f20, d_p_is_hand_more := _, F_p_is_hand_more := fun_mk (st := s_p_is_hand_more) l20 c20 k20, b_p_is_hand_more := (fun_mk (st := s_p_is_hand_more) l20 c20 k20).binds (fun _ _ _ _ _ _ us hl => match us, hl with | [_, _], _ => rfl), m_p_is_hand_more := PySem.W.mg_of X G a20, a_f_law_system := f21, d_f_law_system := _, F_f_law_system := fun_mk (st := s_f_law_system) l21 c21 k21, b_f_law_system := (fun_mk (st := s_f_law_system) l21 c21 k21).binds (fun _ _ _ _ _ _ us hl => match us, hl with | [_, _, _, _, _, _], _ => rfl), m_f_law_system := PySem.W.mg_of X G a21, a_f_law_is_changem := f22, d_f_law_is_changem := _, F_f_law_is_changem := fun_mk (st := s_f_law_is_changem) l22 c22 k22, b_f_law_is_changem := (fun_mk (st := s_f_law_is_changem) l22 c22 k22).binds (fun _ _ _ _ _ _ us hl => match us, hl with | [_, _], _ => rfl), m_f_law_is_changem := PySem.W.mg_of X G a22, a_f_law_changem := f23, d_f_law_changem := _, F_f_law_changem := fun_mk (st := s_f_law_changem) l23 c23 k23, b_f_law_changem := (fun_mk (st := s_f_law_changem) l23 c23 k23).binds (fun _ _ _ _ _ _ us hl => match us, hl with | [_, _, _], _ => rfl), m_f_law_changem := PySem.W.mg_of X G a23, a_p_is_work_more := f24, d_p_is_work_more := _, F_p_is_work_more := fun_mk (st := s_p_is_work_more) l24 c24 k24, b_p_is_work_more := (fun_mk (st := s_p_is_work_more) l24 c24 k24).binds (fun _ _ _ _ _ _ us hl => match us, hl with | [_, _], _ => rfl), m_p_is_work_more := PySem.W.mg_of X G a24, a_f_law_any_system := f25, d_f_law_any_system := _, F_f_law_any_system := fun_mk (st := s_f_law_any_system) l25 c25 k25, b_f_law_any_system := (fun_mk (st := s_f_law_any_system) l25 c25 k25).binds (fun _ _ _ _ _ _ us hl => match us, hl with | [_], _ => rfl), m_f_law_any_system := PySem.W.mg_of X G a25, a_p_is_change := f26, d_p_is_change := _, F_p_is_change := fun_mk (st := s_p_is_change) l26 c26 k26, b_p_is_change := (fun_mk (st := s_p_is_change) l26 c26 k26).binds (fun _ _ _ _ _ _ us hl => match us, hl with | [_, _], _ => rfl), m_p_is_change := PySem.W.mg_of X G a26, a_f_law_nearm := f27, d_f_law_nearm := _, F_f_law_nearm := fun_mk (st := s_f_law_nearm) l27 c27 k27, b_f_law_nearm := (fun_mk (st := s_f_law_nearm) l27 c27 k27).binds (fun _ _ _ _ _ _ us hl => match us, hl with | [_, _], _ => rfl), m_f_law_nearm := PySem.W.mg_of X G a27, a_f_law_bentm := f28, d_f_law_bentm := _, F_f_law_bentm := fun_mk (st := s_f_law_bentm) l28 c28 k28, b_f_law_bentm := (fun_mk (st := s_f_law_bentm) l28 c28 k28).binds (fun _ _ _ _ _ _ us hl => match us, hl with | [_, _], _ => rfl), m_f_law_bentm := PySem.W.mg_of X G a28, a_p_law := f29, d_p_law := _, F_p_law := fun_mk (st := s_p_law) l29 c29 k29, b_p_law := (fun_mk (st := s_p_law) l29 c29 k29).binds (fun _ _ _ _ _ _ us hl => match us, hl with | [_], _ => rfl), m_p_law := PySem.W.mg_of X G a29, sm := hsm, n_abs := PySem.W.mg_none_of X G z_abs, n_all := PySem.W.mg_none_of X G z_all, n_bool := PySem.W.mg_none_of X G z_bool, n_int := PySem.W.mg_none_of X G z_int, n_isinstance := PySem.W.mg_none_of X G z_isinstance, n_len := PySem.W.mg_none_of X G z_len, n_list := PySem.W.mg_none_of X G z_list, n_max := PySem.W.mg_none_of X G z_max, n_min := PySem.W.mg_none_of X G z_min, n_range := PySem.W.mg_none_of X G z_range, n_repr := PySem.W.mg_none_of X G z_repr, n_str := PySem.W.mg_none_of X G z_str, n_tuple := PySem.W.mg_none_of X G z_tuple, n_zip := PySem.W.mg_none_of X G z_zip, g_MOST_HANDS := ⟨_, PySem.W.mg_of X G y_MOST_HANDS⟩, g_MOST_LENGTH := ⟨_, PySem.W.mg_of X G y_MOST_LENGTH⟩, g_MOST_WEIGHT := ⟨_, PySem.W.mg_of X G y_MOST_WEIGHT⟩, g_MOST_WISHES := ⟨_, PySem.W.mg_of X G y_MOST_WISHES⟩, g_MOST_WORKS := ⟨_, PySem.W.mg_of X G y_MOST_WORKS⟩, g_RANKS := ⟨_, PySem.W.mg_of X G y_RANKS⟩ }
  exact ⟨T.d_p_law, fun s v => .of_eq rfl, fun base _ _ _ => ok_p_law T⟩
end DL.M
namespace DL
namespace HeadF
open PySem PySem.Spec PyProof.Rows L2
theorem facts {w : World} {K : PySem.W.Frag} {h : Heap} {mg : Str → Option Value} {fa : Addr} (X : K.In h) (G : h.Ns mainGlobals mg) (hfa : mg "law" = some (.ref fa)) (c : SaysW dfs (fun K => exs.all fun f => f K) h K) :
    ∃ fd : FuncData, (∀ (s : Shared) (v : Value), BindsTo s fd ⟨[v], []⟩ [("_law_script", v)]) ∧ ∀ base : Heap, K.In base → base.Ns mainGlobals mg → (∀ p ∈ tabCs K, LamX.TabB base mg p.1 p.2) → FnG PySem.Challenge.rw_workwishes_k47_changes_of_anything.prog w K mg base CX0 82 fa fd ["_law_script"] (spOf K DL.M.S_p_law) := by
  obtain ⟨_, _, _, _, _, _, _, _, _, l0, c0, k0⟩ := def_at c.d 0 (d := d_p_is_number) rfl rfl
  obtain ⟨_, _, _, _, _, _, _, _, _, l1, c1, k1⟩ := def_at c.d 1 (d := d_f_law_deck) rfl rfl
  obtain ⟨_, _, _, _, _, _, _, _, _, l2, c2, k2⟩ := def_at c.d 2 (d := d_f_law_next) rfl rfl
  obtain ⟨_, _, _, _, _, _, _, _, _, l3, c3, k3⟩ := def_at c.d 3 (d := d_f_law_says) rfl rfl
  obtain ⟨_, _, _, _, _, _, _, _, _, l4, c4, k4⟩ := def_at c.d 4 (d := d_f_law_is_from) rfl rfl
  obtain ⟨_, _, _, _, _, _, _, _, _, l5, c5, k5⟩ := def_at c.d 5 (d := d_f_law_odd) rfl rfl
  obtain ⟨_, _, _, _, _, _, _, _, _, l6, c6, k6⟩ := def_at c.d 6 (d := d_p_is_from) rfl rfl
  obtain ⟨_, _, _, _, _, _, _, _, _, l7, c7, k7⟩ := def_at c.d 7 (d := d_f_law_is_rising) rfl rfl
  obtain ⟨_, _, _, _, _, _, _, _, _, l8, c8, k8⟩ := def_at c.d 8 (d := d_f_law_rows_of) rfl rfl
  obtain ⟨_, _, _, _, _, _, _, _, _, l9, c9, k9⟩ := def_at c.d 9 (d := d_f_law_wish) rfl rfl
  obtain ⟨_, _, _, _, _, _, _, _, _, l10, c10, k10⟩ := def_at c.d 10 (d := d_f_law_is_wish) rfl rfl
  obtain ⟨_, _, _, _, _, _, _, _, _, l11, c11, k11⟩ := def_at c.d 11 (d := d_p_is_rising) rfl rfl
  obtain ⟨_, _, _, _, _, _, _, _, _, l12, c12, k12⟩ := def_at c.d 12 (d := d_p_is_wish) rfl rfl
  obtain ⟨_, _, _, _, _, _, _, _, _, l13, c13, k13⟩ := def_at c.d 13 (d := d_p_is_place) rfl rfl
  obtain ⟨_, _, _, _, _, _, _, _, _, l14, c14, k14⟩ := def_at c.d 14 (d := d_p_is_longer) rfl rfl
  obtain ⟨_, _, _, _, _, _, _, _, _, l15, c15, k15⟩ := def_at c.d 15 (d := d_p_is_away) rfl rfl
  obtain ⟨_, _, _, _, _, _, _, _, _, l16, c16, k16⟩ := def_at c.d 16 (d := d_f_law_work) rfl rfl
  obtain ⟨_, _, _, _, _, _, _, _, _, l17, c17, k17⟩ := def_at c.d 17 (d := d_f_law_is_work) rfl rfl
  obtain ⟨_, _, _, _, _, _, _, _, _, l18, c18, k18⟩ := def_at c.d 18 (d := d_p_is_work) rfl rfl
  obtain ⟨_, _, _, _, _, _, _, _, _, l19, c19, k19⟩ := def_at c.d 19 (d := d_p_is_wish_more) rfl rfl
  obtain ⟨_, _, _, _, _, _, _, _, _, l20, c20, k20⟩ := def_at c.d 20 (d := d_p_is_hand_more) rfl rfl
  obtain ⟨_, _, _, _, _, _, _, _, _, l21, c21, k21⟩ := def_at c.d 21 (d := d_f_law_system) rfl rfl
  obtain ⟨_, _, _, _, _, _, _, _, _, l22, c22, k22⟩ := def_at c.d 22 (d := d_f_law_is_changem) rfl rfl
  obtain ⟨_, _, _, _, _, _, _, _, _, l23, c23, k23⟩ := def_at c.d 23 (d := d_f_law_changem) rfl rfl
  obtain ⟨_, _, _, _, _, _, _, _, _, l24, c24, k24⟩ := def_at c.d 24 (d := d_p_is_work_more) rfl rfl
  obtain ⟨_, _, _, _, _, _, _, _, _, l25, c25, k25⟩ := def_at c.d 25 (d := d_f_law_any_system) rfl rfl
  obtain ⟨_, _, _, _, _, _, _, _, _, l26, c26, k26⟩ := def_at c.d 26 (d := d_p_is_change) rfl rfl
  obtain ⟨_, _, _, _, _, _, _, _, _, l27, c27, k27⟩ := def_at c.d 27 (d := d_f_law_nearm) rfl rfl
  obtain ⟨_, _, _, _, _, _, _, _, _, l28, c28, k28⟩ := def_at c.d 28 (d := d_f_law_bentm) rfl rfl
  obtain ⟨_, _, _, _, _, _, _, _, _, l29, c29, k29⟩ := def_at c.d 29 (d := d_p_law) rfl rfl
  obtain ⟨_, y_MOST_HANDS⟩ := intB_ok (exs_at c.ex 45 (f := fun K => intB K "MOST_HANDS" 5) rfl)
  obtain ⟨_, y_MOST_LENGTH⟩ := intB_ok (exs_at c.ex 46 (f := fun K => intB K "MOST_LENGTH" 10) rfl)
  obtain ⟨_, y_MOST_WEIGHT⟩ := intB_ok (exs_at c.ex 47 (f := fun K => intB K "MOST_WEIGHT" 100) rfl)
  obtain ⟨_, y_MOST_WISHES⟩ := intB_ok (exs_at c.ex 48 (f := fun K => intB K "MOST_WISHES" 24) rfl)
  obtain ⟨_, y_MOST_WORKS⟩ := intB_ok (exs_at c.ex 49 (f := fun K => intB K "MOST_WORKS" 12) rfl)
  obtain ⟨_, y_RANKS⟩ := intB_ok (exs_at c.ex 50 (f := fun K => intB K "RANKS" 4) rfl)
  exact DL.M.all_mk (l := PySem.Challenge.rw_workwishes_k47_changes_of_anything) X G hfa (of_decide_eq_true (exs_at c.ex 0 (f := fun K => decide (PySem.W.nsIn K mainGlobals "is_number" = some (some (.ref (He.fAd K d_p_is_number.at_))))) rfl)) l0 c0 k0 (of_decide_eq_true (exs_at c.ex 1 (f := fun K => decide (PySem.W.nsIn K mainGlobals "_law_deck" = some (some (.ref (He.fAd K d_f_law_deck.at_))))) rfl)) l1 c1 k1 (of_decide_eq_true (exs_at c.ex 2 (f := fun K => decide (PySem.W.nsIn K mainGlobals "_law_next" = some (some (.ref (He.fAd K d_f_law_next.at_))))) rfl)) l2 c2 k2 (of_decide_eq_true (exs_at c.ex 3 (f := fun K => decide (PySem.W.nsIn K mainGlobals "_law_says" = some (some (.ref (He.fAd K d_f_law_says.at_))))) rfl)) l3 c3 k3 (of_decide_eq_true (exs_at c.ex 4 (f := fun K => decide (PySem.W.nsIn K mainGlobals "_law_is_from" = some (some (.ref (He.fAd K d_f_law_is_from.at_))))) rfl)) l4 c4 k4 (of_decide_eq_true (exs_at c.ex 5 (f := fun K => decide (PySem.W.nsIn K mainGlobals "_law_odd" = some (some (.ref (He.fAd K d_f_law_odd.at_))))) rfl)) l5 c5 k5 (of_decide_eq_true (exs_at c.ex 6 (f := fun K => decide (PySem.W.nsIn K mainGlobals "is_from" = some (some (.ref (He.fAd K d_p_is_from.at_))))) rfl)) l6 c6 k6 (of_decide_eq_true (exs_at c.ex 7 (f := fun K => decide (PySem.W.nsIn K mainGlobals "_law_is_rising" = some (some (.ref (He.fAd K d_f_law_is_rising.at_))))) rfl)) l7 c7 k7 (of_decide_eq_true (exs_at c.ex 8 (f := fun K => decide (PySem.W.nsIn K mainGlobals "_law_rows_of" = some (some (.ref (He.fAd K d_f_law_rows_of.at_))))) rfl)) l8 c8 k8 (of_decide_eq_true (exs_at c.ex 9 (f := fun K => decide (PySem.W.nsIn K mainGlobals "_law_wish" = some (some (.ref (He.fAd K d_f_law_wish.at_))))) rfl)) l9 c9 k9 (of_decide_eq_true (exs_at c.ex 10 (f := fun K => decide (PySem.W.nsIn K mainGlobals "_law_is_wish" = some (some (.ref (He.fAd K d_f_law_is_wish.at_))))) rfl)) l10 c10 k10 (of_decide_eq_true (exs_at c.ex 11 (f := fun K => decide (PySem.W.nsIn K mainGlobals "is_rising" = some (some (.ref (He.fAd K d_p_is_rising.at_))))) rfl)) l11 c11 k11 (of_decide_eq_true (exs_at c.ex 12 (f := fun K => decide (PySem.W.nsIn K mainGlobals "is_wish" = some (some (.ref (He.fAd K d_p_is_wish.at_))))) rfl)) l12 c12 k12 (of_decide_eq_true (exs_at c.ex 13 (f := fun K => decide (PySem.W.nsIn K mainGlobals "is_place" = some (some (.ref (He.fAd K d_p_is_place.at_))))) rfl)) l13 c13 k13 (of_decide_eq_true (exs_at c.ex 14 (f := fun K => decide (PySem.W.nsIn K mainGlobals "is_longer" = some (some (.ref (He.fAd K d_p_is_longer.at_))))) rfl)) l14 c14 k14 (of_decide_eq_true (exs_at c.ex 15 (f := fun K => decide (PySem.W.nsIn K mainGlobals "is_away" = some (some (.ref (He.fAd K d_p_is_away.at_))))) rfl)) l15 c15 k15 (of_decide_eq_true (exs_at c.ex 16 (f := fun K => decide (PySem.W.nsIn K mainGlobals "_law_work" = some (some (.ref (He.fAd K d_f_law_work.at_))))) rfl)) l16 c16 k16 (of_decide_eq_true (exs_at c.ex 17 (f := fun K => decide (PySem.W.nsIn K mainGlobals "_law_is_work" = some (some (.ref (He.fAd K d_f_law_is_work.at_))))) rfl)) l17 c17 k17 (of_decide_eq_true (exs_at c.ex 18 (f := fun K => decide (PySem.W.nsIn K mainGlobals "is_work" = some (some (.ref (He.fAd K d_p_is_work.at_))))) rfl)) l18 c18 k18 (of_decide_eq_true (exs_at c.ex 19 (f := fun K => decide (PySem.W.nsIn K mainGlobals "is_wish_more" = some (some (.ref (He.fAd K d_p_is_wish_more.at_))))) rfl)) l19 c19 k19 (of_decide_eq_true (exs_at c.ex 20 (f := fun K => decide (PySem.W.nsIn K mainGlobals "is_hand_more" = some (some (.ref (He.fAd K d_p_is_hand_more.at_))))) rfl)) l20 c20 k20 (of_decide_eq_true (exs_at c.ex 21 (f := fun K => decide (PySem.W.nsIn K mainGlobals "_law_system" = some (some (.ref (He.fAd K d_f_law_system.at_))))) rfl)) l21 c21 k21 (of_decide_eq_true (exs_at c.ex 22 (f := fun K => decide (PySem.W.nsIn K mainGlobals "_law_is_change" = some (some (.ref (He.fAd K d_f_law_is_changem.at_))))) rfl)) l22 c22 k22 (of_decide_eq_true (exs_at c.ex 23 (f := fun K => decide (PySem.W.nsIn K mainGlobals "_law_change" = some (some (.ref (He.fAd K d_f_law_changem.at_))))) rfl)) l23 c23 k23 (of_decide_eq_true (exs_at c.ex 24 (f := fun K => decide (PySem.W.nsIn K mainGlobals "is_work_more" = some (some (.ref (He.fAd K d_p_is_work_more.at_))))) rfl)) l24 c24 k24 (of_decide_eq_true (exs_at c.ex 25 (f := fun K => decide (PySem.W.nsIn K mainGlobals "_law_any_system" = some (some (.ref (He.fAd K d_f_law_any_system.at_))))) rfl)) l25 c25 k25 (of_decide_eq_true (exs_at c.ex 26 (f := fun K => decide (PySem.W.nsIn K mainGlobals "is_change" = some (some (.ref (He.fAd K d_p_is_change.at_))))) rfl)) l26 c26 k26 (of_decide_eq_true (exs_at c.ex 27 (f := fun K => decide (PySem.W.nsIn K mainGlobals "_law_near" = some (some (.ref (He.fAd K d_f_law_nearm.at_))))) rfl)) l27 c27 k27 (of_decide_eq_true (exs_at c.ex 28 (f := fun K => decide (PySem.W.nsIn K mainGlobals "_law_bent" = some (some (.ref (He.fAd K d_f_law_bentm.at_))))) rfl)) l28 c28 k28 (of_decide_eq_true (exs_at c.ex 29 (f := fun K => decide (PySem.W.nsIn K mainGlobals "law" = some (some (.ref (He.fAd K d_p_law.at_))))) rfl)) l29 c29 k29 (of_decide_eq_true (exs_at c.ex 30 (f := fun K => decide (smB K = true)) rfl)) (of_decide_eq_true (exs_at c.ex 31 (f := fun K => decide (PySem.W.nsIn K mainGlobals "abs" = some none)) rfl)) (of_decide_eq_true (exs_at c.ex 32 (f := fun K => decide (PySem.W.nsIn K mainGlobals "all" = some none)) rfl)) (of_decide_eq_true (exs_at c.ex 33 (f := fun K => decide (PySem.W.nsIn K mainGlobals "bool" = some none)) rfl)) (of_decide_eq_true (exs_at c.ex 34 (f := fun K => decide (PySem.W.nsIn K mainGlobals "int" = some none)) rfl)) (of_decide_eq_true (exs_at c.ex 35 (f := fun K => decide (PySem.W.nsIn K mainGlobals "isinstance" = some none)) rfl)) (of_decide_eq_true (exs_at c.ex 36 (f := fun K => decide (PySem.W.nsIn K mainGlobals "len" = some none)) rfl)) (of_decide_eq_true (exs_at c.ex 37 (f := fun K => decide (PySem.W.nsIn K mainGlobals "list" = some none)) rfl)) (of_decide_eq_true (exs_at c.ex 38 (f := fun K => decide (PySem.W.nsIn K mainGlobals "max" = some none)) rfl)) (of_decide_eq_true (exs_at c.ex 39 (f := fun K => decide (PySem.W.nsIn K mainGlobals "min" = some none)) rfl)) (of_decide_eq_true (exs_at c.ex 40 (f := fun K => decide (PySem.W.nsIn K mainGlobals "range" = some none)) rfl)) (of_decide_eq_true (exs_at c.ex 41 (f := fun K => decide (PySem.W.nsIn K mainGlobals "repr" = some none)) rfl)) (of_decide_eq_true (exs_at c.ex 42 (f := fun K => decide (PySem.W.nsIn K mainGlobals "str" = some none)) rfl)) (of_decide_eq_true (exs_at c.ex 43 (f := fun K => decide (PySem.W.nsIn K mainGlobals "tuple" = some none)) rfl)) (of_decide_eq_true (exs_at c.ex 44 (f := fun K => decide (PySem.W.nsIn K mainGlobals "zip" = some none)) rfl)) y_MOST_HANDS y_MOST_LENGTH y_MOST_WEIGHT y_MOST_WISHES y_MOST_WORKS y_RANKS
end HeadF
end DL
open PySem PySem.W PySem.Calls PyProof.Rows
set_option maxHeartbeats 0 in
theorem PySem.Challenge.cw_workwishes_k47_changes_of_anything_holds : PySem.Challenge.rw_workwishes_k47_changes_of_anything.Holds := by
  w_on; o_law
  refine HandSHeadRun.head_any (r := OpenLaw.row PySem.Challenge.rw_workwishes_k47_changes_of_anything) (q := view (OpenLaw.row PySem.Challenge.rw_workwishes_k47_changes_of_anything).prog [39]) (H := DL.HeadF.hk) (ob := DL.HeadF.ob) (M := 40000) (loose := DL.HeadF.loose) (d := HandSHeadRun.topDef (OpenLaw.row PySem.Challenge.rw_workwishes_k47_changes_of_anything).prog 39) (kwd := []) DL.HeadF.ob_eq (by kernel_rfl) (fun s => by kernel_rfl) DL.HeadF.run (by kernel_rfl) (by kernel_rfl) (by kernel_rfl) (by rfl) (by first | assumption | decide +kernel) (by decide +kernel) ⟨rfl, rfl, rfl, rfl, rfl, by decide +kernel⟩ ?hw ?hc
  case hw => w_witness2
  case hc =>
    refine DL.walk_TE (l := PySem.Challenge.rw_workwishes_k47_changes_of_anything) (n := 63) (k := 82) (x := "_law_script") (sp := fun K => DL.spOf K DL.M.S_p_law) rfl (by decide) (by kernel_rfl) ⟨rfl, by decide, by decide⟩ ?F (fun K H a ns hl hT hS => DL.law_end (S := DL.M.S_p_law) rfl (fun ns => ns) (fun _ => rfl) (fun ns h => ⟨h, rfl⟩) (fun _ _ _ _ h => h) H a ns hl hT hS)
    intro w mg fa h Y G hmg0
    obtain ⟨K, KX, c⟩ := Y
    have hmg : mg ("law" : PySem.Str) = some (.ref fa) := by
      have e : (HandSHeadRun.topDef (OpenLaw.row PySem.Challenge.rw_workwishes_k47_changes_of_anything).prog 39).name = ("law" : PySem.Str) := by kernel_rfl
      rw [← e]
      exact hmg0
    exact ⟨K, KX, DL.tabs_ok KX c, DL.HeadF.facts KX G hmg c⟩
