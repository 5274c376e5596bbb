import PyProof.Rows.All
import Wide.All
import OpenK.AllK
import Wide.FinOn
import HandS.Base
import HandS.Call
import HandS.List
import HandS.Comp
import HandS.Dict
import HandS.Iter
import HandS.Ends
import HandS.Words
import HandS.Lambda
import HandS.EndTab
import HandS.Exc
import HandS.TupAny
import HandS.TupMul
import HandS.Conv
import HandS.Zip
import KE.GoesEnum
import KE.GoesMore
import KE.GoesZip
import HandS.Head0
import HandS.Head1
import HandS.Head2
import HandS.HeadHook4
import HandS.Walk
import HandS.TupLe
import HandS.Wide
import HandS.Style
import HandS.Deep
import HandS.IsInst
import HandS.Text
import HandS.RaiseMore
import PyProof.StrOps2
import HandS.Set
import HandS.SetFor
import HandS.SetTxt0
import HandS.Strs
import HandS.SortOrd
import HandS.SortRule
import HandS.SortInts
import KE.KNestM
import PySem.Challenge.RW_workwishes_k22_whole_no_plan_is_better
set_option Elab.async false
set_option linter.all false
set_option maxRecDepth 100000
set_option maxHeartbeats 4000000
namespace DL
open PySem PySem.Spec PyProof.Rows L2
inductive D where
  | non | bl (b : Bool) | int (i : Int) | str (s : Str) | tup (ds : List D) | lst (ds : List D) | scr (ds : List D) | dct (kvs : List (Key × Key)) | ref (n : Nat) | fn (a : Addr) (io : List Addr) (F : Hp) | exc (c : Str) (ns : List Str) (ds : List D)
inductive Cel where
  | lst (ds : List D) | dead | ins (C : Str) (fs : List (Str × D)) | dct (l : Option Obj) (kvs : List (Key × Key))
abbrev Sto := List Cel
abbrev En := List (Option D)
/-- a tuple whose object is known to have no dict -/
def SqE (K : PySem.W.Frag) (F : Hp) (a : Addr) (xs : List V) : Prop := (∃ o, F a = some (.frz o (.tup xs)) ∧ o.dict = none) ∨
  ∃ (o : Obj) (its : Array Value) (n : Nat), K.lookup a = some o ∧ o.cls = .type "tuple" ∧ o.data = .seq its n ∧ its.size ≤ sizeLine ∧ Vals xs its.toList ∧ o.dict = none
theorem SqE.t {K : PySem.W.Frag} {F : Hp} {a : Addr} {xs : List V} (s : SqE K F a xs) : SqT K F a xs := by
  rcases s with ⟨o, s, _⟩ | ⟨o, its, n, h1, h2, h3, h4, h5, _⟩
  · exact .inl (.inr ⟨o, s⟩)
  · exact .inr ⟨o, its, n, h1, h2, h3, h4, h5⟩
theorem SqE.mono {K : PySem.W.Frag} {F F' : Hp} {a : Addr} {xs : List V} (h : ∀ a o, F a = some o → F' a = some o) (s : SqE K F a xs) : SqE K F' a xs := by
  rcases s with ⟨o, s, d⟩ | s
  · exact .inl ⟨o, h _ _ s, d⟩
  · exact .inr s
/-- an exception's object at a, its class, its dict -/
def exV (C : Addr) (d : Option Addr) (a : Addr) : HO := .ext fun h => ∃ (oe : Obj) (vs : Array Value), h.get? a = some oe ∧ Zc (.ref C) d oe ∧ oe.data = .fields vs
def ExD (F : Hp) (d : Option Addr) (fv : List (Str × V)) : Prop := (d = none ∧ fv = []) ∨ ∃ dd, d = some dd ∧ F dd = some (.xd fv)
theorem ExD.mono {F F' : Hp} {d : Option Addr} {fv : List (Str × V)} (h : ∀ a o, F a = some o → F' a = some o) (x : ExD F d fv) : ExD F' d fv := by
  rcases x with x | ⟨dd, e, z⟩
  · exact .inl x
  · exact .inr ⟨dd, e, h _ _ z⟩
mutual
inductive Den (K : PySem.W.Frag) (io : List Addr) (F : Hp) : V → D → Prop
  | non : Den K io F .non .non
  | bl (b : Bool) : Den K io F (.bl b) (.bl b)
  | int (i : Int) : Den K io F (.int i) (.int i)
  | str (x : Str) : Den K io F (.str x) (.str x)
  | tup {a : Addr} {xs : List V} {ds : List D} : SqE K F a xs → DenL K io F xs ds → ds.length ≤ sizeLine → Den K io F (.ref a) (.tup ds)
  | lst {a : Addr} {xs : List V} {ds : List D} : F a = some (.lst xs) → DenL K io F xs ds → ds.length ≤ sizeLine → Den K io F (.ref a) (.lst ds)
  | scr {a : Addr} {xs : List V} {ds : List D} : SqL K F a xs → DenL K io F xs ds → ds.length ≤ sizeLine → Den K io F (.ref a) (.scr ds)
  | dct {a : Addr} {kvs : List (Key × Key)} : F a = some (.dK (kvs.map fun p => (p.1, kV p.2))) → Den K io F (.ref a) (.dct kvs)
  | ref {a : Addr} {n : Nat} : io[n]? = some a → Den K io F (.ref a) (.ref n)
  | fn {a : Addr} {io0 : List Addr} {F0 : Hp} : (∀ (n : Nat) b, io0[n]? = some b → io[n]? = some b) → (∀ b o, F0 b = some o → F b = some o) → Den K io F (.ref a) (.fn a io0 F0)
  | exc {a C : Addr} {c : Str} {d : Option Addr} {fv : List (Str × V)} {ns : List Str} {vs : List V} {ds : List D} : PySem.W.nsIn K mainGlobals c = some (some (.ref C)) → F a = some (exV C d a) → ExD F d fv → ns = fv.map (·.1) → vs = fv.map (·.2) → DenL K io F vs ds → Den K io F (.ref a) (.exc c ns ds)
inductive DenL (K : PySem.W.Frag) (io : List Addr) (F : Hp) : List V → List D → Prop
  | nil : DenL K io F [] []
  | cons {v : V} {vs : List V} {d : D} {ds : List D} : Den K io F v d → DenL K io F vs ds → DenL K io F (v :: vs) (d :: ds)
end
section
variable {K : PySem.W.Frag} {io io' : List Addr} {F F' : Hp}
theorem SqT_mono {a : Addr} {xs : List V} (h : ∀ a o, F a = some o → F' a = some o) (s : SqT K F a xs) : SqT K F' a xs := by
  rcases s with (s | ⟨o, s⟩) | s
  · exact .inl (.inl (h _ _ s))
  · exact .inl (.inr ⟨o, h _ _ s⟩)
  · exact .inr s
theorem SqL_mono {a : Addr} {xs : List V} (h : ∀ a o, F a = some o → F' a = some o) (s : SqL K F a xs) : SqL K F' a xs := by
  rcases s with (s | ⟨o, s⟩) | s
  · exact .inl (.inl (h _ _ s))
  · exact .inl (.inr ⟨o, h _ _ s⟩)
  · exact .inr s
mutual
theorem Den.mono (hi : ∀ (n : Nat) a, io[n]? = some a → io'[n]? = some a) (h : ∀ a o, F a = some o → F' a = some o) : ∀ {v : V} {d : D}, Den K io F v d → Den K io' F' v d
  | _, _, .non => .non
  | _, _, .bl b => .bl b
  | _, _, .int i => .int i
  | _, _, .str x => .str x
  | _, _, .tup s r z => .tup (s.mono h) (DenL.mono hi h r) z
  | _, _, .lst s r z => .lst (h _ _ s) (DenL.mono hi h r) z
  | _, _, .scr s r z => .scr (SqL_mono h s) (DenL.mono hi h r) z
  | _, _, .dct e => .dct (h _ _ e)
  | _, _, .ref e => .ref (hi _ _ e)
  | _, _, .fn a b => .fn (fun n c e => hi n c (a n c e)) (fun c o e => h c o (b c o e))
  | _, _, .exc n e x a b r => .exc n (h _ _ e) (x.mono h) a b (DenL.mono hi h r)
theorem DenL.mono (hi : ∀ (n : Nat) a, io[n]? = some a → io'[n]? = some a) (h : ∀ a o, F a = some o → F' a = some o) : ∀ {vs : List V} {ds : List D}, DenL K io F vs ds → DenL K io' F' vs ds
  | _, _, .nil => .nil
  | _, _, .cons a b => .cons (Den.mono hi h a) (DenL.mono hi h b)
end
theorem DenL.length : ∀ {vs : List V} {ds : List D}, DenL K io F vs ds → vs.length = ds.length
  | _, _, .nil => rfl
  | _, _, .cons _ r => by rw [List.length_cons, List.length_cons, r.length]
theorem DenL.get : ∀ {vs : List V} {ds : List D} {i : Nat} {d : D}, DenL K io F vs ds → ds[i]? = some d → ∃ v, vs[i]? = some v ∧ Den K io F v d
  | _, _, _, _, .nil, e => by simp at e
  | _, _, 0, _, .cons r _, e => by simp at e; subst e; exact ⟨_, rfl, r⟩
  | _, _, i + 1, d, .cons _ t, e => by
    obtain ⟨u, h1, h2⟩ := DenL.get (i := i) (d := d) t (by simpa using e)
    exact ⟨u, by simpa using h1, h2⟩
theorem DenL.append : ∀ {vs ws : List V} {ds es : List D}, DenL K io F vs ds → DenL K io F ws es → DenL K io F (vs ++ ws) (ds ++ es)
  | _, _, _, _, .nil, s => s
  | _, _, _, _, .cons r t, s => .cons r (DenL.append t s)
theorem DenL.take : ∀ {vs : List V} {ds : List D} (n : Nat), DenL K io F vs ds → DenL K io F (vs.take n) (ds.take n)
  | _, _, 0, _ => by rw [List.take_zero, List.take_zero]; exact .nil
  | _, _, _ + 1, .nil => .nil
  | _, _, n + 1, .cons r t => .cons r (DenL.take n t)
theorem DenL.drop : ∀ {vs : List V} {ds : List D} (n : Nat), DenL K io F vs ds → DenL K io F (vs.drop n) (ds.drop n)
  | _, _, 0, r => r
  | _, _, _ + 1, .nil => .nil
  | _, _, n + 1, .cons _ t => DenL.drop n t
theorem DenL.rev : ∀ {vs : List V} {ds : List D}, DenL K io F vs ds → DenL K io F vs.reverse ds.reverse
  | _, _, .nil => .nil
  | _, _, .cons r t => by rw [List.reverse_cons, List.reverse_cons]; exact (DenL.rev t).append (.cons r .nil)
theorem DenL.setAt : ∀ {vs : List V} {ds : List D} (i : Nat) {v : V} {d : D}, Den K io F v d → DenL K io F vs ds → DenL K io F (vs.set i v) (ds.set i d)
  | _, _, _, _, _, _, .nil => .nil
  | _, _, 0, _, _, q, .cons _ t => .cons q t
  | _, _, i + 1, _, _, q, .cons r t => .cons r (DenL.setAt i q t)
theorem DenL.erase : ∀ {vs : List V} {ds : List D} (i : Nat), DenL K io F vs ds → DenL K io F (vs.eraseIdx i) (ds.eraseIdx i)
  | _, _, _, .nil => .nil
  | _, _, 0, .cons _ t => t
  | _, _, i + 1, .cons r t => .cons r (DenL.erase i t)
theorem DenL.none_of {vs : List V} {ds : List D} {i : Nat} (r : DenL K io F vs ds) (e : ds[i]? = none) : vs[i]? = none := by
  have h := r.length
  have h2 := List.getElem?_eq_none_iff.mp e
  exact List.getElem?_eq_none_iff.mpr (by omega)
theorem DenL.replicate {v : V} {d : D} (h : Den K io F v d) : ∀ n : Nat, DenL K io F (List.replicate n v) (List.replicate n d)
  | 0 => .nil
  | n + 1 => by rw [List.replicate_succ, List.replicate_succ]; exact .cons h (DenL.replicate h n)
theorem DenL.flat {vs : List V} {ds : List D} (h : DenL K io F vs ds) : ∀ n : Nat, DenL K io F (List.replicate n vs).flatten (List.replicate n ds).flatten
  | 0 => .nil
  | n + 1 => by rw [List.replicate_succ, List.replicate_succ, List.flatten_cons, List.flatten_cons]; exact h.append (DenL.flat h n)
end
def lamNames : List Str := ["weights_of", "hoped_weights"]
def lamQ (x : Str) : Str := x ++ ".<locals>." ++ "<lambda>"
def tabsOf (K : PySem.W.Frag) : List (Addr × Str) := lamNames.filterMap fun x => (PySem.W.tabIn K x).map fun p => (p.2, lamQ x)
abbrev DenF (K : PySem.W.Frag) (io : List Addr) (F : Hp) : List (Str × V) → List (Str × D) → Prop := Paired fun p q => p.1 = q.1 ∧ Den K io F p.2 q.2
/-- a dict of one's own: open, or locked while it is walked -/
def DLk (l : Option Obj) (kvs : List (Key × Key)) (u : HO) : Prop := (l = none ∧ u = .dK (kvs.map fun p => (p.1, kV p.2))) ∨ ∃ o, l = some o ∧ u = .frz o (.dK (kvs.map fun p => (p.1, kV p.2)))
def CelOk (K : PySem.W.Frag) (H : Hp) (io : List Addr) (F : Hp) (a : Addr) : Cel → Prop
  | .lst ds => F a = none ∧ ds.length ≤ sizeLine ∧ ∃ vs, H a = some (.lst vs) ∧ DenL K io F vs ds
  | .dead => True
  | .ins C fs => F a = none ∧ ∃ cc dx fv, PySem.W.nsIn K mainGlobals C = some (some (.ref cc)) ∧ H a = some (.ins cc dx fv) ∧ DenF K io F fv fs
  | .dct b kvs => F a = none ∧ kvs.length ≤ sizeLine ∧ ∃ u, H a = some u ∧ DLk b kvs u
structure RelH (K : PySem.W.Frag) (H : Hp) (io : List Addr) (F : Hp) (st : Sto) : Prop where
  sub : ∀ a o, F a = some o → H a = some o
  len : io.length = st.length
  nd : io.Nodup
  there : ∀ a ∈ io, ∃ o, H a = some o
  cel : ∀ (n : Nat) c a, st[n]? = some c → io[n]? = some a → CelOk K H io F a c
  tab : ∀ p ∈ tabsOf K, F p.1 = none ∧ p.1 ∉ io ∧ ∃ ps, H p.1 = some (.tbl ps) ∧ TriplesOk ps.toList ∧ ∀ (pos : Pos) (cv : Value), codeAmong pos ps.toList = some cv → ∃ c, cv = .ref c ∧ F c = some (LamX.CodeO c p.2)
/-- from one state to a later one -/
structure Stp (H : Hp) (io : List Addr) (F H' : Hp) (io' : List Addr) (F' : Hp) : Prop where
  ext : ∃ more, io' = io ++ more ∧ ∀ a ∈ more, H a = none
  fr : ∀ a o, F a = some o → F' a = some o
  keep : ∀ a o, H a = some o → (∀ ps, o ≠ .tbl ps) → a ∉ io → H' a = some o
  dom : ∀ a o, H a = some o → ∃ o', H' a = some o'
  fnw : ∀ a o, F' a = some o → F a = some o ∨ H a = none ∨ a ∈ io
/-- whence an exception's wish looks on: the state at a def's, a try's or a suite's start -/
class Bs where
  H : Hp
  io : List Addr
  F : Hp
structure Rel [B : Bs] (K : PySem.W.Frag) (σ : L2.St) (H : Hp) (env : En) (io : List Addr) (F : Hp) (st : Sto) : Prop extends RelH K H io F st where
  sl : σ.length = env.length
  slot : ∀ (i : Nat) d, env[i]? = some (some d) → ∃ v, σ[i]? = some (some v) ∧ Den K io F v d
  bs : Stp B.H B.io B.F H io F
section
variable {K : PySem.W.Frag} {io io' io1 io2 : List Addr} {F F' F1 F2 H H' H1 H2 : Hp} {st st' : Sto} {σ : L2.St} {env : En}
theorem Stp.ix (s : Stp H io F H' io' F') (n : Nat) (a : Addr) (h : io[n]? = some a) : io'[n]? = some a := by
  obtain ⟨more, e, _⟩ := s.ext
  subst e
  rw [List.getElem?_append_left (List.getElem?_eq_some_iff.mp h).1]
  exact h
theorem Stp.den (s : Stp H io F H' io' F') {v : V} {d : D} (h : Den K io F v d) : Den K io' F' v d := h.mono s.ix s.fr
theorem Stp.denL (s : Stp H io F H' io' F') {v : List V} {d : List D} (h : DenL K io F v d) : DenL K io' F' v d := h.mono s.ix s.fr
theorem Stp.refl : Stp H io F H io F := ⟨⟨[], by simp, fun _ h => by cases h⟩, fun _ _ h => h, fun _ _ h _ _ => h, fun _ o h => ⟨o, h⟩, fun _ _ h => .inl h⟩
theorem Stp.none_of (s : Stp H io F H' io' F') {a : Addr} (h : H' a = none) : H a = none := by
  cases e : H a with
  | none => rfl
  | some o =>
    obtain ⟨o', h'⟩ := s.dom a o e
    rw [h] at h'; cases h'
theorem Stp.trans (s : Stp H io F H1 io1 F1) (t : Stp H1 io1 F1 H2 io2 F2) : Stp H io F H2 io2 F2 := by
  obtain ⟨m1, e1, n1⟩ := s.ext
  obtain ⟨m2, e2, n2⟩ := t.ext
  refine ⟨⟨m1 ++ m2, by rw [e2, e1, List.append_assoc], fun a ha => ?_⟩, fun a o h => t.fr _ _ (s.fr _ _ h), fun a o h hn ho => ?_, fun a o h => ?_, fun a o h => ?_⟩
  · rcases List.mem_append.mp ha with h | h
    · exact n1 a h
    · exact s.none_of (n2 a h)
  · have h1 := s.keep a o h hn ho
    refine t.keep a o h1 hn fun hm => ?_
    rw [e1] at hm
    rcases List.mem_append.mp hm with h2 | h2
    · exact ho h2
    · have := n1 a h2
      rw [h] at this; cases this
  · obtain ⟨o1, h1⟩ := s.dom a o h
    exact t.dom a o1 h1
  · rcases t.fnw a o h with h1 | h1 | h1
    · exact s.fnw a o h1
    · exact .inr (.inl (s.none_of h1))
    · rw [e1] at h1
      rcases List.mem_append.mp h1 with h2 | h2
      · exact .inr (.inr h2)
      · exact .inr (.inl (n1 a h2))
/-- an object beside frozen ones and the store stays beside, as it is -/
theorem Stp.beside (s : Stp H io F H' io' F') {p : Addr} {o : HO} (h : H p = some o) (hn : ∀ ps, o ≠ .tbl ps) (hF : F p = none) (hio : p ∉ io) : H' p = some o ∧ F' p = none ∧ p ∉ io' := by
  refine ⟨s.keep p o h hn hio, ?_, fun hm => ?_⟩
  · cases e : F' p with
    | none => rfl
    | some u =>
      rcases s.fnw p u e with h1 | h1 | h1
      · rw [hF] at h1; cases h1
      · rw [h] at h1; cases h1
      · exact absurd h1 hio
  · obtain ⟨more, e, n⟩ := s.ext
    rw [e] at hm
    rcases List.mem_append.mp hm with h1 | h1
    · exact hio h1
    · have := n p h1
      rw [h] at this; cases this
/-- an object that was not there at first may change -/
theorem Stp.own (s : Stp H io F H' io' F') {p : Addr} {o : HO} (h : H p = none) : Stp H io F (upd H' p o) io' F' :=
  ⟨s.ext, s.fr, fun a u e hn ho => by rw [upd_ne (fun z => by subst z; rw [h] at e; cases e)]; exact s.keep a u e hn ho, fun a u e => by
    by_cases z : a = p
    · subst z; exact ⟨o, upd_same⟩
    · rw [upd_ne z]; exact s.dom a u e, s.fnw⟩
/-- .. and be frozen -/
theorem Stp.frz (s : Stp H io F H' io' F') {p : Addr} {o : HO} (h : H p = none) (hF : F' p = none) : Stp H io F H' io' (upd F' p o) :=
  ⟨s.ext, fun a u e => by
    have := s.fr a u e
    rw [upd_ne (fun z => by subst z; rw [hF] at this; cases this)]
    exact this, s.keep, s.dom, fun a u e => by
    by_cases z : a = p
    · subst z; exact .inr (.inl h)
    · rw [upd_ne z] at e; exact s.fnw a u e⟩
/-- .. or a cell -/
theorem Stp.cell (s : Stp H io F H' io' F') {p : Addr} (h : H p = none) : Stp H io F H' (io' ++ [p]) F' := by
  obtain ⟨more, e, n⟩ := s.ext
  refine ⟨⟨more ++ [p], by rw [e, List.append_assoc], fun a ha => ?_⟩, s.fr, s.keep, s.dom, s.fnw⟩
  rcases List.mem_append.mp ha with h1 | h1
  · exact n a h1
  · simp at h1; subst h1; exact h
theorem Rel.next [Bs] (R : Rel K σ H env io F st) (s : Stp H io F H' io' F') (r : RelH K H' io' F' st') : Rel K σ H' env io' F' st' :=
  { r with sl := R.sl, bs := R.bs.trans s, slot := fun i d e => let ⟨v, h1, h2⟩ := R.slot i d e; ⟨v, h1, s.den h2⟩ }
theorem RelH.notF (R : RelH K H io F st) {a : Addr} (h : H a = none) : F a = none := by
  cases e : F a with
  | none => rfl
  | some o => have := R.sub _ _ e; rw [h] at this; cases this
theorem RelH.notIo (R : RelH K H io F st) {a : Addr} (h : H a = none) : a ∉ io := fun hm => by
  obtain ⟨o, e⟩ := R.there a hm
  rw [h] at e; cases e
theorem CelOk.next {a : Addr} {c : Cel} (s : Stp H io F H' io' F') (e : H' a = H a) (hf : F a = none → F' a = none) (h : CelOk K H io F a c) : CelOk K H' io' F' a c := by
  cases c with
  | lst ds =>
    obtain ⟨h1, h2, vs, h3, h4⟩ := h
    exact ⟨hf h1, h2, vs, by rw [e]; exact h3, s.denL h4⟩
  | dead => trivial
  | ins C fs =>
    obtain ⟨h1, cc, dx, fv, hc, h3, h4⟩ := h
    exact ⟨hf h1, cc, dx, fv, hc, by rw [e]; exact h3, Paired.mapP h4 fun p q z => ⟨z.1, s.den z.2⟩⟩
  | dct b kvs =>
    obtain ⟨h1, h2, u, h3, h4⟩ := h
    exact ⟨hf h1, h2, u, by rw [e]; exact h3, h4⟩
theorem same_upd {p : Addr} {o : HO} (h : H p = none) : ∀ a u, H a = some u → upd H p o a = some u := fun b x e => by
  rw [upd_ne (ne_of_none e h)]
  exact e
/-- a new frozen object -/
theorem Stp.laid {p : Addr} {o : HO} (h : H p = none) (hF : ∀ a o, F a = some o → H a = some o) : Stp H io F (upd H p o) io (upd F p o) :=
  ⟨⟨[], by simp, fun _ h => by cases h⟩, fun a u e => by rw [upd_ne (fun z => by subst z; have := hF _ _ e; rw [h] at this; cases this)]; exact e, fun a u e _ _ => same_upd h a u e, fun a u e => ⟨u, same_upd h a u e⟩, fun a u e => by
    by_cases z : a = p
    · subst z; exact .inr (.inl h)
    · rw [upd_ne z] at e; exact .inl e⟩
theorem RelH.laid (R : RelH K H io F st) {p : Addr} {o : HO} (h : H p = none) : RelH K (upd H p o) io (upd F p o) st := by
  refine ⟨fun a u e => ?_, R.len, R.nd, fun a ha => ?_, fun n c a h1 h2 => ?_, fun q hq => ?_⟩
  rotate_right
  · obtain ⟨t1, t2, ps, t3, t4, t5⟩ := R.tab q hq
    have ne : q.1 ≠ p := fun z => by rw [z, h] at t3; cases t3
    refine ⟨by rw [upd_ne ne]; exact t1, t2, ps, by rw [upd_ne ne]; exact t3, t4, fun pos cv hc => ?_⟩
    obtain ⟨c, e1, e2⟩ := t5 pos cv hc
    refine ⟨c, e1, ?_⟩
    rw [upd_ne (fun z => by have := R.sub _ _ e2; rw [z, h] at this; cases this)]
    exact e2
  · by_cases z : a = p
    · subst z; rw [upd_same] at e ⊢; exact e
    · rw [upd_ne z] at e ⊢; exact R.sub _ _ e
  · obtain ⟨u, e⟩ := R.there a ha
    exact ⟨u, same_upd h a u e⟩
  · have ne : a ≠ p := fun z => by subst z; exact R.notIo h (List.mem_of_getElem? h2)
    exact (R.cel n c a h1 h2).next (Stp.laid h R.sub) (upd_ne ne) fun hf => by rw [upd_ne ne]; exact hf
/-- a new tracked object that is neither frozen nor in the store -/
theorem Stp.aside {p : Addr} {o : HO} (h : H p = none) : Stp H io F (upd H p o) io F :=
  ⟨⟨[], by simp, fun _ h => by cases h⟩, fun a u e => e, fun a u e _ _ => same_upd h a u e, fun a u e => ⟨u, same_upd h a u e⟩, fun _ _ e => .inl e⟩
theorem RelH.aside (R : RelH K H io F st) {p : Addr} {o : HO} (h : H p = none) : RelH K (upd H p o) io F st := by
  refine ⟨fun a u e => same_upd h _ _ (R.sub _ _ e), R.len, R.nd, fun a ha => ?_, fun n c a h1 h2 => ?_, fun q hq => ?_⟩
  rotate_right
  · obtain ⟨t1, t2, ps, t3, t4, t5⟩ := R.tab q hq
    exact ⟨t1, t2, ps, same_upd h _ _ t3, t4, t5⟩
  · obtain ⟨u, e⟩ := R.there a ha
    exact ⟨u, same_upd h a u e⟩
  · have ne : a ≠ p := fun z => by subst z; exact R.notIo h (List.mem_of_getElem? h2)
    exact (R.cel n c a h1 h2).next (Stp.aside h) (upd_ne ne) fun hf => hf
/-- a tracked object beside the store changes -/
theorem RelH.side (R : RelH K H io F st) {p : Addr} {o o0 : HO} (hp : H p = some o0) (hn : ∀ ps, o0 ≠ .tbl ps) (hf : F p = none) (hio : p ∉ io) : RelH K (upd H p o) io F st := by
  refine ⟨fun a u e => ?_, R.len, R.nd, fun a ha => ?_, fun n c a h1 h2 => ?_, fun q hq => ?_⟩
  rotate_right
  · obtain ⟨t1, t2, ps, t3, t4, t5⟩ := R.tab q hq
    exact ⟨t1, t2, ps, by rw [upd_ne (fun z => by rw [z, hp] at t3; cases t3; exact hn _ rfl)]; exact t3, t4, t5⟩
  · rw [upd_ne (fun z => by subst z; rw [hf] at e; cases e)]
    exact R.sub _ _ e
  · rw [upd_ne (fun z => by subst z; exact hio ha)]
    exact R.there a ha
  · have ne : a ≠ p := fun z => by subst z; exact hio (List.mem_of_getElem? h2)
    have := R.cel n c a h1 h2
    cases c with
    | lst ds => obtain ⟨q1, q2, vs, q3, q4⟩ := this; exact ⟨q1, q2, vs, by rw [upd_ne ne]; exact q3, q4⟩
    | dead => trivial
    | ins C fs => obtain ⟨q1, cc, dx, fv, qc, q3, q4⟩ := this; exact ⟨q1, cc, dx, fv, qc, by rw [upd_ne ne]; exact q3, q4⟩
    | dct b kvs => obtain ⟨q1, q2, u, q3, q4⟩ := this; exact ⟨q1, q2, u, by rw [upd_ne ne]; exact q3, q4⟩
/-- a tracked object beside the store is frozen -/
theorem RelH.frz (R : RelH K H io F st) {p : Addr} {o : HO} (hp : H p = some o) (hn : ∀ ps, o ≠ .tbl ps) (hf : F p = none) (hio : p ∉ io) : RelH K H io (upd F p o) st := by
  have fr : ∀ a u, F a = some u → upd F p o a = some u := fun a u e => by
    rw [upd_ne (fun z => by subst z; rw [hf] at e; cases e)]; exact e
  refine ⟨fun a u e => ?_, R.len, R.nd, R.there, fun n c a h1 h2 => ?_, fun q hq => ?_⟩
  rotate_right
  · obtain ⟨t1, t2, ps, t3, t4, t5⟩ := R.tab q hq
    refine ⟨by rw [upd_ne (fun z => by rw [z, hp] at t3; cases t3; exact hn _ rfl)]; exact t1, t2, ps, t3, t4, fun pos cv hc => ?_⟩
    obtain ⟨c, e1, e2⟩ := t5 pos cv hc
    exact ⟨c, e1, fr _ _ e2⟩
  · by_cases z : a = p
    · subst z; rw [upd_same] at e; cases e; exact hp
    · rw [upd_ne z] at e; exact R.sub _ _ e
  · have ne : a ≠ p := fun z => by subst z; exact hio (List.mem_of_getElem? h2)
    have := R.cel n c a h1 h2
    cases c with
    | lst ds => obtain ⟨q1, q2, vs, q3, q4⟩ := this; exact ⟨by rw [upd_ne ne]; exact q1, q2, vs, q3, q4.mono (fun _ _ h => h) fr⟩
    | dead => trivial
    | ins C fs => obtain ⟨q1, cc, dx, fv, qc, q3, q4⟩ := this; exact ⟨by rw [upd_ne ne]; exact q1, cc, dx, fv, qc, q3, Paired.mapP q4 fun _ _ z => ⟨z.1, z.2.mono (fun _ _ h => h) fr⟩⟩
    | dct b kvs => obtain ⟨q1, q2, u, q3, q4⟩ := this; exact ⟨by rw [upd_ne ne]; exact q1, q2, u, q3, q4⟩
/-- .. becomes a cell -/
theorem RelH.adopt (R : RelH K H io F st) {p : Addr} {c : Cel} (hp : ∃ o, H p = some o ∧ ∀ ps, o ≠ .tbl ps) (hio : p ∉ io) (hc : CelOk K H (io ++ [p]) F p c) : RelH K H (io ++ [p]) F (st ++ [c]) := by
  have ix : ∀ (n : Nat) a, io[n]? = some a → (io ++ [p])[n]? = some a := fun n a h => by
    rw [List.getElem?_append_left (List.getElem?_eq_some_iff.mp h).1]; exact h
  refine ⟨R.sub, by rw [List.length_append, List.length_append, R.len]; rfl, List.nodup_append.mpr ⟨R.nd, by simp, fun a ha b hb => ?_⟩, fun a ha => ?_, fun n d a h1 h2 => ?_, fun q hq => ?_⟩
  rotate_right
  · obtain ⟨t1, t2, ps, t3, t4, t5⟩ := R.tab q hq
    refine ⟨t1, fun hm => ?_, ps, t3, t4, t5⟩
    rcases List.mem_append.mp hm with h | h
    · exact t2 h
    · simp at h
      obtain ⟨o, h1, h2⟩ := hp
      rw [← h, t3] at h1
      cases h1
      exact h2 _ rfl
  · simp at hb
    subst hb
    intro e
    subst e
    exact hio ha
  · rcases List.mem_append.mp ha with h | h
    · exact R.there a h
    · simp at h
      subst h
      obtain ⟨o, h1, _⟩ := hp
      exact ⟨o, h1⟩
  · by_cases hn : n < st.length
    · rw [List.getElem?_append_left hn] at h1
      rw [List.getElem?_append_left (by rw [R.len]; exact hn)] at h2
      have := R.cel n d a h1 h2
      cases d with
      | lst ds => obtain ⟨q1, q2, vs, q3, q4⟩ := this; exact ⟨q1, q2, vs, q3, q4.mono ix fun _ _ h => h⟩
      | dead => trivial
      | ins C fs => obtain ⟨q1, cc, dx, fv, qc, q3, q4⟩ := this; exact ⟨q1, cc, dx, fv, qc, q3, Paired.mapP q4 fun _ _ z => ⟨z.1, z.2.mono ix fun _ _ h => h⟩⟩
      | dct b kvs => obtain ⟨q1, q2, u, q3, q4⟩ := this; exact ⟨q1, q2, u, q3, q4⟩
    · have e : n = st.length := by
        have := (List.getElem?_eq_some_iff.mp h1).1
        rw [List.length_append, List.length_singleton] at this
        omega
      subst e
      rw [List.getElem?_append_right (Nat.le_refl _), Nat.sub_self] at h1
      rw [← R.len, List.getElem?_append_right (Nat.le_refl _), Nat.sub_self] at h2
      cases h1
      cases h2
      exact hc
theorem RelH.newRef (R : RelH K H io F st) {p : Addr} : Den K (io ++ [p]) F (.ref p) (.ref st.length) := .ref (by rw [← R.len, List.getElem?_append_right (Nat.le_refl _), Nat.sub_self]; rfl)
end
end DL
namespace DL
open PySem PySem.Spec PyProof.Rows L2
abbrev tobj (its : List Value) : Obj := { cls := .type "tuple", data := .seq its.toArray }
abbrev XtK (H : Hp) (Q : VK) (vs : List V) : Prop := ∀ (p : Addr) (o : Obj), H p = none → o.dict = none → Q (.ref p) (upd H p (.frz o (.tup vs)))
section
variable {X : Cx} {pins : List (Addr × Obj)} {σ : L2.St} {H : Hp} {s : Shared} {xs : List V} {its : List Value} {Q : VK}
theorem new_tup (I : Inv X pins σ H s) (z : xs.length ≤ sizeLine) (r : Vals xs its) (q : XtK H Q xs) : EP X pins σ Q (.ref s.heap.objs.size) { s with heap := s.heap.push (tobj its) } :=
  ⟨.ref s.heap.objs.size, upd H s.heap.objs.size (.frz (tobj its) (.tup xs)), I.laid (t' := s.toks) (fun _ _ e => Heap.get?_push_of_some _ e) (Nat.le_refl _) ⟨Heap.get?_push_size _ rfl, z, its, r, IsTup.new _ _⟩, rfl, q _ _ (I.hok.fresh (Nat.le_refl _)) rfl⟩
def tTupX (t : TA) : TE := fun σ H Q => t σ H fun xs H1 => xs.length ≤ sizeLine ∧ XtK H1 Q xs
theorem pe_tupX {es : List Expr} {t : TA} {k} {pos : Pos} (h : PA X es t) : PE X (.Tuple es k pos) (tTupX t) :=
  ⟨fun pins s σ H Q I hq => wpAny_Tuple_spliced (thn (h.run pos pins s σ H _ I hq) fun us s1 ⟨xs, H1, I1, r, z, q⟩ => ⟨by rw [← r.length]; exact z, new_tup I1 z r q⟩)⟩
def rCatX (K : PySem.W.Frag) : V → V → Hp → VK → Prop := fun x y H Q => ∃ a b xs ys, x = .ref a ∧ y = .ref b ∧ SqT K H a xs ∧ SqT K H b ys ∧ xs.length + ys.length ≤ sizeLine ∧
  (xs = [] → Q (.ref b) H) ∧ (xs ≠ [] → ys = [] → Q (.ref a) H) ∧ (xs ≠ [] → ys ≠ [] → XtK H Q (xs ++ ys))
theorem op_catX : OpR X (binaryOp .Add) (rCatX X.K) := fun pins s σ H x y v u Q I rx ry h => by
  obtain ⟨a, b, xs, ys, rfl, rfl, ha, hb, hz, q0, q1, q2⟩ := h
  cases rx; cases ry
  obtain ⟨t1, r1, p1, _⟩ := I.tuple ha; obtain ⟨t2, r2, p2, _⟩ := I.tuple hb
  cases xs with
  | nil => cases r1; exact cat_tup0 p1 p2 ⟨.ref b, H, I, rfl, q0 rfl⟩
  | cons x xs =>
    have n1 : t1 ≠ [] := fun e => nomatch (r1.nil_iff.mp e)
    refine HT.cat_tup p1 p2 n1 (fun z => ⟨.ref a, H, I, rfl, q1 (fun e => nomatch e) (r2.nil_iff.mp z)⟩) (fun z => new_tup I (by rw [List.length_append]; exact hz) (r1.append r2) (q2 (fun e => nomatch e) fun w => z (r2.nil_iff.mpr w))) ?_
    rw [← r1.length, ← r2.length]; exact hz
def rSlX (K : PySem.W.Frag) : V → Option Int → Option Int → Hp → VK → Prop := fun x lo hi H Q => ∃ a xs, x = .ref a ∧ SqT K H a xs ∧
  (HT.sIx xs.length 0 lo = 0 ∧ HT.sIx xs.length xs.length hi = xs.length → Q (.ref a) H) ∧ (¬ (HT.sIx xs.length 0 lo = 0 ∧ HT.sIx xs.length xs.length hi = xs.length) → XtK H Q (cutV xs lo hi))
theorem sl_tupX : SlR X (rSlX X.K) := fun pins s σ H x v vl vu lo hi sl Q I rx hs pl pu h => by
  obtain ⟨a, xs, rfl, hx, q1, q2⟩ := h
  cases rx
  obtain ⟨its, r, ht, hz⟩ := I.tuple hx
  have hl : its.toArray.size = xs.length := r.length.symm
  by_cases hw : HT.sIx xs.length 0 lo = 0 ∧ HT.sIx xs.length xs.length hi = xs.length
  · exact ⟨"tuple", _, PyProof.Rows.slot_tuple_getitem.lookup, ht.typeIs, getItem_tuple_whole ht hs pl pu (by rw [hl]; exact hw) ⟨.ref a, H, I, rfl, q1 hw⟩⟩
  · refine ⟨"tuple", _, PyProof.Rows.slot_tuple_getitem.lookup, ht.typeIs, HT.getItem_tuple_cut ht hs pl pu (by rw [hl]; exact hw) ?_ (by rw [hl]; exact hz)⟩
    rw [hl]
    exact new_tup I (Nat.le_trans (cutV_length xs lo hi) hz) ((r.drop (HT.sIx xs.length 0 lo)).take (HT.sIx xs.length xs.length hi - HT.sIx xs.length 0 lo)) (q2 hw)
theorem call_tupleX : CallR X (.type "tuple") (fun xs H Q => ∃ p ys, xs = [.ref p] ∧ ((SqL X.K H p ys ∧ XtK H Q ys) ∨ (SqT X.K H p ys ∧ Q (.ref p) H))) := fun pins s σ H xs us Q I r h => by
  obtain ⟨p, ys, rfl, h⟩ := h
  obtain ⟨u, rfl, rx⟩ := vals1 r
  cases rx
  rcases h with ⟨hq, q⟩ | ⟨hq, q⟩
  · obtain ⟨its, r2, pl, hz⟩ := I.list hq
    have hl := r2.length
    exact call_tuple_list pl.isList (fun h' kp => new_tup (I.kept (t' := s.toks) kp) hz r2 q) (by simp only [List.size_toArray] <;> omega)
  · obtain ⟨its, r2, pl, hz⟩ := I.tuple hq
    exact call_tuple_same pl ⟨.ref p, H, I, rfl, q⟩
end
structure SrcG (K : PySem.W.Frag) (S : Hp → Addr → List V → Prop) (Is : Heap → Addr → Array Value → Prop) (It1 : Heap → Addr → Addr → Nat → Prop) : Prop where
  get : ∀ {X : Cx} {pins : List (Addr × Obj)} {σ : L2.St} {H : Hp} {s : Shared} {a : Addr} {xs : List V}, X.K = K → Inv X pins σ H s → S H a xs → ∃ its : List Value, Vals xs its ∧ Is s.heap a its.toArray
  inj : ∀ {X : Cx} {pins : List (Addr × Obj)} {σ : L2.St} {H : Hp} {s : Shared} {a : Addr} {xs ys : List V}, X.K = K → Inv X pins σ H s → S H a xs → S H a ys → xs = ys
  dr : ∀ {prog : Program} {w : World} {A : Around} (it a : Addr) (items : Array Value), A.handled = none → a ≠ it → Draws prog w A it [it, a] items.size (fun i v => items[i]? = some v) (fun i h => It1 h it a i ∧ Is h a items)
  ob : ∀ {h : Heap} {it a : Addr} {i : Nat}, It1 h it a i → ∃ o, h.get? it = some o ∧ ∀ v, o.data ≠ .cell v
  at_ : ∀ {h h' : Heap} {it a : Addr} {i : Nat}, It1 h it a i → (∀ o, h.get? it = some o → h'.get? it = some o) → It1 h' it a i
theorem srcL (K : PySem.W.Frag) : SrcG K (SqL K) Heap.IsList Heap.IsListIter where
  get := fun e I h => by subst e; obtain ⟨its, r, p, _⟩ := I.list h; exact ⟨its, r, p.isList⟩
  inj := fun e I h h' => by subst e; exact I.list_inj h h'
  dr := fun it a items hh ne => Draws.list hh it a ne items
  ob := fun ⟨o, e, _, d⟩ => ⟨o, e, fun v q => by rw [d] at q; cases q⟩
  at_ := fun h k => h.at k
theorem srcT (K : PySem.W.Frag) : SrcG K (SqT K) Heap.IsTuple Heap.IsTupleIter where
  get := fun e I h => by subst e; obtain ⟨its, r, p, _⟩ := I.tuple h; exact ⟨its, r, p⟩
  inj := fun e I h h' => by subst e; exact I.tuple_inj h h'
  dr := fun it a items hh ne => Draws.tuple hh it a ne items
  ob := fun ⟨o, e, _, d⟩ => ⟨o, e, fun v q => by rw [d] at q; cases q⟩
  at_ := fun h k => h.at k
def IteX (S : Hp → Addr → List V → Prop) (a : Addr) : It :=
  ⟨fun i H => ∃ (xs : List V) (x : V), S H a xs ∧ xs[i]? = some x, fun i H v H' => ∃ T x o, v = .ref T ∧ H T = none ∧ o.dict = none ∧ H' = upd H T (.frz o (.tup [.int (i : Nat), x])) ∧ ∀ xs, S H a xs → xs[i]? = some x, fun i H => ∃ xs : List V, S H a xs ∧ xs.length = i⟩
theorem pair_ok {P : Program} {w : World} {H : Hp} {h : Heap} {T : Addr} {x y : V} {u v : Value} (e : h.get? T = some (tobj [u, v])) (ru : RelV x u) (rv : RelV y v) : ObjOk P w H h T (.frz (tobj [u, v]) (.tup [x, y])) :=
  ⟨e, by show 2 ≤ sizeLine; decide, [u, v], .cons ru (.cons rv .nil), ⟨_, e, rfl, _, rfl⟩⟩
theorem turn_enumX {P : Program} {w : World} {K : PySem.W.Frag} {elts : List Expr} {kk : Nat} {tpos : Pos} {S : Hp → Addr → List V → Prop} {Is : Heap → Addr → Array Value → Prop} {It1 : Heap → Addr → Addr → Nat → Prop} (G : SrcG K S Is It1) (a e it : Addr) :
    Turn P w K (.Tuple elts kk tpos) (IteX S a) [e, it] e (fun i h => (∃ old, IsEnum h e it ((i : Nat) : Int) old) ∧ It1 h it a i ∧ e ≠ it ∧ a ≠ it ∧ e ≠ a) where
  mem := List.mem_cons_self
  obj := fun i h ⟨⟨old, he⟩, hi, _⟩ b hb => by
    rcases List.mem_cons.mp hb with rfl | hb
    · exact ⟨_, he, fun v q => nomatch q⟩
    · rw [List.mem_singleton] at hb; subst hb; exact G.ob hi
  keep := fun i h h' ⟨⟨old, he⟩, hi, hne⟩ k => ⟨⟨old, k e List.mem_cons_self _ he⟩, G.at_ hi fun o q => k it (List.mem_cons_of_mem _ List.mem_cons_self) o q, hne⟩
  item := by
    intro X hP hw hK hc i pins s σ H E I hf st hg
    subst hP hw
    obtain ⟨⟨old, he⟩, hit, hne, hai, hea⟩ := st
    obtain ⟨xs, x, hq, hx⟩ := hg
    obtain ⟨its, rv, p⟩ := G.get hK I hq
    obtain ⟨u, hu, ru⟩ := rv.get hx
    have hu' : its.toArray[i]? = some u := by simpa using hu
    have Dr := G.dr (prog := X.prog) (w := X.w) (A := X.A.in1) it a its.toArray (I.ok.hd hc) hai
    have hel := Heap.lt_size he
    obtain ⟨oi, hoi, _⟩ := G.ob hit
    refine wpAny_pyNext_enum_itemD Dr he ⟨hit, p⟩ (Array.getElem?_eq_some_iff.mp hu').1 hne (by simp [hne, hea]) fun u2 h1 tk hP ho hit1 hT hsz hk => ?_
    have hP : its.toArray[i]? = some u2 := hP
    rw [hu'] at hP
    cases hP
    refine ⟨_, rfl, wpAny_letOwnedTupleGo_enum (s := { s with heap := h1, toks := tk + 1 }) ho fun h2 he2 sb => ?_⟩
    have hT2 : h2.get? s.heap.objs.size = some (tobj [.int i tk, u]) := (sb.2 _ (Nat.ne_of_gt hel)).trans hT
    have I1 : Inv X pins σ (upd H s.heap.objs.size (.frz (tobj [.int i tk, u]) (.tup [.int (i : Nat), x]))) { s with heap := h2, toks := tk + 1 } :=
      I.turnedNew (ch := [e, it]) (fun b ob hb q => (sb.2 b (fun z => hb (by simp [z]))).trans (hk b ob (fun z => hb (by simp [z])) (fun z => hb (by simp [z])) q)) hf (Nat.le_refl _) (pair_ok hT2 ⟨_, rfl⟩ ru)
    refine ⟨.ref s.heap.objs.size, _, I1, rfl, ⟨_, x, _, rfl, I.hok.fresh (Nat.le_refl _), rfl, rfl, fun ys hy => by rw [G.inj hK I hy hq]; exact hx⟩, ⟨⟨u, ?_⟩, G.at_ hit1.1 fun o q => (sb.2 it (Ne.symm hne)).trans q, hne, hai, hea⟩, fun b hb => ?_⟩
    · rw [show ((i + 1 : Nat) : Int) = (i : Int) + 1 by omega]; exact he2
    · have hb' : b < s.heap.objs.size := by
        rcases List.mem_cons.mp hb with rfl | hb
        · exact hel
        · rw [List.mem_singleton] at hb; subst hb; exact Heap.lt_size hoi
      rw [upd_ne (Nat.ne_of_lt hb')]; exact (hf b hb).1
  done := by
    intro X hP hw hK hc i pins s σ H E I hf st hg
    subst hP hw
    obtain ⟨⟨old, he⟩, hit, hne, hai, hea⟩ := st
    obtain ⟨xs, hq, hx⟩ := hg
    obtain ⟨its, rv, p⟩ := G.get hK I hq
    obtain ⟨f0, f1, f2, f3, f4, f5⟩ := hf it (by simp)
    have en : i = its.toArray.size := by rw [← hx, rv.length]; rfl
    subst en
    exact wpAny_pyNext_enum_endD (G.dr (prog := X.prog) (w := X.w) (A := X.A.in1) it a its.toArray (I.ok.hd hc) hai) he ⟨hit, p⟩ fun h' eb => ⟨rfl, I.turned (t' := s.toks) (fun b o hb q => eb b o hb q) f0 f1 f3 f4 f5⟩
  self := fun A i s Q E ⟨⟨_, he⟩, _⟩ h => wpAny_pyIter_enum he h
def ItzX (S1 S2 : Hp → Addr → List V → Prop) (a b : Addr) : It :=
  ⟨fun i H => ∃ (xs ys : List V) (x y : V), S1 H a xs ∧ S2 H b ys ∧ xs[i]? = some x ∧ ys[i]? = some y,
    fun i H v H' => ∃ T x y o, v = .ref T ∧ H T = none ∧ o.dict = none ∧ H' = upd H T (.frz o (.tup [x, y])) ∧ (∀ xs, S1 H a xs → xs[i]? = some x) ∧ ∀ ys, S2 H b ys → ys[i]? = some y,
    fun i H => ∃ xs ys : List V, S1 H a xs ∧ S2 H b ys ∧ i ≤ xs.length ∧ i ≤ ys.length ∧ (xs.length ≤ i ∨ ys.length ≤ i)⟩
/-- how a zip of two kinds goes on -/
structure ZipN (Is1 Is2 : Heap → Addr → Array Value → Prop) (J1 J2 : Heap → Addr → Addr → Nat → Prop) : Prop where
  nx : ∀ {prog : Program} {w : World} {A : Around} {E : Value → Shared → Prop} {s : Shared} {z TI TO i1 i2 l1 l2 : Addr} {k : Nat} {xs ys : Array Value} {x y a b : Value} {Q : Option Value → Shared → Prop}, A.handled = none → ZipApart z TI TO i1 i2 l1 l2 →
    IsZip s.heap z TI TO .none → IsPair s.heap TI (.ref i1) (.ref i2) → IsPair s.heap TO a b → J1 s.heap i1 l1 k → J2 s.heap i2 l2 k → Is1 s.heap l1 xs → Is2 s.heap l2 ys → xs[k]? = some x → ys[k]? = some y →
    (∀ h2 tk, IsZip h2 z TI TO (rawInt s.heap.objs.size) → IsPair h2 TO x y → J1 h2 i1 l1 (k + 1) → J2 h2 i2 l2 (k + 1) → IsPair h2 s.heap.objs.size x y →
      (∀ c o, c ≠ z → c ≠ TO → c ≠ i1 → c ≠ i2 → s.heap.get? c = some o → h2.get? c = some o) → Q (some (.ref s.heap.objs.size)) { s with heap := h2, toks := tk }) → wpAny (model prog w) A (pyNext (.ref z)) Q E s
  en : ∀ {prog : Program} {w : World} {A : Around} {E : Value → Shared → Prop} {s : Shared} {z TI TO i1 i2 l1 l2 : Addr} {k : Nat} {xs ys : Array Value} {a b : Value} {Q : Option Value → Shared → Prop}, A.handled = none → ZipApart z TI TO i1 i2 l1 l2 →
    IsZip s.heap z TI TO .none → IsPair s.heap TI (.ref i1) (.ref i2) → IsPair s.heap TO a b → J1 s.heap i1 l1 k → J2 s.heap i2 l2 k → Is1 s.heap l1 xs → Is2 s.heap l2 ys → k ≤ xs.size → k ≤ ys.size → (xs[k]? = none ∨ ys[k]? = none) →
    (∀ h2 tk, (∀ c o, c ≠ z → c ≠ TO → c ≠ i1 → c ≠ i2 → s.heap.get? c = some o → h2.get? c = some o) → Q none { s with heap := h2, toks := tk }) → wpAny (model prog w) A (pyNext (.ref z)) Q E s
theorem zipN_LL : ZipN Heap.IsList Heap.IsList Heap.IsListIter Heap.IsListIter where
  nx := fun {prog w A E s _ _ _ _ _ _ _ _ _ _ _ _ _ _ _} _ D hz hTI hTO h1 h2 p1 p2 hx hy q => wpAny_pyNext_zip_item D hz hTI hTO h1 h2 p1 p2 hx hy fun h' a b c d e _ f => q h' s.toks a b c d e f
  en := fun {prog w A E s _ _ _ _ _ _ _ _ _ _ _ _ _} hh D hz hTI hTO h1 h2 p1 p2 _ _ hx q => wpAny_pyNext_zip_end hh D hz hTI hTO h1 h2 p1 p2 hx fun h' => q h' s.toks
theorem zipN_TT : ZipN Heap.IsTuple Heap.IsTuple Heap.IsTupleIter Heap.IsTupleIter where
  nx := fun {prog w A E s _ _ _ _ _ _ _ _ _ _ _ _ _ _ _} _ D hz hTI hTO h1 h2 p1 p2 hx hy q => RZ.pyNext_zipT_item D hz hTI hTO h1 h2 p1 p2 hx hy fun h' a b c d e _ f => q h' s.toks a b c d e f
  en := fun {prog w A E s _ _ _ _ _ _ _ _ _ _ _ _ _} hh D hz hTI hTO h1 h2 p1 p2 _ _ hx q => RZ.pyNext_zipT_end hh D hz hTI hTO h1 h2 p1 p2 hx fun h' => q h' s.toks
theorem sep_of {z TI TO i1 i2 l1 l2 : Addr} (D : ZipApart z TI TO i1 i2 l1 l2) : ZipSep2 z TI TO i1 i2 [i1, l1] [i2, l2] :=
  { TIz := D.TIz, TOz := D.TOz, TITO := D.TITO, TIi1 := D.TIi1, TIi2 := D.TIi2, mem1 := by simp, mem2 := by simp, zf1 := by simp [D.i1z.symm, D.l1z.symm], zf2 := by simp [D.i2z.symm, D.l2z.symm], Tf1 := by simp [D.TOi1, D.l1TO.symm], Tf2 := by simp [D.TOi2, D.l2TO.symm], sep1_2 := by simp [D.i12, D.l2i1.symm], sep2_1 := by simp [D.i12.symm, D.l1i2.symm] }
theorem same_at {α : Type} {xs : Array α} {k : Nat} {x y : α} (h : xs[k]? = some x) (h2 : xs[k]? = some y) : y = x := Option.some.inj (h2.symm.trans h)
theorem ends_at {α : Type} {xs : Array α} {k : Nat} (h : k ≤ xs.size) (h2 : xs[k]? = none) : k = xs.size := Nat.le_antisymm h (Array.getElem?_eq_none_iff.mp h2)
/-- two kinds of iterators that are drawn from, side by side -/
theorem zipN_of {Is1 Is2 : Heap → Addr → Array Value → Prop} {J1 J2 : Heap → Addr → Addr → Nat → Prop}
    (D1 : ∀ {prog : Program} {w : World} {A : Around}, A.handled = none → ∀ (it l : Addr), l ≠ it → ∀ xs : Array Value, Draws prog w A it [it, l] xs.size (fun i v => xs[i]? = some v) (fun i h => J1 h it l i ∧ Is1 h l xs))
    (D2 : ∀ {prog : Program} {w : World} {A : Around}, A.handled = none → ∀ (it l : Addr), l ≠ it → ∀ xs : Array Value, Draws prog w A it [it, l] xs.size (fun i v => xs[i]? = some v) (fun i h => J2 h it l i ∧ Is2 h l xs)) : ZipN Is1 Is2 J1 J2 where
  nx := fun {prog w A E s z TI TO i1 i2 l1 l2 k xs ys x y a b Q} hh D hz hTI hTO h1 h2 p1 p2 hx hy q => wpAny_pyNext_zipD2_item (sep_of D) (D1 (A := A.in1) hh i1 l1 D.l1i1 xs) (D2 (A := A.in1) hh i2 l2 D.l2i2 ys) hz hTI hTO ⟨h1, p1⟩ ⟨h2, p2⟩ (Array.getElem?_eq_some_iff.mp hx).1 (Array.getElem?_eq_some_iff.mp hy).1 fun x1 x2 h' tk y1 y2 b1 b2 d1 d2 b5 _ b7 => by
    cases same_at hx y1
    cases same_at hy y2
    exact q h' tk b1 b2 d1.1 d2.1 b5 b7
  en := fun {prog w A E s z TI TO i1 i2 l1 l2 k xs ys a b Q} hh D hz hTI hTO h1 h2 p1 p2 z1 z2 hx q => wpAny_pyNext_zipD2_end (sep_of D) (D1 (A := A.in1) hh i1 l1 D.l1i1 xs) (D2 (A := A.in1) hh i2 l2 D.l2i2 ys) hz hTI hTO ⟨h1, p1⟩ ⟨h2, p2⟩ z1 z2 (hx.imp (ends_at z1) (ends_at z2)) q
theorem zipN_LT : ZipN Heap.IsList Heap.IsTuple Heap.IsListIter Heap.IsTupleIter := zipN_of (fun hh it l ne xs => Draws.list hh it l ne xs) (fun hh it l ne xs => Draws.tuple hh it l ne xs)
theorem zipN_TL : ZipN Heap.IsTuple Heap.IsList Heap.IsTupleIter Heap.IsListIter := zipN_of (fun hh it l ne xs => Draws.tuple hh it l ne xs) (fun hh it l ne xs => Draws.list hh it l ne xs)
theorem of5 {P : Addr → Prop} {a b c d e : Addr} (h1 : P a) (h2 : P b) (h3 : P c) (h4 : P d) (h5 : P e) : ∀ x ∈ [a, b, c, d, e], P x :=
  List.forall_mem_cons.mpr ⟨h1, List.forall_mem_cons.mpr ⟨h2, List.forall_mem_cons.mpr ⟨h3, List.forall_mem_cons.mpr ⟨h4, List.forall_mem_cons.mpr ⟨h5, fun _ h => nomatch h⟩⟩⟩⟩⟩
theorem turn_zipX {P : Program} {w : World} {K : PySem.W.Frag} {elts : List Expr} {kk : Nat} {tpos : Pos} {S1 S2 : Hp → Addr → List V → Prop} {Is1 Is2 : Heap → Addr → Array Value → Prop} {J1 J2 : Heap → Addr → Addr → Nat → Prop} (G1 : SrcG K S1 Is1 J1) (G2 : SrcG K S2 Is2 J2) (N : ZipN Is1 Is2 J1 J2)
    {a b z TI TO i1 i2 : Addr} (D : ZipApart z TI TO i1 i2 a b) :
    Turn P w K (.Tuple elts kk tpos) (ItzX S1 S2 a b) [z, TI, TO, i1, i2] z (fun i h => IsZip h z TI TO .none ∧ IsPair h TI (.ref i1) (.ref i2) ∧ (∃ x y, IsPair h TO x y) ∧ J1 h i1 a i ∧ J2 h i2 b i) where
  mem := List.mem_cons_self
  obj := fun i h ⟨hz, hTI, ⟨x, y, hTO⟩, h1, h2⟩ => of5 ⟨_, hz, fun v q => nomatch q⟩ ⟨_, hTI, fun v q => nomatch q⟩ ⟨_, hTO, fun v q => nomatch q⟩ (G1.ob h1) (G2.ob h2)
  keep := fun i h h' ⟨hz, hTI, ⟨x, y, hTO⟩, h1, h2⟩ k => ⟨k z (by simp) _ hz, k TI (by simp) _ hTI, ⟨x, y, k TO (by simp) _ hTO⟩, G1.at_ h1 fun o q => k i1 (by simp) o q, G2.at_ h2 fun o q => k i2 (by simp) o q⟩
  item := by
    intro X hP hw hK hc i pins s σ H E I hf st hg
    subst hP hw
    obtain ⟨hz, hTI, ⟨x0, y0, hTO⟩, h1, h2⟩ := st
    obtain ⟨xs, ys, x, y, hqx, hqy, hx, hy⟩ := hg
    obtain ⟨t1, r1, p1⟩ := G1.get hK I hqx
    obtain ⟨t2, r2, p2⟩ := G2.get hK I hqy
    obtain ⟨u, hu, ru⟩ := r1.get hx
    obtain ⟨v, hv, rv⟩ := r2.get hy
    obtain ⟨o1, e1, _⟩ := G1.ob h1
    obtain ⟨o2, e2, _⟩ := G2.ob h2
    refine N.nx (I.ok.hd hc) D hz hTI hTO h1 h2 p1 p2 (x := u) (y := v) (by simpa using hu) (by simpa using hv) fun h3 tk z3 TO3 h13 h23 hT hk => ?_
    refine ⟨_, rfl, wpAny_letOwnedTupleGo_zip (s := { s with heap := h3, toks := tk }) z3 fun h4 z4 sb => ?_⟩
    have hT4 : h4.get? s.heap.objs.size = some (tobj [u, v]) := (sb.2 _ (Nat.ne_of_gt (Heap.lt_size hz))).trans hT
    have I1 : Inv X pins σ (upd H s.heap.objs.size (.frz (tobj [u, v]) (.tup [x, y]))) { s with heap := h4, toks := tk } :=
      I.turnedNew (t' := tk) (ch := [z, TI, TO, i1, i2]) (fun c o hb q => (sb.2 c (fun e => hb (by simp [e]))).trans (hk c o (fun e => hb (by simp [e])) (fun e => hb (by simp [e])) (fun e => hb (by simp [e])) (fun e => hb (by simp [e])) q)) hf (Nat.le_refl _) (pair_ok hT4 ru rv)
    refine ⟨.ref s.heap.objs.size, _, I1, rfl, ⟨_, x, y, _, rfl, I.hok.fresh (Nat.le_refl _), rfl, rfl, fun l hl => by rw [G1.inj hK I hl hqx]; exact hx, fun l hl => by rw [G2.inj hK I hl hqy]; exact hy⟩,
      ⟨z4, (sb.2 _ D.TIz).trans (hk _ _ D.TIz D.TITO D.TIi1 D.TIi2 hTI), ⟨u, v, (sb.2 _ D.TOz).trans TO3⟩, G1.at_ h13 fun o q => (sb.2 _ D.i1z).trans q, G2.at_ h23 fun o q => (sb.2 _ D.i2z).trans q⟩, fun c hcm => ?_⟩
    have hlt : c < s.heap.objs.size := of5 (P := fun c => c < s.heap.objs.size) (Heap.lt_size hz) (Heap.lt_size hTI) (Heap.lt_size hTO) (Heap.lt_size e1) (Heap.lt_size e2) c hcm
    rw [upd_ne (Nat.ne_of_lt hlt)]; exact (hf c hcm).1
  done := by
    intro X hP hw hK hc i pins s σ H E I hf st hg
    subst hP hw
    obtain ⟨hz, hTI, ⟨x0, y0, hTO⟩, h1, h2⟩ := st
    obtain ⟨xs, ys, hqx, hqy, hle1, hle2, hend⟩ := hg
    obtain ⟨t1, r1, p1⟩ := G1.get hK I hqx
    obtain ⟨t2, r2, p2⟩ := G2.get hK I hqy
    have l1 := r1.length; have l2 := r2.length
    refine N.en (I.ok.hd hc) D hz hTI hTO h1 h2 p1 p2 (by simp; omega) (by simp; omega) ?_ fun h3 tk hk => ⟨rfl, I.turnedL (t' := tk) (ch := [z, TI, TO, i1, i2]) (fun c o hb q => hk c o (fun e => hb (by simp [e])) (fun e => hb (by simp [e])) (fun e => hb (by simp [e])) (fun e => hb (by simp [e])) q) hf⟩
    rcases hend with q | q
    · exact .inl (by simp; omega)
    · exact .inr (by simp; omega)
  self := fun A i s Q E st h => wpAny_pyIter_zip st.1 h
def iZipX (K : PySem.W.Frag) (ta : TA) : TI := fun σ H R => ta σ H fun vs H1 => ∃ a b xs ys, vs = [.ref a, .ref b] ∧ ((SqL K H1 a xs ∧ SqL K H1 b ys ∧ R (ItzX (SqL K) (SqL K) a b) H1) ∨ (SqT K H1 a xs ∧ SqT K H1 b ys ∧ R (ItzX (SqT K) (SqT K) a b) H1) ∨
  (SqL K H1 a xs ∧ SqT K H1 b ys ∧ R (ItzX (SqL K) (SqT K) a b) H1) ∨ (SqT K H1 a xs ∧ SqL K H1 b ys ∧ R (ItzX (SqT K) (SqL K) a b) H1))
theorem pi_zipX {X : Cx} {e e2 : Expr} {ta : TA} {p pos tpos : Pos} {elts : List Expr} {kk : Nat} (hg : Gl X "zip") (hm : X.mg "zip" = none) (ha : PA X [e, e2] ta)
    (hs : starEach [e, e2] X.env = (false, eval e X.env) :: starEach [e2] X.env := by rfl) (hpl : (backTo pos (starEach [e2] X.env)).any (·.1) = false := by rfl) : PI X (.Tuple elts kk tpos) (.Call (.Name "zip" p) [e, e2] [] pos) (iZipX X.K ta) := by
  refine ⟨fun pins s σ H R I h => Call_ (ld_blt I hg hm PyProof.Rows.boot_zip (PyProof.Rows.callWith_type1 (thn (ha.run pos pins s σ H _ I h) fun us s1 ⟨vs, H1, I1, r1, q1⟩ => ?_) hs hpl))⟩
  obtain ⟨a, b, xs, ys, rfl, q1⟩ := q1
  obtain ⟨u, t, rfl, ru, r2⟩ : ∃ u t, us = u :: t ∧ RelV (.ref a) u ∧ Vals [.ref b] t := by cases r1 with | cons x y => exact ⟨_, _, rfl, x, y⟩
  obtain ⟨v, rfl, rv⟩ := vals1 r2
  cases ru; cases rv
  have fr : ∀ k, FpOk X pins H1 (s1.heap.objs.size + k) := fun k => I1.fpOk (Nat.le_add_right _ _) (I1.hok.fresh (Nat.le_add_right _ _))
  have f5 := of5 (P := FpOk X pins H1) (fr 4) (fr 2) (fr 3) (fr 0) (fr 1)
  rcases q1 with ⟨hqx, hqy, q⟩ | ⟨hqx, hqy, q⟩ | ⟨hqx, hqy, q⟩ | ⟨hqx, hqy, q⟩
  · obtain ⟨t1, _, p1, _⟩ := I1.list hqx
    obtain ⟨t2, _, p2, _⟩ := I1.list hqy
    exact call_zip_2 p1.isList p2.isList fun h' hz hTI hTO h1 h2 hsz hk => wpAny_pyIter_zip hz ⟨s1.heap.objs.size + 4, [s1.heap.objs.size + 4, s1.heap.objs.size + 2, s1.heap.objs.size + 3, s1.heap.objs.size, s1.heap.objs.size + 1], _, _, H1, rfl, I1.kept (t' := s1.toks) hk, turn_zipX (srcL X.K) (srcL X.K) zipN_LL (PySem.W.ktu_apart s1.heap.objs.size a b p1.lt p2.lt), ⟨hz, hTI, ⟨_, _, hTO⟩, h1, h2⟩, f5, q⟩
  · obtain ⟨t1, _, p1, _⟩ := I1.tuple hqx
    obtain ⟨t2, _, p2, _⟩ := I1.tuple hqy
    exact RZ.call_zipT (show s1.heap.IsTuple a t1.toArray from p1) (show s1.heap.IsTuple b t2.toArray from p2) fun h' hz hTI hTO h1 h2 hsz hk => wpAny_pyIter_zip hz ⟨s1.heap.objs.size + 4, [s1.heap.objs.size + 4, s1.heap.objs.size + 2, s1.heap.objs.size + 3, s1.heap.objs.size, s1.heap.objs.size + 1], _, _, H1, rfl, I1.kept (t' := s1.toks) hk, turn_zipX (srcT X.K) (srcT X.K) zipN_TT (PySem.W.ktu_apart s1.heap.objs.size a b p1.lt p2.lt), ⟨hz, hTI, ⟨_, _, hTO⟩, h1, h2⟩, f5, q⟩
  · obtain ⟨t1, _, p1, _⟩ := I1.list hqx
    obtain ⟨t2, _, p2, _⟩ := I1.tuple hqy
    exact zip_begins2 (begins_list a t1.toArray) (begins_tuple b t2.toArray) p1.isList p2 fun h' hz hTI hTO h1 h2 hsz hk => wpAny_pyIter_zip hz ⟨s1.heap.objs.size + 4, [s1.heap.objs.size + 4, s1.heap.objs.size + 2, s1.heap.objs.size + 3, s1.heap.objs.size, s1.heap.objs.size + 1], _, _, H1, rfl, I1.kept (t' := s1.toks) hk, turn_zipX (srcL X.K) (srcT X.K) zipN_LT (PySem.W.ktu_apart s1.heap.objs.size a b p1.lt p2.lt), ⟨hz, hTI, ⟨_, _, hTO⟩, ⟨_, h1, rfl, rfl⟩, ⟨_, h2, rfl, rfl⟩⟩, f5, q⟩
  · obtain ⟨t1, _, p1, _⟩ := I1.tuple hqx
    obtain ⟨t2, _, p2, _⟩ := I1.list hqy
    exact zip_begins2 (begins_tuple a t1.toArray) (begins_list b t2.toArray) p1 p2.isList fun h' hz hTI hTO h1 h2 hsz hk => wpAny_pyIter_zip hz ⟨s1.heap.objs.size + 4, [s1.heap.objs.size + 4, s1.heap.objs.size + 2, s1.heap.objs.size + 3, s1.heap.objs.size, s1.heap.objs.size + 1], _, _, H1, rfl, I1.kept (t' := s1.toks) hk, turn_zipX (srcT X.K) (srcL X.K) zipN_TL (PySem.W.ktu_apart s1.heap.objs.size a b p1.lt p2.lt), ⟨hz, hTI, ⟨_, _, hTO⟩, ⟨_, h1, rfl, rfl⟩, ⟨_, h2, rfl, rfl⟩⟩, f5, q⟩
end DL
namespace DL
open PySem PySem.Spec PyProof.Rows L2
variable [Bs]
abbrev DK := D → Sto → Prop
abbrev BK := Bool → Sto → Prop
abbrev LK := List D → Sto → Prop
abbrev DE := En → Sto → DK → Prop
abbrev DT := En → Sto → BK → Prop
abbrev DA := En → Sto → LK → Prop
structure DEnds where
  nx : En → Sto → Prop
  rt : DK
  bk : En → Sto → Prop := fun _ _ => False
  ct : En → Sto → Prop := fun _ _ => False
abbrev DS := DEnds → En → Sto → Prop
def MoE (w : DE) : Prop := ∀ (e : En) (s : Sto) (Q Q' : DK), (∀ d s, Q d s → Q' d s) → w e s Q → w e s Q'
def MoT (w : DT) : Prop := ∀ (e : En) (s : Sto) (Q Q' : BK), (∀ d s, Q d s → Q' d s) → w e s Q → w e s Q'
def MoA (w : DA) : Prop := ∀ (e : En) (s : Sto) (Q Q' : LK), (∀ d s, Q d s → Q' d s) → w e s Q → w e s Q'
structure DEnds.le (A B : DEnds) : Prop where
  nx : ∀ e s, A.nx e s → B.nx e s
  rt : ∀ d s, A.rt d s → B.rt d s
  bk : ∀ e s, A.bk e s → B.bk e s
  ct : ∀ e s, A.ct e s → B.ct e s
theorem DEnds.le.refl (A : DEnds) : A.le A := ⟨fun _ _ h => h, fun _ _ h => h, fun _ _ h => h, fun _ _ h => h⟩
def MoS (w : DS) : Prop := ∀ (A B : DEnds) (e : En) (s : Sto), A.le B → w A e s → w B e s
/-- the wishes below -/
def kE (K : PySem.W.Frag) (H : Hp) (io : List Addr) (F : Hp) (Q : VK) : DK := fun d st' => ∀ v io' F' H', Stp H io F H' io' F' → RelH K H' io' F' st' → Den K io' F' v d → Q v H'
def kT (K : PySem.W.Frag) (H : Hp) (io : List Addr) (F : Hp) (Q : Bool → Hp → Prop) : BK := fun b st' => ∀ io' F' H', Stp H io F H' io' F' → RelH K H' io' F' st' → Q b H'
def kA (K : PySem.W.Frag) (H : Hp) (io : List Addr) (F : Hp) (Q : List V → Hp → Prop) : LK := fun ds st' => ∀ vs io' F' H', Stp H io F H' io' F' → RelH K H' io' F' st' → DenL K io' F' vs ds → Q vs H'
def kN (K : PySem.W.Frag) (H : Hp) (io : List Addr) (F : Hp) (Q : L2.St → Hp → Prop) : En → Sto → Prop := fun env' st' => ∀ σ' io' F' H', Stp H io F H' io' F' → Rel K σ' H' env' io' F' st' → Q σ' H'
def kD (K : PySem.W.Frag) (H : Hp) (io : List Addr) (F : Hp) (D : Ends) : DEnds := ⟨kN K H io F D.nx, kE K H io F D.rt, kN K H io F D.bk, kN K H io F D.ct⟩
def tE (K : PySem.W.Frag) (w : DE) : TE := fun σ H Q => ∃ env io F st, Rel K σ H env io F st ∧ w env st (kE K H io F Q)
def tT (K : PySem.W.Frag) (w : DT) : TT := fun σ H Q => ∃ env io F st, Rel K σ H env io F st ∧ w env st (kT K H io F Q)
def tA (K : PySem.W.Frag) (w : DA) : TA := fun σ H Q => ∃ env io F st, Rel K σ H env io F st ∧ w env st (kA K H io F Q)
def tS (K : PySem.W.Frag) (w : DS) : TS := fun D σ H => ∃ env io F st, Rel K σ H env io F st ∧ w (kD K H io F D) env st
structure WE (X : Cx) (e : Expr) (w : DE) : Prop where
  mo : MoE w
  pe : PE X e (tE X.K w)
structure WT (X : Cx) (e : Expr) (w : DT) : Prop where
  mo : MoT w
  pe : PT X e (tT X.K w)
structure WA (X : Cx) (es : List Expr) (w : DA) : Prop where
  mo : MoA w
  pe : PA X es (tA X.K w)
structure WS (X : Cx) (s : Stmt) (w : DS) : Prop where
  mo : MoS w
  pe : PS X s (tS X.K w)
structure WB (X : Cx) (s : List Stmt) (w : DS) : Prop where
  mo : MoS w
  pe : PSs X s (tS X.K w)
theorem PE_imp {X : Cx} {e : Expr} {t t' : TE} (h : PE X e t) (i : ∀ σ H Q, t' σ H Q → t σ H Q) : PE X e t' := ⟨fun p s σ H Q I q => h.run p s σ H Q I (i σ H Q q)⟩
theorem PT_imp {X : Cx} {e : Expr} {t t' : TT} (h : PT X e t) (i : ∀ σ H Q, t' σ H Q → t σ H Q) : PT X e t' := ⟨fun p s σ H Q I q => h.run p s σ H Q I (i σ H Q q)⟩
theorem PA_imp {X : Cx} {e : List Expr} {t t' : TA} (h : PA X e t) (i : ∀ σ H Q, t' σ H Q → t σ H Q) : PA X e t' := ⟨fun pos p s σ H Q I q => h.run pos p s σ H Q I (i σ H Q q)⟩
theorem PS_imp {X : Cx} {e : Stmt} {t t' : TS} (h : PS X e t) (i : ∀ D σ H, t' D σ H → t D σ H) : PS X e t' := ⟨fun p s σ H Q I q => h.run p s σ H Q I (i Q σ H q)⟩
theorem PSs_imp {X : Cx} {e : List Stmt} {t t' : TS} (h : PSs X e t) (i : ∀ D σ H, t' D σ H → t D σ H) : PSs X e t' := ⟨fun p s σ H Q I q => h.run p s σ H Q I (i Q σ H q)⟩
section
variable {K : PySem.W.Frag} {io io' io1 : List Addr} {F F' F1 H H' H1 : Hp} {st st' : Sto} {σ : L2.St} {env : En}
/-- an expression's reading, its end as one wants -/
theorem tE_use {w : DE} (m : MoE w) {P : DK} {Q : VK} (R : Rel K σ H env io F st) (h : w env st P)
    (k : ∀ d st' v io' F' H', P d st' → Stp H io F H' io' F' → Rel K σ H' env io' F' st' → Den K io' F' v d → Q v H') : tE K w σ H Q :=
  ⟨env, io, F, st, R, m _ _ _ _ (fun d st' p v io' F' H' s r n => k d st' v io' F' H' p s (R.next s r) n) h⟩
theorem tT_use {w : DT} (m : MoT w) {P : BK} {Q : Bool → Hp → Prop} (R : Rel K σ H env io F st) (h : w env st P)
    (k : ∀ b st' io' F' H', P b st' → Stp H io F H' io' F' → Rel K σ H' env io' F' st' → Q b H') : tT K w σ H Q :=
  ⟨env, io, F, st, R, m _ _ _ _ (fun b st' p io' F' H' s r => k b st' io' F' H' p s (R.next s r)) h⟩
theorem tA_use {w : DA} (m : MoA w) {P : LK} {Q : List V → Hp → Prop} (R : Rel K σ H env io F st) (h : w env st P)
    (k : ∀ ds st' vs io' F' H', P ds st' → Stp H io F H' io' F' → Rel K σ H' env io' F' st' → DenL K io' F' vs ds → Q vs H') : tA K w σ H Q :=
  ⟨env, io, F, st, R, m _ _ _ _ (fun d st' p v io' F' H' s r n => k d st' v io' F' H' p s (R.next s r) n) h⟩
theorem kE_at {Q : VK} {d : D} {v : V} (h : kE K H io F Q d st') (s : Stp H io F H' io' F') (r : RelH K H' io' F' st') (n : Den K io' F' v d) : Q v H' := h v io' F' H' s r n
theorem kE_later {Q : VK} {d : D} {st : Sto} (s : Stp H io F H' io' F') (h : kE K H io F Q d st) : kE K H' io' F' Q d st := fun v io2 F2 H2 t r n => h v io2 F2 H2 (s.trans t) r n
theorem kN_later {Q : L2.St → Hp → Prop} {e : En} {st : Sto} (s : Stp H io F H' io' F') (h : kN K H io F Q e st) : kN K H' io' F' Q e st := fun σ2 io2 F2 H2 t r => h σ2 io2 F2 H2 (s.trans t) r
theorem kD_later {D : Ends} (s : Stp H io F H' io' F') : (kD K H io F D).le (kD K H' io' F' D) := ⟨fun _ _ h => kN_later s h, fun _ _ h => kE_later s h, fun _ _ h => kN_later s h, fun _ _ h => kN_later s h⟩
end
section
variable {X : Cx} {pos : Pos}
def wVar (i : Nat) : DE := fun env st Q => ∃ d, env[i]? = some (some d) ∧ Q d st
theorem we_var {i : Nat} {x : Str} (hN : X.N[i]? = some x) (hv : Vis X.env.scope x) (hd : (x == ("__debug__" : Str)) = false := by decide) (hcd : (x == ("__classdict__" : Str)) = false := by decide) : WE X (.Name x pos) (wVar i) := by
  refine ⟨fun e s Q Q' h ⟨d, h1, h2⟩ => ⟨d, h1, h _ _ h2⟩, PE_imp (pe_var hN hv hd hcd) fun σ H Q ⟨env, io, F, st, R, d, e, q⟩ => ?_⟩
  obtain ⟨v, h1, h2⟩ := R.slot i d e
  exact ⟨v, h1, q v io F H Stp.refl R.toRelH h2⟩
def wC (d : D) : DE := fun _ st Q => Q d st
theorem moC (d : D) : MoE (wC d) := fun _ _ _ _ h q => h _ _ q
theorem we_c {e : Expr} {v : V} {d : D} (h : PE X e (tC v)) (hd : ∀ io F, Den X.K io F v d) : WE X e (wC d) :=
  ⟨moC d, PE_imp h fun σ H Q ⟨env, io, F, st, R, q⟩ => q v io F H Stp.refl R.toRelH (hd _ _)⟩
theorem we_int {i : Int} {j} : WE X (.Constant (.int i) j pos) (wC (.int i)) := we_c pe_int fun _ _ => .int i
theorem we_bl {b : Bool} {j} : WE X (.Constant (.bool b) j pos) (wC (.bl b)) := we_c pe_bl fun _ _ => .bl b
theorem we_non {j} : WE X (.Constant .none j pos) (wC .non) := we_c pe_non fun _ _ => .non
theorem we_str {x} {j} : WE X (.Constant (.str x) j pos) (wC (.str x)) := we_c pe_str fun _ _ => .str x
theorem we_gint {x : Str} {i : Int} (hg : Gl X x) (hm : ∃ t, X.mg x = some (.int i t)) (hd : (x == ("__debug__" : Str)) = false := by decide) : WE X (.Name x pos) (wC (.int i)) := by
  obtain ⟨t, hm⟩ := hm
  exact we_c (pe_glob (v := .int i) hg hm ⟨t, rfl⟩ hd) fun _ _ => .int i
/-- a tuple of the written part -/
theorem we_gtup {x : Str} {a : Addr} {ds : List D} (hg : Gl X x) (hm : X.mg x = some (.ref a)) (h : ∀ io F, Den X.K io F (.ref a) (.tup ds)) (hd : (x == ("__debug__" : Str)) = false := by decide) : WE X (.Name x pos) (wC (.tup ds)) :=
  we_c (pe_glob (v := .ref a) hg hm rfl hd) h
end
abbrev R2D := D → D → Sto → DK → Prop
def wOp (f : R2D) (wa wb : DE) : DE := fun env st Q => wa env st fun a s1 => wb env s1 fun b s2 => f a b s2 Q
def MoR (f : R2D) : Prop := ∀ a b s Q Q', (∀ d s, Q d s → Q' d s) → f a b s Q → f a b s Q'
/-- f is done by r -/
structure Rz (K : PySem.W.Frag) (r : R2) (f : R2D) : Prop where
  mo : MoR f
  on : ∀ {H io F st x y a b Q}, RelH K H io F st → Den K io F x a → Den K io F y b → f a b st (kE K H io F Q) → r x y H Q
theorem moOp {f : R2D} {wa wb : DE} (mf : MoR f) (ma : MoE wa) (mb : MoE wb) : MoE (wOp f wa wb) := fun e s Q Q' h q => ma _ _ _ _ (fun _ _ q => mb _ _ _ _ (fun _ _ q => mf _ _ _ _ _ h q) q) q
theorem tOp_of {X : Cx} {r : R2} {f : R2D} {a b : Expr} {wa wb : DE} (z : Rz X.K r f) (ha : WE X a wa) (hb : WE X b wb) {σ : L2.St} {H : Hp} {Q : VK} (h : tE X.K (wOp f wa wb) σ H Q) : tOp r (tE X.K wa) (tE X.K wb) σ H Q := by
  obtain ⟨env, io, F, st, R, q⟩ := h
  refine tE_use ha.mo R q fun d1 s1 v1 io1 F1 H1 q1 t1 R1 n1 => ?_
  refine tE_use hb.mo R1 q1 fun d2 s2 v2 io2 F2 H2 q2 t2 R2 n2 => ?_
  exact z.on R2.toRelH (t2.den n1) n2 (z.mo _ _ _ _ _ (fun d s => kE_later (t1.trans t2)) q2)
section
variable {X : Cx} {pos : Pos} {a b c : Expr} {wa wb wc : DE}
theorem we_op {op : Operator} {r : R2} {f : R2D} (ho : OpR X (binaryOp op) r) (z : Rz X.K r f) (ha : WE X a wa) (hb : WE X b wb) : WE X (.BinOp a op b pos) (wOp f wa wb) :=
  ⟨moOp z.mo ha.mo hb.mo, PE_imp (pe_op ho ha.pe hb.pe) fun σ H Q h => tOp_of z ha hb h⟩
theorem we_cmp {op : CmpOp} {r : R2} {f : R2D} (ho : OpR X (compareOp op) r) (z : Rz X.K r f) (ha : WE X a wa) (hb : WE X b wb) (hm : behindInMarks op b = false) : WE X (.Compare a [op] [b] pos) (wOp f wa wb) :=
  ⟨moOp z.mo ha.mo hb.mo, PE_imp (pe_cmpR ho ha.pe hb.pe hm) fun σ H Q h => tOp_of z ha hb h⟩
/-- a value that is a bool, as a test -/
def wTest (w : DE) : DT := fun env st Q => w env st fun d s => ∃ b, d = .bl b ∧ Q b s
theorem moTest {w : DE} (m : MoE w) : MoT (wTest w) := fun e s Q Q' h q => m _ _ _ _ (fun _ _ ⟨b, e, q⟩ => ⟨b, e, h _ _ q⟩) q
theorem kB {K : PySem.W.Frag} {H : Hp} {io : List Addr} {F : Hp} {Q : Bool → Hp → Prop} {d : D} {st : Sto} (h : ∃ b, d = .bl b ∧ kT K H io F Q b st) : kE K H io F (fun x H' => ∃ k, x = .bl k ∧ Q k H') d st := by
  obtain ⟨b, e, q⟩ := h
  subst e
  intro v io' F' H' s r n
  cases n
  exact ⟨b, rfl, q _ _ _ s r⟩
theorem wt_val {e : Expr} {w : DE} (h : WE X e w) (he : ∀ whole, isTrue e X.env whole = (do let v ← whole; standAt e.pos; holding [v] (truthy v)) := by intro _; rfl) : WT X e (wTest w) :=
  ⟨moTest h.mo, PT_imp (pt_val h.pe he) fun σ H Q ⟨env, io, F, st, R, q⟩ => ⟨env, io, F, st, R, h.mo _ _ _ _ (fun d s => kB) q⟩⟩
theorem wt_cmp {op : CmpOp} {r : R2} {f : R2D} (ho : OpR X (compareOp op) r) (z : Rz X.K r f) (ha : WE X a wa) (hb : WE X b wb) (hm : behindInMarks op b = false) : WT X (.Compare a [op] [b] pos) (wTest (wOp f wa wb)) :=
  ⟨moTest (moOp z.mo ha.mo hb.mo), PT_imp (pt_cmpR ho ha.pe hb.pe hm) fun σ H Q ⟨env, io, F, st, R, q⟩ =>
    tOp_of z ha hb ⟨env, io, F, st, R, moOp z.mo ha.mo hb.mo _ _ _ _ (fun d s => kB) q⟩⟩
def wChain (f f' : R2D) (wa wb wc : DE) : DE := fun env st Q => wa env st fun x s1 => wb env s1 fun y s2 => f x y s2 fun z s3 => ∃ k, z = .bl k ∧ if k = true then wc env s3 fun u s4 => f' y u s4 Q else Q (.bl false) s3
theorem moChain {f f' : R2D} (mf : MoR f) (mf' : MoR f') (ma : MoE wa) (mb : MoE wb) (mc : MoE wc) : MoE (wChain f f' wa wb wc) := fun e s Q Q' h q =>
  ma _ _ _ _ (fun _ _ q => mb _ _ _ _ (fun _ _ q => mf _ _ _ _ _ (fun _ _ ⟨k, e, q⟩ => ⟨k, e, by
    cases k with
    | true => exact mc _ _ _ _ (fun _ _ q => mf' _ _ _ _ _ h q) q
    | false => exact h _ _ q⟩) q) q) q
theorem tChain_of {r r' : R2} {f f' : R2D} (z : Rz X.K r f) (z' : Rz X.K r' f') (ha : WE X a wa) (hb : WE X b wb) (hc : WE X c wc) {σ : L2.St} {H : Hp} {Q : VK} (h : tE X.K (wChain f f' wa wb wc) σ H Q) : tChain r r' (tE X.K wa) (tE X.K wb) (tE X.K wc) σ H Q := by
  obtain ⟨env, io, F, st, R, q⟩ := h
  refine tE_use ha.mo R q fun d1 s1 v1 io1 F1 H1 q1 t1 R1 n1 => ?_
  refine tE_use hb.mo R1 q1 fun d2 s2 v2 io2 F2 H2 q2 t2 R2 n2 => ?_
  refine z.on R2.toRelH (t2.den n1) n2 (z.mo _ _ _ _ _ (fun d s3 q3 => ?_) q2)
  obtain ⟨k, e, q3⟩ := q3
  subst e
  intro v3 io3 F3 H3 t3 R3 n3
  cases n3
  refine ⟨k, rfl, ?_⟩
  cases k with
  | true =>
    rw [if_pos rfl] at q3 ⊢
    refine tE_use hc.mo (R2.next t3 R3) q3 fun d4 s4 v4 io4 F4 H4 q4 t4 R4 n4 => ?_
    exact z'.on R4.toRelH ((t3.trans t4).den n2) n4 (z'.mo _ _ _ _ _ (fun d s => kE_later (((t1.trans t2).trans t3).trans t4)) q4)
  | false =>
    rw [if_neg Bool.false_ne_true] at q3 ⊢
    exact kE_at q3 ((t1.trans t2).trans t3) R3 (.bl false)
theorem we_chain {op op' : CmpOp} {r r' : R2} {f f' : R2D} (ho : OpR X (compareOp op) r) (z : Rz X.K r f) (ho' : OpR X (compareOp op') r') (z' : Rz X.K r' f') (ha : WE X a wa) (hb : WE X b wb) (hc : WE X c wc)
    (hm : lastMarks [op, op'] [b, c] = false := by with_unfolding_all rfl) : WE X (.Compare a [op, op'] [b, c] pos) (wChain f f' wa wb wc) :=
  ⟨moChain z.mo z'.mo ha.mo hb.mo hc.mo, PE_imp (pe_chain ho ho' ha.pe hb.pe hc.pe hm) fun σ H Q h => tChain_of z z' ha hb hc h⟩
theorem wt_chain {op op' : CmpOp} {r r' : R2} {f f' : R2D} (ho : OpR X (compareOp op) r) (z : Rz X.K r f) (ho' : OpR X (compareOp op') r') (z' : Rz X.K r' f') (ha : WE X a wa) (hb : WE X b wb) (hc : WE X c wc)
    (hm : lastMarks [op, op'] [b, c] = false := by with_unfolding_all rfl) : WT X (.Compare a [op, op'] [b, c] pos) (wTest (wChain f f' wa wb wc)) :=
  ⟨moTest (moChain z.mo z'.mo ha.mo hb.mo hc.mo), PT_imp (pt_chain ho ho' ha.pe hb.pe hc.pe hm) fun σ H Q ⟨env, io, F, st, R, q⟩ =>
    tChain_of z z' ha hb hc ⟨env, io, F, st, R, moChain z.mo z'.mo ha.mo hb.mo hc.mo _ _ _ _ (fun d s => kB) q⟩⟩
end
end DL
namespace DL
open PySem PySem.Spec PyProof.Rows L2
variable [Bs]
section
variable {X : Cx} {pos : Pos} {a b : Expr} {rest : List Expr} {wa wb : DE} {ta tb : DT}
def wAnd (ta tb : DT) : DT := fun env st Q => ta env st fun c s => if c = true then tb env s Q else Q false s
def wOr (ta tb : DT) : DT := fun env st Q => ta env st fun c s => if c = true then Q true s else tb env s Q
def wNot (ta : DT) : DT := fun env st Q => ta env st fun c s => Q (!c) s
theorem moAnd (ma : MoT ta) (mb : MoT tb) : MoT (wAnd ta tb) := fun e s Q Q' h q => ma _ _ _ _ (fun c _ q => by cases c with
  | true => exact mb _ _ _ _ h q
  | false => exact h _ _ q) q
theorem moOr (ma : MoT ta) (mb : MoT tb) : MoT (wOr ta tb) := fun e s Q Q' h q => ma _ _ _ _ (fun c _ q => by cases c with
  | true => exact h _ _ q
  | false => exact mb _ _ _ _ h q) q
/-- a test whatever its whole is -/
structure WW (X : Cx) (e : Expr) (w : DT) : Prop where
  mo : MoT w
  pe : PW X e (tT X.K w)
theorem WW.wt {e : Expr} {w : DT} (h : WW X e w) : WT X e w := ⟨h.mo, h.pe.pt⟩
theorem PW_imp {e : Expr} {t t' : TT} (h : PW X e t) (i : ∀ σ H Q, t' σ H Q → t σ H Q) : PW X e t' := ⟨fun w p s σ H Q I q => h.run w p s σ H Q I (i σ H Q q)⟩
theorem ww_and1 (h : WT X a ta) : WW X (.BoolOp .And [a] pos) ta := ⟨h.mo, pw_and1 h.pe⟩
theorem ww_or1 (h : WT X a ta) : WW X (.BoolOp .Or [a] pos) ta := ⟨h.mo, pw_or1 h.pe⟩
theorem ww_and (ha : WT X a ta) (hb : WW X (.BoolOp .And (b :: rest) pos) tb) : WW X (.BoolOp .And (a :: b :: rest) pos) (wAnd ta tb) := by
  refine ⟨moAnd ha.mo hb.mo, PW_imp (pw_and ha.pe hb.pe) fun σ H Q ⟨env, io, F, st, R, q⟩ => ?_⟩
  refine tT_use ha.mo R q fun c s1 io1 F1 H1 q1 t1 R1 => ?_
  cases c with
  | true => exact tT_use hb.mo R1 q1 fun c s2 io2 F2 H2 q2 t2 R2 => q2 _ _ _ (t1.trans t2) R2.toRelH
  | false => exact q1 _ _ _ t1 R1.toRelH
theorem ww_or (ha : WT X a ta) (hb : WW X (.BoolOp .Or (b :: rest) pos) tb) : WW X (.BoolOp .Or (a :: b :: rest) pos) (wOr ta tb) := by
  refine ⟨moOr ha.mo hb.mo, PW_imp (pw_or ha.pe hb.pe) fun σ H Q ⟨env, io, F, st, R, q⟩ => ?_⟩
  refine tT_use ha.mo R q fun c s1 io1 F1 H1 q1 t1 R1 => ?_
  cases c with
  | true => exact q1 _ _ _ t1 R1.toRelH
  | false => exact tT_use hb.mo R1 q1 fun c s2 io2 F2 H2 q2 t2 R2 => q2 _ _ _ (t1.trans t2) R2.toRelH
theorem wt_not (ha : WT X a ta) : WT X (.UnaryOp .Not a pos) (wNot ta) :=
  ⟨fun e s Q Q' h q => ha.mo _ _ _ _ (fun _ _ q => h _ _ q) q, PT_imp (pt_not ha.pe) fun σ H Q ⟨env, io, F, st, R, q⟩ => ⟨env, io, F, st, R, q⟩⟩
def wAndV (wa wb : DE) : DE := fun env st Q => wa env st fun d s => ∃ c, d = .bl c ∧ if c = true then wb env s Q else Q (.bl false) s
def wOrV (wa wb : DE) : DE := fun env st Q => wa env st fun d s => ∃ c, d = .bl c ∧ if c = true then Q (.bl true) s else wb env s Q
def wNotV (wa : DE) : DE := fun env st Q => wa env st fun d s => ∃ c, d = .bl c ∧ Q (.bl (!c)) s
theorem we_one {op} (h : WE X a wa) : WE X (.BoolOp op [a] pos) wa := ⟨h.mo, pe_one h.pe⟩
theorem we_and (ha : WE X a wa) (hb : WE X (.BoolOp .And (b :: rest) pos) wb) : WE X (.BoolOp .And (a :: b :: rest) pos) (wAndV wa wb) := by
  refine ⟨fun e s Q Q' h q => ha.mo _ _ _ _ (fun _ _ ⟨c, e, q⟩ => ⟨c, e, by
    cases c with
    | true => exact hb.mo _ _ _ _ h q
    | false => exact h _ _ q⟩) q, PE_imp (pe_and ha.pe hb.pe) fun σ H Q ⟨env, io, F, st, R, q⟩ => ?_⟩
  refine tE_use ha.mo R q fun d s1 v io1 F1 H1 q1 t1 R1 n1 => ?_
  obtain ⟨c, e, q1⟩ := q1
  subst e
  cases n1
  refine ⟨c, rfl, ?_⟩
  cases c with
  | true => exact tE_use hb.mo R1 q1 fun d s2 v2 io2 F2 H2 q2 t2 R2 n2 => kE_at q2 (t1.trans t2) R2.toRelH n2
  | false => exact kE_at q1 t1 R1.toRelH (.bl false)
theorem we_or (ha : WE X a wa) (hb : WE X (.BoolOp .Or (b :: rest) pos) wb) : WE X (.BoolOp .Or (a :: b :: rest) pos) (wOrV wa wb) := by
  refine ⟨fun e s Q Q' h q => ha.mo _ _ _ _ (fun _ _ ⟨c, e, q⟩ => ⟨c, e, by
    cases c with
    | true => exact h _ _ q
    | false => exact hb.mo _ _ _ _ h q⟩) q, PE_imp (pe_or ha.pe hb.pe) fun σ H Q ⟨env, io, F, st, R, q⟩ => ?_⟩
  refine tE_use ha.mo R q fun d s1 v io1 F1 H1 q1 t1 R1 n1 => ?_
  obtain ⟨c, e, q1⟩ := q1
  subst e
  cases n1
  refine ⟨c, rfl, ?_⟩
  cases c with
  | true => exact kE_at q1 t1 R1.toRelH (.bl true)
  | false => exact tE_use hb.mo R1 q1 fun d s2 v2 io2 F2 H2 q2 t2 R2 n2 => kE_at q2 (t1.trans t2) R2.toRelH n2
theorem we_not (ha : WE X a wa) : WE X (.UnaryOp .Not a pos) (wNotV wa) := by
  refine ⟨fun e s Q Q' h q => ha.mo _ _ _ _ (fun _ _ ⟨c, e, q⟩ => ⟨c, e, h _ _ q⟩) q, PE_imp (pe_not ha.pe) fun σ H Q ⟨env, io, F, st, R, q⟩ => ?_⟩
  refine tE_use ha.mo R q fun d s1 v io1 F1 H1 q1 t1 R1 n1 => ?_
  obtain ⟨c, e, q1⟩ := q1
  subst e
  cases n1
  exact ⟨c, rfl, kE_at q1 t1 R1.toRelH (.bl _)⟩
def wNeg (wa : DE) : DE := fun env st Q => wa env st fun d s => ∃ i, d = .int i ∧ Q (.int (-i)) s
theorem we_neg (ha : WE X a wa) : WE X (.UnaryOp .USub a pos) (wNeg wa) := by
  refine ⟨fun e s Q Q' h q => ha.mo _ _ _ _ (fun _ _ ⟨c, e, q⟩ => ⟨c, e, h _ _ q⟩) q, PE_imp (pe_un un_neg ha.pe) fun σ H Q ⟨env, io, F, st, R, q⟩ => ?_⟩
  refine tE_use ha.mo R q fun d s1 v io1 F1 H1 q1 t1 R1 n1 => ?_
  obtain ⟨c, e, q1⟩ := q1
  subst e
  cases n1
  exact ⟨c, rfl, kE_at q1 t1 R1.toRelH (.int _)⟩
def wNil : DA := fun _ st Q => Q [] st
def wCons (wa : DE) (wr : DA) : DA := fun env st Q => wa env st fun d s1 => wr env s1 fun ds s2 => Q (d :: ds) s2
theorem wa_nil : WA X [] wNil := ⟨fun _ _ _ _ h q => h _ _ q, PA_imp pa_nil fun σ H Q ⟨env, io, F, st, R, q⟩ => q [] io F H Stp.refl R.toRelH .nil⟩
theorem wa_cons {es : List Expr} {wr : DA} (ha : WE X a wa) (hr : WA X es wr) (hs : starEach (a :: es) X.env = (false, eval a X.env) :: starEach es X.env := by rfl) : WA X (a :: es) (wCons wa wr) := by
  refine ⟨fun e s Q Q' h q => ha.mo _ _ _ _ (fun _ _ q => hr.mo _ _ _ _ (fun _ _ q => h _ _ q) q) q, PA_imp (pa_cons ha.pe hr.pe hs) fun σ H Q ⟨env, io, F, st, R, q⟩ => ?_⟩
  refine tE_use ha.mo R q fun d s1 v io1 F1 H1 q1 t1 R1 n1 => ?_
  refine tA_use hr.mo R1 q1 fun ds s2 vs io2 F2 H2 q2 t2 R2 n2 => ?_
  exact q2 _ _ _ _ (t1.trans t2) R2.toRelH (.cons (t2.den n1) n2)
end
/-- a new tuple -/
theorem lay_tup {K : PySem.W.Frag} {H : Hp} {io : List Addr} {F : Hp} {st : Sto} {Q : VK} {vs : List V} {ds : List D} (R : RelH K H io F st) (n : DenL K io F vs ds) (z : ds.length ≤ sizeLine) (q : kE K H io F Q (.tup ds) st) :
    XtK H Q vs := fun p o hp hd =>
  q _ io (upd F p (.frz o (.tup vs))) _ (Stp.laid hp R.sub) (R.laid hp) (.tup (.inl ⟨o, upd_same, hd⟩) ((Stp.laid hp R.sub).denL n) z)
theorem lay_lst {K : PySem.W.Frag} {H : Hp} {io : List Addr} {F : Hp} {st : Sto} {Q : VK} {vs : List V} {ds : List D} (R : RelH K H io F st) (n : DenL K io F vs ds) (z : ds.length ≤ sizeLine) (q : kE K H io F Q (.lst ds) st) :
    ∀ p, H p = none → Q (.ref p) (upd H p (.lst vs)) := fun p hp =>
  q _ io (upd F p (.lst vs)) _ (Stp.laid hp R.sub) (R.laid hp) (.lst upd_same ((Stp.laid hp R.sub).denL n) z)
section
variable {K : PySem.W.Frag} {io io' : List Addr} {F F' H H' : Hp} {st st' : Sto}
/-- a new cell -/
theorem new_cell (R : RelH K H io F st) {p : Addr} {vs : List V} {ds : List D} (hp : H p = none) (n : DenL K io F vs ds) (z : ds.length ≤ sizeLine) :
    Stp H io F (upd H p (.lst vs)) (io ++ [p]) F ∧ RelH K (upd H p (.lst vs)) (io ++ [p]) F (st ++ [.lst ds]) ∧ Den K (io ++ [p]) F (.ref p) (.ref st.length) := by
  have s : Stp H io F (upd H p (.lst vs)) (io ++ [p]) F := (Stp.aside hp).cell hp
  exact ⟨s, (R.aside hp).adopt ⟨_, upd_same, fun _ z => nomatch z⟩ (R.notIo hp) ⟨R.notF hp, z, vs, upd_same, s.denL n⟩, R.newRef⟩
theorem lay_cell {Q : VK} {vs : List V} {ds : List D} (R : RelH K H io F st) (n : DenL K io F vs ds) (z : ds.length ≤ sizeLine) (q : kE K H io F Q (.ref st.length) (st ++ [.lst ds])) :
    ∀ p, H p = none → Q (.ref p) (upd H p (.lst vs)) := fun p hp => by
  obtain ⟨s, r, d⟩ := new_cell R hp n z
  exact q _ _ _ _ s r d
/-- a new list: kept apart (mutable) or a value -/
def newL (m : Bool) (ds : List D) (st : Sto) (Q : DK) : Prop := if m = true then Q (.ref st.length) (st ++ [.lst ds]) else Q (.lst ds) st
theorem newL_mo {m : Bool} {ds : List D} {st : Sto} {Q Q' : DK} (h : ∀ d s, Q d s → Q' d s) (q : newL m ds st Q) : newL m ds st Q' := by
  cases m with
  | true => exact h _ _ q
  | false => exact h _ _ q
theorem lay_new {m : Bool} {Q : VK} {vs : List V} {ds : List D} (R : RelH K H io F st) (n : DenL K io F vs ds) (z : ds.length ≤ sizeLine) (q : newL m ds st (kE K H io F Q)) :
    ∀ p, H p = none → Q (.ref p) (upd H p (.lst vs)) := by
  cases m with
  | true => exact lay_cell R n z q
  | false => exact lay_lst R n z q
end
section
variable {X : Cx} {pos : Pos} {es : List Expr} {wa : DA}
def wTup (wa : DA) : DE := fun env st Q => wa env st fun ds s => ds.length ≤ sizeLine ∧ Q (.tup ds) s
def wLst (m : Bool) (wa : DA) : DE := fun env st Q => wa env st fun ds s => ds.length ≤ sizeLine ∧ newL m ds s Q
theorem we_tup {k} (h : WA X es wa) : WE X (.Tuple es k pos) (wTup wa) := by
  refine ⟨fun e s Q Q' i q => h.mo _ _ _ _ (fun _ _ ⟨z, q⟩ => ⟨z, i _ _ q⟩) q, PE_imp (pe_tupX h.pe) fun σ H Q ⟨env, io, F, st, R, q⟩ => ?_⟩
  refine tA_use h.mo R q fun ds s1 vs io1 F1 H1 ⟨z, q1⟩ t1 R1 n1 => ⟨by rw [n1.length]; exact z, ?_⟩
  exact lay_tup R1.toRelH n1 z (kE_later t1 q1)
theorem we_lst {m : Bool} (h : WA X es wa) : WE X (.List es pos) (wLst m wa) := by
  refine ⟨fun e s Q Q' i q => h.mo _ _ _ _ (fun _ _ ⟨z, q⟩ => ⟨z, newL_mo i q⟩) q, PE_imp (pe_lst h.pe) fun σ H Q ⟨env, io, F, st, R, q⟩ => ?_⟩
  refine tA_use h.mo R q fun ds s1 vs io1 F1 H1 ⟨z, q1⟩ t1 R1 n1 => ⟨by rw [n1.length]; exact z, ?_⟩
  exact lay_new R1.toRelH n1 z (newL_mo (fun _ _ => kE_later t1) q1)
end
end DL
namespace DL
open PySem PySem.Spec PyProof.Rows L2
structure FnG (P : Program) (w : World) (K : PySem.W.Frag) (mg : Str → Option Value) (base : Heap) (CX : CXT) (k : Nat) (f : Addr) (fd : FuncData) (ps : List Str) (sp : Sp) : Prop where
  len : ∀ vs H Q E, sp vs H Q E → vs.length = ps.length
  run : ∀ (A : Around) (outer : List Env) (s : Shared) (H : Hp) (args : Args) (us : List Value) (vs : List V) (Q : VK) (E : XK), Room k A → A.guards = some [] → Env0 P w K mg base A outer s H → BindsTo s fd args (ps.zip us) →
    Vals vs us → sp vs H Q E → codeAny (model P w) A (.call (.ref f) args) (CR CX outer P w H s Q E) s
theorem FnG.mono {P : Program} {w : World} {K : PySem.W.Frag} {mg : Str → Option Value} {base : Heap} {CX : CXT} {j k : Nat} {f : Addr} {fd : FuncData} {ps : List Str} {sp : Sp} (F : FnG P w K mg base CX j f fd ps sp) (h : j ≤ k) :
    FnG P w K mg base CX k f fd ps sp := ⟨F.len, fun A outer s H args us vs Q E hr => F.run A outer s H args us vs Q E (hr.mono h)⟩
section
variable {X : Cx} {CX : CXT} {k : Nat} {f : Addr} {fd : FuncData} {ps : List Str} {sp : Sp} {E : XK} {x : Str} {p pos : Pos} {e : Expr} {es : List Expr} {t : TA}
theorem runG {pins : List (Addr × Obj)} {σ : L2.St} {H : Hp} {s : Shared} {Q : VK} {us : List Value} {vs : List V} (F : FnG X.prog X.w X.K X.mg X.base CX k f fd ps sp) (hr : Room k X.A) (hgd : X.A.guards = some []) (hb : Binds X.K fd ps [])
    (hx : Passes CX X E) (I : Inv X pins σ H s) (r : Vals vs us) (h : sp vs H Q E) : wpAny (model X.prog X.w) X.A (call (.ref f) us) (EP X pins σ Q) X.xe s := by
  have hlen : (us ++ []).length = ps.length := by rw [List.append_nil, ← r.length]; exact F.len _ _ _ _ h
  have hbind := hb s us I.kIn hlen
  rw [List.append_nil] at hbind
  have run := F.run X.A X.stack s H ⟨us, []⟩ us vs Q E hr hgd I.env0 hbind r h
  refine wpAny_call (codeAny_mono run fun res s' hq => ?_)
  match res, hq with
  | .error e, hq => exact hx pins σ H s e s' I hq
  | .ok (.ret u), hq => exact I.after hq
  | .ok .next, hq => exact hq.elim
  | .ok .brk, hq => exact hq.elim
  | .ok .cont, hq => exact hq.elim
theorem pe_callG (F : FnG X.prog X.w X.K X.mg X.base CX k f fd ps sp) (hr : Room k X.A) (hgd : X.A.guards = some []) (hg : Gl X x) (hm : X.mg x = some (.ref f)) (hk : PySem.W.keepIn X.K (.ref f) = true) (hb : Binds X.K fd ps []) (hx : Passes CX X E)
    (ha : PA X (e :: es) t) (hdb : (x == ("__debug__" : Str)) = false := by decide) (he : starEach (e :: es) X.env = (false, eval e X.env) :: starEach es X.env := by rfl) (hpl : (backTo pos (starEach es X.env)).any (·.1) = false := by rfl) :
    PE X (.Call (.Name x p) (e :: es) [] pos) (fun σ H Q => t σ H fun vs H1 => sp vs H1 Q E) := by
  refine ⟨fun pins s σ H Q I h => wpAny_Call_Name_kw (ld_glob I hg hm ?_ hdb)⟩
  refine PySem.W.callWith_K (h₀ := X.base) I.ok.mod.kin hk (thn (ha.run pos pins s σ H _ I h) fun us s1 h1 => ?_) he hpl
  obtain ⟨vs, H1, I1, r, q⟩ := h1
  exact ⟨I1.kIn, runG F hr hgd hb hx I1 r q⟩
end
/-- a def by its body -/
theorem fnG_of {CX : CXT} {P : Program} {w : World} {K : PySem.W.Frag} {mg : Str → Option Value} {base : Heap} {x qual : Str} {st : Stmt} {f : Addr} {fd : FuncData} {N ps : List Str} {k : Nat} {sp : Sp} (F : Fun K x qual st f fd) (S : FnScope N ps (defScope st))
    (len : ∀ vs H Q E, sp vs H Q E → vs.length = ps.length)
    (hbody : ∀ (cdv : Value) (A : Around) (outer : List Env) (s : Shared) (H : Hp) (vs : List V) (Q : VK) (E : XK), fd.code = cdv → Room k (A.deeper (envOfC qual (defScope st) s.heap.objs.size f cdv)) → A.guards = some [] → sp vs H Q E →
      ∃ t, PSs (cxOf CX P w K mg base N qual (defScope st) f cdv A outer s H E) (defBody st) t ∧ t { nx := fun _ H' => Q .non H', rt := Q } (L2.start N vs) H) : FnG P w K mg base CX (k + 1) f fd ps sp := by
  obtain ⟨oc, od, kV, doc, pm, an, cdv, ct, osl, rfl, lk, hcd⟩ := F.ex
  refine ⟨len, fun A outer s H args us vs Q E hr hgd e0 hb r hsp => ?_⟩
  have hl := len _ _ _ _ hsp
  have inK : K.In s.heap := e0.mod.kin.keeps fun b o e => (e0.bs b o e).1
  have lim : s.heap.NoLimit := e0.mod.nolimit.keeps fun b o e => (e0.bs b o e).1
  have slots : ∀ y ∈ ps.zip us, (defScope st).names.lookup y.1 = some .local ∨ ((defScope st).names.lookup y.1 = some .cell ∧ ((cellsFrom (s.heap.objs.size + 1) (defScope st).names []).lookup y.1).isSome = true) := by
    rintro ⟨n, v⟩ hy
    have q := S.par n (List.of_mem_zip hy).1
    exact q.elim .inl fun q => .inr ⟨q, PySem.W.cellsFrom_some _ _ _ (.inl q)⟩
  refine codeAny_call_function hr.depth (inK _ _ lk) rfl S.co S.gen rfl (PySem.W.codeRec_of inK hcd) (hb _ _ _ _ ?_)
  refine wpAny_newFunctionEnv_cells S.kind slots fun env he s1 entry => ?_
  subst he
  obtain ⟨t, ht, hq⟩ := hbody cdv A outer s H vs Q E rfl (hr.deeper _) hgd hsp
  have I : Inv (cxOf CX P w K mg base N qual (defScope st) f cdv A outer s H E) [] (L2.start N vs) H s1 := inv_start S hr.hd e0 hl r entry
  refine ⟨lim.keeps entry.toInCall.keep, codeAny_func (wpAny_mono (ht.run [] s1 _ H _ I hq) (fun fl s' hs => ?_) fun e s' hs => hs)⟩
  match fl, hs with
  | .ret u, ⟨v, _, H', J, rv, q⟩ => exact ⟨v, H', J.os, J.bare, J.base, J.hok, rv, q⟩
  | .next, ⟨_, H', J, q⟩ => exact ⟨.non, H', J.os, J.bare, J.base, J.hok, rfl, q⟩
  | .brk, ⟨_, _, _, q⟩ => exact q.elim
  | .cont, ⟨_, _, _, q⟩ => exact q.elim
/-- the code objects and tables of the defs that make lambdas -/
def tabCs (K : PySem.W.Frag) : List (Addr × Addr) := lamNames.filterMap fun x => PySem.W.tabIn K x
theorem tabs_cs {K : PySem.W.Frag} {p : Addr × Str} (h : p ∈ tabsOf K) : ∃ c, (c, p.1) ∈ tabCs K := by
  obtain ⟨x, hx, e⟩ := List.mem_filterMap.mp h
  cases q : PySem.W.tabIn K x with
  | none => rw [q] at e; cases e
  | some r =>
    rw [q] at e
    cases e
    exact ⟨r.1, List.mem_filterMap.mpr ⟨x, hx, q⟩⟩
/-- the law's call -/
theorem law_callT {P : Program} {w : World} {K : PySem.W.Frag} {mg mb : Str → Option Value} {k : Nat} {fa a : Addr} {fd : FuncData} {x : Str} {sp : Sp} {s₁ : Shared} {vs : List Value} {ns : List Int}
    (KX : K.In s₁.heap) (hns : s₁.heap.Ns mainGlobals mg) (hb : s₁.heap.Ns builtinsNs mb) (hbb : ∀ x : Str, x ≠ "__name__" → mb x = bootBuiltins x) (hlim : s₁.heap.NoLimit) (hg : s₁.gens = #[])
    (tE : ∀ p ∈ tabCs K, PySem.W.CodeHd s₁.heap p.1 p.2 ∧ s₁.heap.get? p.2 = some { cls := .none, data := .fields #[] }) (tN : ∀ p ∈ tabCs K, K.lookup p.2 = none)
    (tB : ∃ (bm : Addr) (ob : Obj), mg "__builtins__" = some (.ref bm) ∧ bm ≠ builtinsNs ∧ s₁.heap.get? bm = some ob ∧ ob.cls = .type "module" ∧ ob.dict = some builtinsNs ∧ ob.data = .plain)
    (ha : s₁.heap.get? a = some { cls := .type "list", data := .seq vs.toArray }) (hi : IntsAre vs ns) (hl : ns.length ≤ sizeLine) (hr : Room k callerA)
    (F : ∀ base : Heap, K.In base → base.Ns mainGlobals mg → (∀ p ∈ tabCs K, LamX.TabB base mg p.1 p.2) → FnG P w K mg base CX0 k fa fd [x] sp) (hbind : ∀ (s : Shared) (u : Value), BindsTo s fd ⟨[u], []⟩ [(x, u)])
    (hsp : ∀ H : Hp, (∀ p ∈ tabCs K, H p.2 = some (.tbl #[])) → SqL K H a (ns.map V.int) → sp [.ref a] H (fun v _ => v = .bl true) fun _ _ _ => False) :
    codeAny (model P w) callerA (.call (.ref fa) ⟨[.ref a], []⟩) (fun r s' => r = .ok (.ret (.bool true)) ∧ OldK s₁.heap s'.heap ∧ s'.os = s₁.os ∧ AllBare s'.gens) s₁ := by
  have rv := vals_ints hi
  have lenV := hi.length
  let obj : Obj := { cls := .type "list", data := .seq vs.toArray }
  let Ps : List Addr := (tabCs K).map (·.2)
  have tabP : ∀ b ∈ Ps, s₁.heap.get? b = some { cls := .none, data := .fields #[] } ∧ K.lookup b = none := fun b hb => by
    obtain ⟨p, hp, rfl⟩ := List.mem_map.mp hb
    exact ⟨(tE p hp).2, tN p hp⟩
  have inP : ∀ p ∈ tabCs K, p.2 ∈ Ps := fun p hp => List.mem_map.mpr ⟨p, hp, rfl⟩
  have aP : a ∉ Ps := fun h => by
    have := (tabP a h).1
    rw [ha] at this
    cases this
  -- the abstract heap: the script, unless the module itself has it, and the tables
  let H0 : Hp := fun b => if b ∈ Ps then some (.tbl #[]) else if b = a ∧ K.lookup a = none then some (.frz obj (.lst (ns.map V.int))) else none
  have h0t : ∀ b ∈ Ps, H0 b = some (.tbl #[]) := fun b hb => by show (if b ∈ Ps then _ else _) = _; rw [if_pos hb]
  have h0n : ∀ b, b ∉ Ps → H0 b = if b = a ∧ K.lookup a = none then some (.frz obj (.lst (ns.map V.int))) else none := fun b hb => by show (if b ∈ Ps then _ else _) = _; rw [if_neg hb]
  have at_a : ∀ b o, H0 b = some o → (b ∈ Ps ∧ o = .tbl #[]) ∨ (b ∉ Ps ∧ b = a ∧ K.lookup a = none ∧ o = .frz obj (.lst (ns.map V.int))) := fun b o e => by
    by_cases hb : b ∈ Ps
    · rw [h0t b hb] at e
      exact .inl ⟨hb, (Option.some.inj e).symm⟩
    · rw [h0n b hb] at e
      by_cases q : b = a ∧ K.lookup a = none
      · rw [if_pos q] at e
        exact .inr ⟨hb, q.1, q.2, (Option.some.inj e).symm⟩
      · rw [if_neg q] at e
        cases e
  have hS : SqL K H0 a (ns.map V.int) := by
    cases q : K.lookup a with
    | none => exact .inl (.inr ⟨obj, by rw [h0n a aP, if_pos ⟨rfl, q⟩]⟩)
    | some o =>
      have e := KX a o q
      rw [ha] at e
      cases e
      exact .inr ⟨_, vs.toArray, _, q, rfl, rfl, rfl, by rw [List.size_toArray, lenV]; exact hl, by simpa using rv⟩
  have hok : HOk P w H0 s₁.heap := fun b o e => by
    rcases at_a b o e with ⟨hb, rfl⟩ | ⟨_, rfl, _, rfl⟩
    · exact (tabP b hb).1
    · exact ⟨ha, by rw [List.length_map]; exact hl, vs, _, rv, ha⟩
  have free_of : ∀ {b : Addr} {o : Obj}, s₁.heap.get? b = some o → (∀ xs n, o.data ≠ .seq xs n) → o.data ≠ .fields #[] → H0 b = none := fun {b o} e d d2 => by
    cases q : H0 b with
    | none => rfl
    | some u =>
      rcases at_a b u q with ⟨hb, _⟩ | ⟨_, rfl, _, _⟩
      · rw [(tabP b hb).1] at e
        cases e
        exact absurd rfl d2
      · rw [ha] at e
        cases e
        exact absurd rfl (d _ _)
  have nsOf : ∀ {b : Addr} {m : Str → Option Value}, s₁.heap.Ns b m → (hidT s₁.heap H0).Ns b m := fun {b m} ⟨o, es, ep, e, d, r⟩ =>
    ⟨o, es, ep, hidT_get e (free_of e (fun xs n z => by rw [d] at z; cases z) (fun z => by rw [d] at z; cases z)), d, r⟩
  have inB : K.In (hidT s₁.heap H0) := fun b o e => hidT_get (KX b o e) (by
    cases q : H0 b with
    | none => rfl
    | some u =>
      rcases at_a b u q with ⟨hb, _⟩ | ⟨_, rfl, q2, _⟩
      · rw [(tabP b hb).2] at e; cases e
      · rw [q2] at e; cases e)
  have hM : Mod K mg (hidT s₁.heap H0) := ⟨inB, nsOf hns, ⟨mb, nsOf hb, hbb⟩, let ⟨mc, h1, h2⟩ := hlim; ⟨mc, nsOf h1, h2⟩⟩
  have hTB : ∀ p ∈ tabCs K, LamX.TabB (hidT s₁.heap H0) mg p.1 p.2 := fun p hp => by
    have hPp := (tE p hp).2
    constructor
    · obtain ⟨o, us, f1, f2, f3, f4, f5, f6, f7, g1, g2, g3, g4, gr⟩ := (tE p hp).1
      have : H0 p.1 = none := free_of g1 (fun xs n z => by rw [g3] at z; cases z) fun z => by
        rw [g3] at z
        cases z
        simp at g4
      exact ⟨o, us, f1, f2, f3, f4, f5, f6, f7, hidT_get g1 this, g2, g3, g4, gr⟩
    · obtain ⟨bm, ob, b1, b2, b3, b4, b5, b6⟩ := tB
      have n1 : bm ≠ mainGlobals := fun q => by
        obtain ⟨o, es, ep, e, d, _⟩ := hns
        rw [q, e] at b3
        cases b3
        rw [d] at b6; cases b6
      have n2 : bm ≠ p.2 := fun q => by
        rw [q, hPp] at b3
        cases b3; cases b6
      have : H0 bm = none := free_of b3 (fun xs n z => by rw [b6] at z; cases z) fun z => by rw [b6] at z; cases z
      exact ⟨bm, ob, b1, b2, n1, n2, hidT_get b3 this, b4, b5, b6⟩
    · intro q
      obtain ⟨o, es, ep, e, d, _⟩ := hns
      rw [q, hPp] at e
      cases e; cases d
  have e0 : Env0 P w K mg (hidT s₁.heap H0) callerA [] s₁ H0 := ⟨rfl, hM, fun b o e => of_hidT e, Nat.le_of_eq (hidT_size _ _), trivial, fun b hb => absurd (show b ∈ ([] : List Addr) from hb) (by simp), hok, .of_eq hg⟩
  refine codeAny_mono ((F _ inB (nsOf hns) hTB).run callerA [] s₁ H0 ⟨[.ref a], []⟩ [.ref a] [.ref a] _ _ hr rfl e0 (hbind s₁ (.ref a)) (.cons rfl .nil) (hsp H0 (fun p hp => h0t _ (inP p hp)) hS)) fun r s' h => ?_
  match r, h with
  | .error e, h => exact h.elim
  | .ok .next, h => exact h.elim
  | .ok .brk, h => exact h.elim
  | .ok .cont, h => exact h.elim
  | .ok (.ret u), h =>
    obtain ⟨v, H', os, bare, un, hok', r', q⟩ := h
    subst q
    obtain rfl : u = Value.bool true := r'
    have stay : ∀ b o, b ∉ Ps → s₁.heap.get? b = some o → s'.heap.get? b = some o := fun b o nb e => by
      cases q : H0 b with
      | none => exact un.keep b o e q (by intro z; exact absurd (show b ∈ ([] : List Addr) from z) (by simp)) (by simp)
      | some u =>
        rcases at_a b u q with ⟨hb, _⟩ | ⟨_, rfl, _, rfl⟩
        · exact absurd hb nb
        · have e2 := hok' _ _ (un.frzs _ obj _ q)
          rw [ha] at e
          cases e
          exact e2.1
    have grew : ∀ p ∈ tabCs K, ∃ more : Array Value, s'.heap.get? p.2 = some { cls := .none, data := .fields more } := fun p hp => by
      obtain ⟨more, z⟩ := un.tbls p.2 #[] (h0t _ (inP p hp))
      exact ⟨_, hok' _ _ z⟩
    refine ⟨rfl, ⟨fun b o e => ?_, fun b o e => ?_⟩, os, bare⟩
    all_goals by_cases hm : b ∈ Ps
    · obtain ⟨p, hp, rfl⟩ := List.mem_map.mp hm
      obtain ⟨more, z⟩ := grew p hp
      rw [(tE p hp).2] at e
      cases e
      refine .inr (.inl ⟨((tE p hp).1.tab (tE p hp).2).isCodeTable, rfl, #[], more, rfl, ?_⟩)
      rw [Array.empty_append]
      exact z
    · exact .inl (stay b o hm e)
    · obtain ⟨p, hp, rfl⟩ := List.mem_map.mp hm
      obtain ⟨more, z⟩ := grew p hp
      exact ⟨_, z⟩
    · exact ⟨o, stay b o hm e⟩
end DL
namespace DL
open PySem PySem.Spec PyProof.Rows L2
def tabsOkW (K : PySem.W.Frag) : Bool := (tabsOf K).all fun p => (tabsOf K).all fun q => !(p.1 == q.1) || decide (p.2 = q.2)
def tabsW (g : Addr → Option Obj) (K : PySem.W.Frag) : Bool := (tabCs K).all fun p => PySem.W.codeHdIn K p.1 p.2 && (match g p.2 with
  | some o => He.emptyTab o
  | none => false)
def wOf (fn : List He.DefD) (ex : PySem.W.Frag → Bool) (g : Addr → Option Obj) (K : PySem.W.Frag) : He.AlD := ((fn.all fun d => d.ok K) && (ex K && tabsW g K), fn.map fun d => He.fnW K d.at_)
/-- the objects looked at: the module's, the classes' namespaces and methods, the defs' code -/
def refE (o : Obj) : List Addr := match o.data with
  | .dict es _ => es.toList.flatMap fun e => He.refV e.val
  | _ => []
def refC (o : Obj) : List Addr := match o.data with
  | .func fd => He.refV fd.code
  | .cls cd => [cd.ns]
  | _ => []
def lev (f : Obj → List Addr) (g : Addr → Option Obj) (as : List Addr) : List Addr := as.flatMap fun a => match g a with
  | some o => f o
  | none => []
def asW3 (g : Addr → Option Obj) (l1 l2 l3 : List Addr) : List Addr := mainGlobals :: (l1 ++ (l2 ++ (l3 ++ lev refC g l3)))
def asW2 (g : Addr → Option Obj) (l1 l2 : List Addr) : List Addr := asW3 g l1 l2 (lev refE g l2)
def asW1 (g : Addr → Option Obj) (l1 : List Addr) : List Addr := asW2 g l1 (lev refC g l1)
def asW (g : Addr → Option Obj) : List Addr := asW1 g (lev refE g [mainGlobals])
def obsW (fn : List He.DefD) (ex : PySem.W.Frag → Bool) (g : Addr → Option Obj) : He.AlD := wOf fn ex g (He.frT g (asW g))
structure SaysW (fn : List He.DefD) (ex : PySem.W.Frag → Bool) (h : Heap) (K : PySem.W.Frag) : Prop where
  d : He.SaysD [] fn K
  ex : ex K = true
  tabs : ∀ p ∈ tabCs K, (PySem.W.codeHdIn K p.1 p.2 = true ∧ h.get? p.2 = some { cls := .none, data := .fields #[] }) ∧ K.lookup p.2 = none
theorem saysW_of {fn : List He.DefD} {ex : PySem.W.Frag → Bool} {h : Heap} (e : obsW fn ex h.get? = He.valD fn) : SaysW fn ex h (He.frT h.get? (asW h.get?)) := by
  have e1 : ((fn.all fun d => d.ok (He.frT h.get? (asW h.get?))) && (ex (He.frT h.get? (asW h.get?)) && tabsW h.get? (He.frT h.get? (asW h.get?)))) = true := congrArg (fun z : He.AlD => z.1) e
  have e2 : fn.map (fun d => He.fnW (He.frT h.get? (asW h.get?)) d.at_) = fn.map He.DefD.val := congrArg (fun z : He.AlD => z.2) e
  obtain ⟨h1, h2⟩ := He.ba e1
  obtain ⟨h3, h4⟩ := He.ba h2
  refine ⟨?_, h3, fun p hp => ?_⟩
  · show ((([] : List He.Fa).all fun f => f.ok _) && fn.all fun d => d.ok _, fn.map fun d => He.fnW _ d.at_) = (true, fn.map He.DefD.val)
    rw [e2, h1]
    rfl
  · obtain ⟨h5, h6⟩ := He.ba (List.all_eq_true.mp h4 p hp)
    cases q : h.get? p.2 with
    | none => rw [q] at h6; cases h6
    | some o =>
      rw [q] at h6
      exact ⟨⟨h5, by rw [He.emptyTab_eq h6]⟩, He.frT_none q h6⟩
def hookW (fn : List He.DefD) (ex : PySem.W.Frag → Bool) : PySem.W.Hook where
  α := He.AlD
  obs := fun s => obsW fn ex s.heap.get?
  val := fun _ => He.valD fn
  says := fun _ h => ∃ K : PySem.W.Frag, K.In h ∧ SaysW fn ex h K
  of := fun _ _ e => ⟨_, He.frT_in, saysW_of e⟩
  keeps := fun _ _ _ ⟨K, hK, c⟩ k => ⟨K, PySem.W.Frag.In.keeps hK k, ⟨c.d, c.ex, fun p hp => ⟨⟨(c.tabs p hp).1.1, k _ _ (c.tabs p hp).1.2⟩, (c.tabs p hp).2⟩⟩⟩
theorem obsW_eq {fn : List He.DefD} {ex : PySem.W.Frag → Bool} {g : Addr → Option Obj} {s : Shared} (h : ∀ a, g a = s.heap.get? a) : obsW fn ex g = (hookW fn ex).obs s := by
  have e : g = s.heap.get? := funext h
  rw [e] <;> rfl
section
variable {fn : List He.DefD} {K : PySem.W.Frag} {h : Heap}
/-- a def's object -/
theorem def_at {fa : List He.Fa} (c : He.SaysD fa fn K) (i : Nat) {d : He.DefD} (hi : fn[i]? = some d) (e1 : d.dfl = []) : ∃ (oc : Value) (od an : Option Addr) (sl : Array (Option Value)) (kV dc pm cd ct : Value),
    K.lookup (He.fAd K d.at_) = some ⟨oc, od, .func (PySem.W.fnOf d.name d.qual d.params d.body d.scope .none kV dc pm an cd ct), sl⟩ ∧ PySem.W.codeIn K cd d.qual = true ∧ PySem.W.keepIn K (.ref (He.fAd K d.at_)) = true := by
  obtain ⟨fd, F⟩ := c.def_ i hi
  obtain ⟨⟨oc, od, dV, kV, doc, pm, an, cdv, ct, osl, rfl, lk, hc, hd, _⟩, kp⟩ := F
  have hdv : d.dvs K = [] := by unfold He.DefD.dvs; rw [e1]; rfl
  rw [hdv] at hd
  rcases hd with ⟨_, rfl⟩ | ⟨z, _⟩
  · exact ⟨_, _, _, _, _, _, _, _, _, lk, hc, kp⟩
  · exact absurd rfl z
def intB (K : PySem.W.Frag) (x : Str) (i : Int) : Bool := match PySem.W.nsIn K mainGlobals x with
  | some (some (.int j _)) => decide (j = i)
  | _ => false
theorem intB_ok {x : Str} {i : Int} (q : intB K x i = true) : ∃ t, PySem.W.nsIn K mainGlobals x = some (some (.int i t)) := by
  unfold intB at q
  split at q
  · rename_i j t hh
    have e := of_decide_eq_true q
    subst e
    exact ⟨t, hh⟩
  · cases q
def tupEB (K : PySem.W.Frag) (a : Addr) (vs : List V) : Bool := match K.lookup a with
  | some ⟨.type c, none, .seq its _, _⟩ => decide (c = "tuple") && He.relAll vs its.toList
  | _ => false
theorem tupEB_ok {a : Addr} {vs : List V} (q : tupEB K a vs = true) : ∃ (its : List Value) (n : Nat) (sl : Array (Option Value)), K.lookup a = some ⟨.type "tuple", none, .seq its.toArray n, sl⟩ ∧ Vals vs its := by
  unfold tupEB at q
  split at q
  · rename_i c its n sl hh
    obtain ⟨q1, q2⟩ := He.ba q
    have e := of_decide_eq_true q1
    subst e
    exact ⟨its.toList, n, sl, by rw [hh], He.relAll_ok q2⟩
  · cases q
theorem vals_cons {x : V} {xs : List V} {us : List Value} (v : Vals (x :: xs) us) : ∃ u us', us = u :: us' ∧ RelV x u ∧ Vals xs us' := by
  cases v with
  | cons a b => exact ⟨_, _, rfl, a, b⟩
theorem vals_nil {us : List Value} (v : Vals [] us) : us = [] := by cases v; rfl
theorem exs_at {exs : List (PySem.W.Frag → Bool)} (c : (exs.all fun f => f K) = true) (i : Nat) {f : PySem.W.Frag → Bool} (h : exs[i]? = some f) : f K = true := List.all_eq_true.mp c f (List.mem_of_getElem? h)
theorem walk_TE {l : PySem.W.OpenLaw} {n k : Nat} {q : Program} {loose : List Str} {XP : (Str → Option Value) → Heap → Prop} {YP : World → Heap → Prop} {d : DefRec} {sp : PySem.W.Frag → Sp} {x : Str}
    (hn : l.most = some n) (hn2 : n ≤ sizeLine) (hdf : d.params.defaults = []) (hr : Room k callerA)
    (F : ∀ (w : World) (mg : Str → Option Value) (fa : Addr) (h : Heap), YP w h → h.Ns mainGlobals mg → mg d.name = some (.ref fa) →
      ∃ K : PySem.W.Frag, K.In h ∧ (∀ p ∈ tabCs K, (PySem.W.CodeHd h p.1 p.2 ∧ h.get? p.2 = some { cls := .none, data := .fields #[] }) ∧ K.lookup p.2 = none) ∧
        ∃ fd : FuncData, (∀ (s : Shared) (u : Value), BindsTo s fd ⟨[u], []⟩ [(x, u)]) ∧ ∀ base : Heap, K.In base → base.Ns mainGlobals mg → (∀ p ∈ tabCs K, LamX.TabB base mg p.1 p.2) → FnG l.prog w K mg base CX0 k fa fd [x] (sp K))
    (hsp : ∀ (K : PySem.W.Frag) (H : Hp) (a : Addr) (ns : List Int), ns.length ≤ n → (∀ p ∈ tabCs K, H p.2 = some (.tbl #[])) → SqL K H a (ns.map V.int) → sp K [.ref a] H (fun v _ => v = .bl true) fun _ _ _ => False) :
    PySem.W.WalkO q loose XP YP l.row.toRowW d [] (fun f vs => PySem.call f vs) := by
  refine Att.attach_call hn hdf fun w s₀ s₁ mg mb fa o pm cd doc a vs ns G Y ho hd hcd hmg hobj hints hlen hg => ?_
  obtain ⟨K, KX, both, fd, hb, hF⟩ := F w mg fa _ Y G.T.g hmg
  exact law_callT KX G.T.g G.T.b G.T.builtins G.T.nolimit hg (fun p hp => (both p hp).1) (fun p hp => (both p hp).2) G.T.bmain hobj hints (Nat.le_trans hlen hn2) hr hF hb fun H h1 hS => hsp K H a ns hlen h1 hS
theorem tabs_ok {ex : PySem.W.Frag → Bool} (X : K.In h) (c : SaysW fn ex h K) : ∀ p ∈ tabCs K, (PySem.W.CodeHd h p.1 p.2 ∧ h.get? p.2 = some { cls := .none, data := .fields #[] }) ∧ K.lookup p.2 = none := fun p hp =>
  ⟨⟨PySem.W.codeHd_of_K X (c.tabs p hp).1.1, (c.tabs p hp).1.2⟩, (c.tabs p hp).2⟩
end
end DL
namespace DL.M
open PySem PySem.Spec PyProof.Rows L2
def topS (i : Nat) : Stmt := PySem.Challenge.pw_workwishes_k22_whole_no_plan_is_better.main.body.getD i (.Pass ⟨0, 0, 0, 0⟩)
abbrev s_p_is_number : Stmt := topS 1
abbrev s_p_end_of : Stmt := topS 4
abbrev s_p_with_one_way : Stmt := topS 8
abbrev s_p_weights_with : Stmt := topS 12
abbrev s_p_worth_row : Stmt := topS 14
abbrev s_p_surely_moved : Stmt := topS 18
abbrev s_p_given_days : Stmt := topS 21
abbrev s_f_law_deck : Stmt := topS 39
abbrev s_f_law_next : Stmt := topS 40
abbrev s_f_law_put : Stmt := topS 41
abbrev s_f_law_ways : Stmt := topS 42
abbrev s_f_law_clash : Stmt := topS 43
abbrev s_f_law_kept : Stmt := topS 47
abbrev s_f_law_ends : Stmt := topS 49
abbrev s_f_law_row_of : Stmt := topS 50
abbrev s_f_law_moved : Stmt := topS 51
abbrev s_f_law_full : Stmt := topS 54
abbrev s_p_is_from : Stmt := topS 2
abbrev s_p_is_behind : Stmt := topS 5
abbrev s_p_is_kept : Stmt := topS 11
abbrev s_p_hoped_ends : Stmt := topS 17
abbrev s_p_is_within : Stmt := topS 20
abbrev s_f_law_goes : Stmt := topS 44
abbrev s_f_law_whole : Stmt := topS 46
abbrev s_f_law_weights : Stmt := topS 48
abbrev s_f_law_hope : Stmt := topS 53
abbrev s_f_law_some : Stmt := topS 56
abbrev s_f_law_few : Stmt := topS 57
abbrev s_f_law_days : Stmt := topS 59
abbrev s_f_law_pairs : Stmt := topS 60
abbrev s_f_law_bent_node : Stmt := topS 63
abbrev s_p_clash : Stmt := topS 6
abbrev s_p_is_full : Stmt := topS 22
abbrev s_p_is_a_node : Stmt := topS 29
abbrev s_p_parted_rightly : Stmt := topS 30
abbrev s_p_has_one_way : Stmt := topS 31
abbrev s_p_led_down : Stmt := topS 36
abbrev s_f_law_plans : Stmt := topS 45
abbrev s_f_law_worth : Stmt := topS 52
abbrev s_f_law_little : Stmt := topS 58
abbrev s_f_law_leaves : Stmt := topS 61
abbrev s_f_law_bent_cases : Stmt := topS 64
abbrev s_p_clashes_rightly : Stmt := topS 32
abbrev s_p_full_rightly : Stmt := topS 33
abbrev s_f_law_best : Stmt := topS 55
abbrev s_p_hoped_weights : Stmt := topS 16
abbrev s_p_hope_of : Stmt := topS 19
abbrev s_p_hopeless_rightly : Stmt := topS 34
abbrev s_p_holds_at : Stmt := topS 35
abbrev s_p_cases_hold : Stmt := topS 37
abbrev s_f_law_laid : Stmt := topS 62
abbrev s_f_law_made_up : Stmt := topS 65
abbrev s_p_law : Stmt := topS 66
end DL.M
namespace DL
open PySem PySem.Spec PyProof.Rows L2
namespace HeadF
open PySem PySem.Spec PyProof.Rows L2
def d_p_is_number : He.DefD := ⟨("is_number", none), "is_number", "is_number", defArgs (DL.M.s_p_is_number), defBody (DL.M.s_p_is_number), defScope (DL.M.s_p_is_number), [], []⟩
def d_p_end_of : He.DefD := ⟨("end_of", none), "end_of", "end_of", defArgs (DL.M.s_p_end_of), defBody (DL.M.s_p_end_of), defScope (DL.M.s_p_end_of), [], []⟩
def d_p_with_one_way : He.DefD := ⟨("with_one_way", none), "with_one_way", "with_one_way", defArgs (DL.M.s_p_with_one_way), defBody (DL.M.s_p_with_one_way), defScope (DL.M.s_p_with_one_way), [], []⟩
def d_p_weights_with : He.DefD := ⟨("weights_with", none), "weights_with", "weights_with", defArgs (DL.M.s_p_weights_with), defBody (DL.M.s_p_weights_with), defScope (DL.M.s_p_weights_with), [], []⟩
def d_p_worth_row : He.DefD := ⟨("worth_row", none), "worth_row", "worth_row", defArgs (DL.M.s_p_worth_row), defBody (DL.M.s_p_worth_row), defScope (DL.M.s_p_worth_row), [], []⟩
def d_p_surely_moved : He.DefD := ⟨("surely_moved", none), "surely_moved", "surely_moved", defArgs (DL.M.s_p_surely_moved), defBody (DL.M.s_p_surely_moved), defScope (DL.M.s_p_surely_moved), [], []⟩
def d_p_given_days : He.DefD := ⟨("given_days", none), "given_days", "given_days", defArgs (DL.M.s_p_given_days), defBody (DL.M.s_p_given_days), defScope (DL.M.s_p_given_days), [], []⟩
def d_f_law_deck : He.DefD := ⟨("_law_deck", none), "_law_deck", "_law_deck", defArgs (DL.M.s_f_law_deck), defBody (DL.M.s_f_law_deck), defScope (DL.M.s_f_law_deck), [], []⟩
def d_f_law_next : He.DefD := ⟨("_law_next", none), "_law_next", "_law_next", defArgs (DL.M.s_f_law_next), defBody (DL.M.s_f_law_next), defScope (DL.M.s_f_law_next), [], []⟩
def d_f_law_put : He.DefD := ⟨("_law_put", none), "_law_put", "_law_put", defArgs (DL.M.s_f_law_put), defBody (DL.M.s_f_law_put), defScope (DL.M.s_f_law_put), [], []⟩
def d_f_law_ways : He.DefD := ⟨("_law_ways", none), "_law_ways", "_law_ways", defArgs (DL.M.s_f_law_ways), defBody (DL.M.s_f_law_ways), defScope (DL.M.s_f_law_ways), [], []⟩
def d_f_law_clash : He.DefD := ⟨("_law_clash", none), "_law_clash", "_law_clash", defArgs (DL.M.s_f_law_clash), defBody (DL.M.s_f_law_clash), defScope (DL.M.s_f_law_clash), [], []⟩
def d_f_law_kept : He.DefD := ⟨("_law_kept", none), "_law_kept", "_law_kept", defArgs (DL.M.s_f_law_kept), defBody (DL.M.s_f_law_kept), defScope (DL.M.s_f_law_kept), [], []⟩
def d_f_law_ends : He.DefD := ⟨("_law_ends", none), "_law_ends", "_law_ends", defArgs (DL.M.s_f_law_ends), defBody (DL.M.s_f_law_ends), defScope (DL.M.s_f_law_ends), [], []⟩
def d_f_law_row_of : He.DefD := ⟨("_law_row_of", none), "_law_row_of", "_law_row_of", defArgs (DL.M.s_f_law_row_of), defBody (DL.M.s_f_law_row_of), defScope (DL.M.s_f_law_row_of), [], []⟩
def d_f_law_moved : He.DefD := ⟨("_law_moved", none), "_law_moved", "_law_moved", defArgs (DL.M.s_f_law_moved), defBody (DL.M.s_f_law_moved), defScope (DL.M.s_f_law_moved), [], []⟩
def d_f_law_full : He.DefD := ⟨("_law_full", none), "_law_full", "_law_full", defArgs (DL.M.s_f_law_full), defBody (DL.M.s_f_law_full), defScope (DL.M.s_f_law_full), [], []⟩
def d_p_is_from : He.DefD := ⟨("is_from", none), "is_from", "is_from", defArgs (DL.M.s_p_is_from), defBody (DL.M.s_p_is_from), defScope (DL.M.s_p_is_from), [], []⟩
def d_p_is_behind : He.DefD := ⟨("is_behind", none), "is_behind", "is_behind", defArgs (DL.M.s_p_is_behind), defBody (DL.M.s_p_is_behind), defScope (DL.M.s_p_is_behind), [], []⟩
def d_p_is_kept : He.DefD := ⟨("is_kept", none), "is_kept", "is_kept", defArgs (DL.M.s_p_is_kept), defBody (DL.M.s_p_is_kept), defScope (DL.M.s_p_is_kept), [], []⟩
def d_p_hoped_ends : He.DefD := ⟨("hoped_ends", none), "hoped_ends", "hoped_ends", defArgs (DL.M.s_p_hoped_ends), defBody (DL.M.s_p_hoped_ends), defScope (DL.M.s_p_hoped_ends), [], []⟩
def d_p_is_within : He.DefD := ⟨("is_within", none), "is_within", "is_within", defArgs (DL.M.s_p_is_within), defBody (DL.M.s_p_is_within), defScope (DL.M.s_p_is_within), [], []⟩
def d_f_law_goes : He.DefD := ⟨("_law_goes", none), "_law_goes", "_law_goes", defArgs (DL.M.s_f_law_goes), defBody (DL.M.s_f_law_goes), defScope (DL.M.s_f_law_goes), [], []⟩
def d_f_law_whole : He.DefD := ⟨("_law_whole", none), "_law_whole", "_law_whole", defArgs (DL.M.s_f_law_whole), defBody (DL.M.s_f_law_whole), defScope (DL.M.s_f_law_whole), [], []⟩
def d_f_law_weights : He.DefD := ⟨("_law_weights", none), "_law_weights", "_law_weights", defArgs (DL.M.s_f_law_weights), defBody (DL.M.s_f_law_weights), defScope (DL.M.s_f_law_weights), [], []⟩
def d_f_law_hope : He.DefD := ⟨("_law_hope", none), "_law_hope", "_law_hope", defArgs (DL.M.s_f_law_hope), defBody (DL.M.s_f_law_hope), defScope (DL.M.s_f_law_hope), [], []⟩
def d_f_law_some : He.DefD := ⟨("_law_some", none), "_law_some", "_law_some", defArgs (DL.M.s_f_law_some), defBody (DL.M.s_f_law_some), defScope (DL.M.s_f_law_some), [], []⟩
def d_f_law_few : He.DefD := ⟨("_law_few", none), "_law_few", "_law_few", defArgs (DL.M.s_f_law_few), defBody (DL.M.s_f_law_few), defScope (DL.M.s_f_law_few), [], []⟩
def d_f_law_days : He.DefD := ⟨("_law_days", none), "_law_days", "_law_days", defArgs (DL.M.s_f_law_days), defBody (DL.M.s_f_law_days), defScope (DL.M.s_f_law_days), [], []⟩
def d_f_law_pairs : He.DefD := ⟨("_law_pairs", none), "_law_pairs", "_law_pairs", defArgs (DL.M.s_f_law_pairs), defBody (DL.M.s_f_law_pairs), defScope (DL.M.s_f_law_pairs), [], []⟩
def d_f_law_bent_node : He.DefD := ⟨("_law_bent_node", none), "_law_bent_node", "_law_bent_node", defArgs (DL.M.s_f_law_bent_node), defBody (DL.M.s_f_law_bent_node), defScope (DL.M.s_f_law_bent_node), [], []⟩
def d_p_clash : He.DefD := ⟨("clash", none), "clash", "clash", defArgs (DL.M.s_p_clash), defBody (DL.M.s_p_clash), defScope (DL.M.s_p_clash), [], []⟩
def d_p_is_full : He.DefD := ⟨("is_full", none), "is_full", "is_full", defArgs (DL.M.s_p_is_full), defBody (DL.M.s_p_is_full), defScope (DL.M.s_p_is_full), [], []⟩
def d_p_is_a_node : He.DefD := ⟨("is_a_node", none), "is_a_node", "is_a_node", defArgs (DL.M.s_p_is_a_node), defBody (DL.M.s_p_is_a_node), defScope (DL.M.s_p_is_a_node), [], []⟩
def d_p_parted_rightly : He.DefD := ⟨("parted_rightly", none), "parted_rightly", "parted_rightly", defArgs (DL.M.s_p_parted_rightly), defBody (DL.M.s_p_parted_rightly), defScope (DL.M.s_p_parted_rightly), [], []⟩
def d_p_has_one_way : He.DefD := ⟨("has_one_way", none), "has_one_way", "has_one_way", defArgs (DL.M.s_p_has_one_way), defBody (DL.M.s_p_has_one_way), defScope (DL.M.s_p_has_one_way), [], []⟩
def d_p_led_down : He.DefD := ⟨("led_down", none), "led_down", "led_down", defArgs (DL.M.s_p_led_down), defBody (DL.M.s_p_led_down), defScope (DL.M.s_p_led_down), [], []⟩
def d_f_law_plans : He.DefD := ⟨("_law_plans", none), "_law_plans", "_law_plans", defArgs (DL.M.s_f_law_plans), defBody (DL.M.s_f_law_plans), defScope (DL.M.s_f_law_plans), [], []⟩
def d_f_law_worth : He.DefD := ⟨("_law_worth", none), "_law_worth", "_law_worth", defArgs (DL.M.s_f_law_worth), defBody (DL.M.s_f_law_worth), defScope (DL.M.s_f_law_worth), [], []⟩
def d_f_law_little : He.DefD := ⟨("_law_little", none), "_law_little", "_law_little", defArgs (DL.M.s_f_law_little), defBody (DL.M.s_f_law_little), defScope (DL.M.s_f_law_little), [], []⟩
def d_f_law_leaves : He.DefD := ⟨("_law_leaves", none), "_law_leaves", "_law_leaves", defArgs (DL.M.s_f_law_leaves), defBody (DL.M.s_f_law_leaves), defScope (DL.M.s_f_law_leaves), [], []⟩
def d_f_law_bent_cases : He.DefD := ⟨("_law_bent_cases", none), "_law_bent_cases", "_law_bent_cases", defArgs (DL.M.s_f_law_bent_cases), defBody (DL.M.s_f_law_bent_cases), defScope (DL.M.s_f_law_bent_cases), [], []⟩
def d_p_clashes_rightly : He.DefD := ⟨("clashes_rightly", none), "clashes_rightly", "clashes_rightly", defArgs (DL.M.s_p_clashes_rightly), defBody (DL.M.s_p_clashes_rightly), defScope (DL.M.s_p_clashes_rightly), [], []⟩
def d_p_full_rightly : He.DefD := ⟨("full_rightly", none), "full_rightly", "full_rightly", defArgs (DL.M.s_p_full_rightly), defBody (DL.M.s_p_full_rightly), defScope (DL.M.s_p_full_rightly), [], []⟩
def d_f_law_best : He.DefD := ⟨("_law_best", none), "_law_best", "_law_best", defArgs (DL.M.s_f_law_best), defBody (DL.M.s_f_law_best), defScope (DL.M.s_f_law_best), [], []⟩
def d_p_hoped_weights : He.DefD := ⟨("hoped_weights", none), "hoped_weights", "hoped_weights", defArgs (DL.M.s_p_hoped_weights), defBody (DL.M.s_p_hoped_weights), defScope (DL.M.s_p_hoped_weights), [], []⟩
def d_p_hope_of : He.DefD := ⟨("hope_of", none), "hope_of", "hope_of", defArgs (DL.M.s_p_hope_of), defBody (DL.M.s_p_hope_of), defScope (DL.M.s_p_hope_of), [], []⟩
def d_p_hopeless_rightly : He.DefD := ⟨("hopeless_rightly", none), "hopeless_rightly", "hopeless_rightly", defArgs (DL.M.s_p_hopeless_rightly), defBody (DL.M.s_p_hopeless_rightly), defScope (DL.M.s_p_hopeless_rightly), [], []⟩
def d_p_holds_at : He.DefD := ⟨("holds_at", none), "holds_at", "holds_at", defArgs (DL.M.s_p_holds_at), defBody (DL.M.s_p_holds_at), defScope (DL.M.s_p_holds_at), [], []⟩
def d_p_cases_hold : He.DefD := ⟨("cases_hold", none), "cases_hold", "cases_hold", defArgs (DL.M.s_p_cases_hold), defBody (DL.M.s_p_cases_hold), defScope (DL.M.s_p_cases_hold), [], []⟩
def d_f_law_laid : He.DefD := ⟨("_law_laid", none), "_law_laid", "_law_laid", defArgs (DL.M.s_f_law_laid), defBody (DL.M.s_f_law_laid), defScope (DL.M.s_f_law_laid), [], []⟩
def d_f_law_made_up : He.DefD := ⟨("_law_made_up", none), "_law_made_up", "_law_made_up", defArgs (DL.M.s_f_law_made_up), defBody (DL.M.s_f_law_made_up), defScope (DL.M.s_f_law_made_up), [], []⟩
def d_p_law : He.DefD := ⟨("law", none), "law", "law", defArgs (DL.M.s_p_law), defBody (DL.M.s_p_law), defScope (DL.M.s_p_law), [], []⟩
def dfs_0 : List (He.DefD) := [d_p_is_number, d_p_end_of, d_p_with_one_way, d_p_weights_with, d_p_worth_row, d_p_surely_moved, d_p_given_days, d_f_law_deck, d_f_law_next, d_f_law_put, d_f_law_ways, d_f_law_clash, d_f_law_kept, d_f_law_ends, d_f_law_row_of, d_f_law_moved, d_f_law_full, d_p_is_from, d_p_is_behind, d_p_is_kept, d_p_hoped_ends, d_p_is_within, d_f_law_goes, d_f_law_whole, d_f_law_weights, d_f_law_hope, d_f_law_some, d_f_law_few, d_f_law_days, d_f_law_pairs]
def dfs_1 : List (He.DefD) := [d_f_law_bent_node, d_p_clash, d_p_is_full, d_p_is_a_node, d_p_parted_rightly, d_p_has_one_way, d_p_led_down, d_f_law_plans, d_f_law_worth, d_f_law_little, d_f_law_leaves, d_f_law_bent_cases, d_p_clashes_rightly, d_p_full_rightly, d_f_law_best, d_p_hoped_weights, d_p_hope_of, d_p_hopeless_rightly, d_p_holds_at, d_p_cases_hold, d_f_law_laid, d_f_law_made_up, d_p_law]
def dfs : List (He.DefD) := dfs_0 ++ dfs_1
def loose_0 : List (PySem.Str) := ["is_number", "is_from", "end_of", "is_behind", "clash", "with_one_way", "RANKS", "is_kept", "weights_with", "worth_row", "hoped_weights", "hoped_ends", "surely_moved", "hope_of", "is_within", "given_days", "is_full", "PARTED", "CLASH", "FULL", "SIZES", "MOST_NODES", "is_a_node", "parted_rightly", "has_one_way", "clashes_rightly", "full_rightly", "hopeless_rightly", "holds_at", "led_down"]
def loose_1 : List (PySem.Str) := ["cases_hold", "_law_deck", "_law_next", "_law_put", "_law_ways", "_law_clash", "_law_goes", "_law_plans", "_law_whole", "_law_kept", "_law_weights", "_law_ends", "_law_row_of", "_law_moved", "_law_worth", "_law_hope", "_law_full", "_law_best", "_law_some", "_law_few", "_law_little", "_law_days", "_law_pairs", "_law_leaves", "_law_laid", "_law_bent_node", "_law_bent_cases", "_law_made_up"]
def loose : List (PySem.Str) := loose_0 ++ loose_1
def exs_0 : List (PySem.W.Frag → Bool) := [fun K => decide (PySem.W.nsIn K mainGlobals "is_number" = some (some (.ref (He.fAd K d_p_is_number.at_)))), fun K => decide (PySem.W.nsIn K mainGlobals "end_of" = some (some (.ref (He.fAd K d_p_end_of.at_)))), fun K => decide (PySem.W.nsIn K mainGlobals "with_one_way" = some (some (.ref (He.fAd K d_p_with_one_way.at_)))), fun K => decide (PySem.W.nsIn K mainGlobals "weights_with" = some (some (.ref (He.fAd K d_p_weights_with.at_)))), fun K => decide (PySem.W.nsIn K mainGlobals "worth_row" = some (some (.ref (He.fAd K d_p_worth_row.at_)))), fun K => decide (PySem.W.nsIn K mainGlobals "surely_moved" = some (some (.ref (He.fAd K d_p_surely_moved.at_)))), fun K => decide (PySem.W.nsIn K mainGlobals "given_days" = some (some (.ref (He.fAd K d_p_given_days.at_)))), fun K => decide (PySem.W.nsIn K mainGlobals "_law_deck" = some (some (.ref (He.fAd K d_f_law_deck.at_)))), fun K => decide (PySem.W.nsIn K mainGlobals "_law_next" = some (some (.ref (He.fAd K d_f_law_next.at_)))), fun K => decide (PySem.W.nsIn K mainGlobals "_law_put" = some (some (.ref (He.fAd K d_f_law_put.at_)))), fun K => decide (PySem.W.nsIn K mainGlobals "_law_ways" = some (some (.ref (He.fAd K d_f_law_ways.at_)))), fun K => decide (PySem.W.nsIn K mainGlobals "_law_clash" = some (some (.ref (He.fAd K d_f_law_clash.at_)))), fun K => decide (PySem.W.nsIn K mainGlobals "_law_kept" = some (some (.ref (He.fAd K d_f_law_kept.at_)))), fun K => decide (PySem.W.nsIn K mainGlobals "_law_ends" = some (some (.ref (He.fAd K d_f_law_ends.at_)))), fun K => decide (PySem.W.nsIn K mainGlobals "_law_row_of" = some (some (.ref (He.fAd K d_f_law_row_of.at_)))), fun K => decide (PySem.W.nsIn K mainGlobals "_law_moved" = some (some (.ref (He.fAd K d_f_law_moved.at_)))), fun K => decide (PySem.W.nsIn K mainGlobals "_law_full" = some (some (.ref (He.fAd K d_f_law_full.at_)))), fun K => decide (PySem.W.nsIn K mainGlobals "is_from" = some (some (.ref (He.fAd K d_p_is_from.at_)))), fun K => decide (PySem.W.nsIn K mainGlobals "is_behind" = some (some (.ref (He.fAd K d_p_is_behind.at_)))), fun K => decide (PySem.W.nsIn K mainGlobals "is_kept" = some (some (.ref (He.fAd K d_p_is_kept.at_)))), fun K => decide (PySem.W.nsIn K mainGlobals "hoped_ends" = some (some (.ref (He.fAd K d_p_hoped_ends.at_)))), fun K => decide (PySem.W.nsIn K mainGlobals "is_within" = some (some (.ref (He.fAd K d_p_is_within.at_)))), fun K => decide (PySem.W.nsIn K mainGlobals "_law_goes" = some (some (.ref (He.fAd K d_f_law_goes.at_)))), fun K => decide (PySem.W.nsIn K mainGlobals "_law_whole" = some (some (.ref (He.fAd K d_f_law_whole.at_)))), fun K => decide (PySem.W.nsIn K mainGlobals "_law_weights" = some (some (.ref (He.fAd K d_f_law_weights.at_)))), fun K => decide (PySem.W.nsIn K mainGlobals "_law_hope" = some (some (.ref (He.fAd K d_f_law_hope.at_)))), fun K => decide (PySem.W.nsIn K mainGlobals "_law_some" = some (some (.ref (He.fAd K d_f_law_some.at_)))), fun K => decide (PySem.W.nsIn K mainGlobals "_law_few" = some (some (.ref (He.fAd K d_f_law_few.at_)))), fun K => decide (PySem.W.nsIn K mainGlobals "_law_days" = some (some (.ref (He.fAd K d_f_law_days.at_)))), fun K => decide (PySem.W.nsIn K mainGlobals "_law_pairs" = some (some (.ref (He.fAd K d_f_law_pairs.at_))))]
def exs_1 : List (PySem.W.Frag → Bool) := [fun K => decide (PySem.W.nsIn K mainGlobals "_law_bent_node" = some (some (.ref (He.fAd K d_f_law_bent_node.at_)))), fun K => decide (PySem.W.nsIn K mainGlobals "clash" = some (some (.ref (He.fAd K d_p_clash.at_)))), fun K => decide (PySem.W.nsIn K mainGlobals "is_full" = some (some (.ref (He.fAd K d_p_is_full.at_)))), fun K => decide (PySem.W.nsIn K mainGlobals "is_a_node" = some (some (.ref (He.fAd K d_p_is_a_node.at_)))), fun K => decide (PySem.W.nsIn K mainGlobals "parted_rightly" = some (some (.ref (He.fAd K d_p_parted_rightly.at_)))), fun K => decide (PySem.W.nsIn K mainGlobals "has_one_way" = some (some (.ref (He.fAd K d_p_has_one_way.at_)))), fun K => decide (PySem.W.nsIn K mainGlobals "led_down" = some (some (.ref (He.fAd K d_p_led_down.at_)))), fun K => decide (PySem.W.nsIn K mainGlobals "_law_plans" = some (some (.ref (He.fAd K d_f_law_plans.at_)))), fun K => decide (PySem.W.nsIn K mainGlobals "_law_worth" = some (some (.ref (He.fAd K d_f_law_worth.at_)))), fun K => decide (PySem.W.nsIn K mainGlobals "_law_little" = some (some (.ref (He.fAd K d_f_law_little.at_)))), fun K => decide (PySem.W.nsIn K mainGlobals "_law_leaves" = some (some (.ref (He.fAd K d_f_law_leaves.at_)))), fun K => decide (PySem.W.nsIn K mainGlobals "_law_bent_cases" = some (some (.ref (He.fAd K d_f_law_bent_cases.at_)))), fun K => decide (PySem.W.nsIn K mainGlobals "clashes_rightly" = some (some (.ref (He.fAd K d_p_clashes_rightly.at_)))), fun K => decide (PySem.W.nsIn K mainGlobals "full_rightly" = some (some (.ref (He.fAd K d_p_full_rightly.at_)))), fun K => decide (PySem.W.nsIn K mainGlobals "_law_best" = some (some (.ref (He.fAd K d_f_law_best.at_)))), fun K => decide (PySem.W.nsIn K mainGlobals "hoped_weights" = some (some (.ref (He.fAd K d_p_hoped_weights.at_)))), fun K => decide (PySem.W.nsIn K mainGlobals "hope_of" = some (some (.ref (He.fAd K d_p_hope_of.at_)))), fun K => decide (PySem.W.nsIn K mainGlobals "hopeless_rightly" = some (some (.ref (He.fAd K d_p_hopeless_rightly.at_)))), fun K => decide (PySem.W.nsIn K mainGlobals "holds_at" = some (some (.ref (He.fAd K d_p_holds_at.at_)))), fun K => decide (PySem.W.nsIn K mainGlobals "cases_hold" = some (some (.ref (He.fAd K d_p_cases_hold.at_)))), fun K => decide (PySem.W.nsIn K mainGlobals "_law_laid" = some (some (.ref (He.fAd K d_f_law_laid.at_)))), fun K => decide (PySem.W.nsIn K mainGlobals "_law_made_up" = some (some (.ref (He.fAd K d_f_law_made_up.at_)))), fun K => decide (PySem.W.nsIn K mainGlobals "law" = some (some (.ref (He.fAd K d_p_law.at_)))), fun K => decide (tabsOkW K = true), fun K => decide ((PySem.W.tabIn K "hoped_weights").isSome = true), fun K => decide (PySem.W.nsIn K mainGlobals "abs" = some none), fun K => decide (PySem.W.nsIn K mainGlobals "all" = some none), fun K => decide (PySem.W.nsIn K mainGlobals "any" = some none), fun K => decide (PySem.W.nsIn K mainGlobals "bool" = some none), fun K => decide (PySem.W.nsIn K mainGlobals "enumerate" = some none)]
def exs_2 : List (PySem.W.Frag → Bool) := [fun K => decide (PySem.W.nsIn K mainGlobals "int" = some none), fun K => decide (PySem.W.nsIn K mainGlobals "isinstance" = some none), fun K => decide (PySem.W.nsIn K mainGlobals "len" = some none), fun K => decide (PySem.W.nsIn K mainGlobals "list" = some none), fun K => decide (PySem.W.nsIn K mainGlobals "max" = some none), fun K => decide (PySem.W.nsIn K mainGlobals "min" = some none), fun K => decide (PySem.W.nsIn K mainGlobals "range" = some none), fun K => decide (PySem.W.nsIn K mainGlobals "sum" = some none), fun K => decide (PySem.W.nsIn K mainGlobals "tuple" = some none), fun K => decide (PySem.W.nsIn K mainGlobals "zip" = some none), fun K => intB K "CLASH" 1, fun K => intB K "FULL" 2, fun K => intB K "MOST_NODES" 30000, fun K => intB K "PARTED" 0, fun K => intB K "RANKS" 4, fun K => decide (PySem.W.nsIn K mainGlobals "SIZES" = some (some (.ref (He.ga K "SIZES")))), fun K => tupEB K (He.ga K "SIZES") [V.int 3, V.int 3, V.int 3, V.int 1]]
def exs : List (PySem.W.Frag → Bool) := exs_0 ++ exs_1 ++ exs_2
abbrev R : PySem.W.OpenRow := PySem.W.OpenLaw.row PySem.Challenge.rw_workwishes_k22_whole_no_plan_is_better
abbrev hk : PySem.W.Hook := hookW dfs (fun K => exs.all fun f => f K)
def ob (s : PySem.W.SharedT) : He.AlD := obsW dfs (fun K => exs.all fun f => f K) (HandSHeadRun.getT s)
theorem ob_eq (s : PySem.W.SharedT) : ob s = hk.obs s.abs := obsW_eq (HandSHeadRun.getT_eq s)
theorem run (w : World) : HandSHeadRun.RunEq R (PySem.W.view R.prog [66]) hk ob 40000 loose w := by
  intro os
  kernel_rfl
end HeadF
end DL
namespace DL
open PySem PySem.Spec PyProof.Rows L2
variable [Bs]
structure Spec where
  n : Nat
  G : Type
  args : G → List D
  pre : G → Sto → Prop
  post : G → Sto → D → Sto → Prop
def spOf (K : PySem.W.Frag) (S : Spec) : Sp := fun vs H Q _ => ∃ g io F st, (S.args g).length = S.n ∧ RelH K H io F st ∧ DenL K io F vs (S.args g) ∧ S.pre g st ∧ ∀ d st', S.post g st d st' → kE K H io F Q d st'
def wCall (S : Spec) (wa : DA) : DE := fun env st Q => wa env st fun ds s1 => ∃ g, ds = S.args g ∧ (S.args g).length = S.n ∧ S.pre g s1 ∧ ∀ d s2, S.post g s1 d s2 → Q d s2
section
variable {X : Cx} {pos p : Pos} {e : Expr} {es : List Expr} {wa : DA} {k : Nat} {f : Addr} {fd : FuncData} {ps : List Str} {x : Str}
theorem moCall {S : Spec} {wa : DA} (m : MoA wa) : MoE (wCall S wa) := fun _ _ _ _ i q => m _ _ _ _ (fun _ _ ⟨g, e, z, p, q⟩ => ⟨g, e, z, p, fun d s h => i _ _ (q d s h)⟩) q
theorem we_call {S : Spec} (F : FnG X.prog X.w X.K X.mg X.base CX0 k f fd ps (spOf X.K S)) (hr : Room k X.A) (hgd : X.A.guards = some []) (hg : Gl X x) (hm : X.mg x = some (.ref f)) (hk : PySem.W.keepIn X.K (.ref f) = true) (hb : Binds X.K fd ps [])
    (ha : WA X (e :: es) wa) (hdb : (x == ("__debug__" : Str)) = false := by decide) (he : starEach (e :: es) X.env = (false, eval e X.env) :: starEach es X.env := by rfl) (hpl : (backTo pos (starEach es X.env)).any (·.1) = false := by rfl) :
    WE X (.Call (.Name x p) (e :: es) [] pos) (wCall S wa) := by
  refine ⟨moCall ha.mo, PE_imp (pe_callG F hr hgd hg hm hk hb pass0 ha.pe hdb he hpl) fun σ H Q ⟨env, io, F, st, R, q⟩ => ?_⟩
  refine tA_use ha.mo R q fun ds s1 vs io1 F1 H1 ⟨g, eg, z, p1, q1⟩ t1 R1 n1 => ?_
  subst eg
  exact ⟨g, io1, F1, s1, z, R1.toRelH, n1, p1, fun d s2 h => kE_later t1 (q1 d s2 h)⟩
abbrev RLD := List D → Sto → DK → Prop
structure RzL (K : PySem.W.Frag) (r : List V → Hp → VK → Prop) (f : RLD) : Prop where
  mo : ∀ ds s Q Q', (∀ d s, Q d s → Q' d s) → f ds s Q → f ds s Q'
  on : ∀ {H io F st vs ds Q}, RelH K H io F st → DenL K io F vs ds → f ds st (kE K H io F Q) → r vs H Q
def wCB (f : RLD) (wa : DA) : DE := fun env st Q => wa env st fun ds s1 => f ds s1 Q
theorem we_callX {r : List V → Hp → VK → Prop} {f : RLD} (z : RzL X.K r f) {e0 : Expr} (pe : ∀ {t : TA}, PA X es t → PE X e0 (tCB r t)) (ha : WA X es wa) : WE X e0 (wCB f wa) := by
  refine ⟨fun _ _ _ _ i q => ha.mo _ _ _ _ (fun _ _ q => z.mo _ _ _ _ i q) q, PE_imp (pe ha.pe) fun σ H Q ⟨env, io, F, st, R, q⟩ => ?_⟩
  refine tA_use ha.mo R q fun ds s1 vs io1 F1 H1 q1 t1 R1 n1 => ?_
  exact z.on R1.toRelH n1 (z.mo _ _ _ _ (fun _ _ => kE_later t1) q1)
end
section
variable {X : Cx} {pos pos' : Pos} {e : Expr} {we : DE} {ss rest : Stmt} {sts : List Stmt} {ws wr : DS}
theorem wb_nil : WB X [] (fun D env st => D.nx env st) := ⟨fun _ _ _ _ l q => l.nx _ _ q, PSs_imp pss_nil fun D σ H ⟨env, io, F, st, R, q⟩ => q σ io F H Stp.refl R⟩
def wSeq (a b : DS) : DS := fun D env st => a { D with nx := fun e s => b D e s } env st
theorem kD_seq {K : PySem.W.Frag} {H : Hp} {io : List Addr} {F : Hp} {D : Ends} {b : DS} (mb : MoS b) : DEnds.le { kD K H io F D with nx := fun e s => b (kD K H io F D) e s } (kD K H io F { D with nx := tS K b D }) :=
  ⟨fun e s h σ' io' F' H' t R => ⟨e, io', F', s, R, mb _ _ _ _ (kD_later t) h⟩, fun _ _ h => h, fun _ _ h => h, fun _ _ h => h⟩
theorem wb_cons (h1 : WS X ss ws) (h2 : WB X sts wr) : WB X (ss :: sts) (wSeq ws wr) := by
  refine ⟨fun A B e s l q => h1.mo { A with nx := fun e s => wr A e s } _ _ _ ⟨fun e s q => h2.mo A B _ _ l q, l.rt, l.bk, l.ct⟩ q, PSs_imp (pss_cons h1.pe h2.pe) fun D σ H ⟨env, io, F, st, R, q⟩ => ?_⟩
  exact ⟨env, io, F, st, R, h1.mo _ _ _ _ (kD_seq h2.mo) q⟩
theorem wb_one (h1 : WS X ss ws) : WB X [ss] ws := ⟨h1.mo, pss_one h1.pe⟩
def wDrop (we : DE) : DS := fun D env st => we env st fun _ s => D.nx env s
theorem ws_expr (he : WE X e we) (hs : swapsWith e none pos.line X.env = pure false := by rfl) : WS X (.Expr e pos) (wDrop we) := by
  refine ⟨fun _ _ _ _ l q => he.mo _ _ _ _ (fun _ _ q => l.nx _ _ q) q, PS_imp (ps_expr he.pe hs) fun D σ H ⟨env, io, F, st, R, q⟩ => ?_⟩
  exact tE_use he.mo R q fun d s1 v io1 F1 H1 q1 t1 R1 n1 => q1 σ _ _ _ t1 R1
def wRet (we : DE) : DS := fun D env st => we env st D.rt
theorem ws_ret (he : WE X e we) : WS X (.Return (some e) pos) (wRet we) := by
  refine ⟨fun _ _ _ _ l q => he.mo _ _ _ _ (fun _ _ q => l.rt _ _ q) q, PS_imp (ps_ret he.pe) fun D σ H ⟨env, io, F, st, R, q⟩ => ?_⟩
  exact tE_use he.mo R q fun d s1 v io1 F1 H1 q1 t1 R1 n1 => kE_at q1 t1 R1.toRelH n1
def wIf (c : DT) (a b : DS) : DS := fun D env st => c env st fun k s => if k = true then a D env s else b D env s
theorem ws_if {c : Expr} {a b : List Stmt} {wc : DT} {wa wb : DS} (hc : WT X c wc) (ha : WB X a wa) (hb : WB X b wb) : WS X (.If c a b pos) (wIf wc wa wb) := by
  refine ⟨fun _ _ _ _ l q => hc.mo _ _ _ _ (fun k _ q => by
    cases k with
    | true => exact ha.mo _ _ _ _ l q
    | false => exact hb.mo _ _ _ _ l q) q, PS_imp (ps_if hc.pe ha.pe hb.pe) fun D σ H ⟨env, io, F, st, R, q⟩ => ?_⟩
  refine tT_use hc.mo R q fun k s1 io1 F1 H1 q1 t1 R1 => ?_
  cases k with
  | true => exact ⟨env, io1, F1, s1, R1, ha.mo _ _ _ _ (kD_later t1) q1⟩
  | false => exact ⟨env, io1, F1, s1, R1, hb.mo _ _ _ _ (kD_later t1) q1⟩
abbrev DG := D → En → Sto → (En → Sto → Prop) → Prop
def MoG (g : DG) : Prop := ∀ d e s (Q Q' : En → Sto → Prop), (∀ e s, Q e s → Q' e s) → g d e s Q → g d e s Q'
def tG (K : PySem.W.Frag) (g : DG) : TG := fun v σ H Q => ∃ d env io F st, Rel K σ H env io F st ∧ Den K io F v d ∧ g d env st (kN K H io F Q)
structure WG (X : Cx) (e : Expr) (g : DG) : Prop where
  mo : MoG g
  pe : PG X e (tG X.K g)
abbrev DGs := List D → En → Sto → (En → Sto → Prop) → Prop
def MoGs (g : DGs) : Prop := ∀ d e s (Q Q' : En → Sto → Prop), (∀ e s, Q e s → Q' e s) → g d e s Q → g d e s Q'
def tGs (K : PySem.W.Frag) (g : DGs) : TGs := fun vs σ H Q => ∃ ds env io F st, Rel K σ H env io F st ∧ DenL K io F vs ds ∧ g ds env st (kN K H io F Q)
structure WGs (X : Cx) (es : List Expr) (g : DGs) : Prop where
  mo : MoGs g
  pe : PGs X es (tGs X.K g)
theorem PG_imp {t t' : TG} (h : PG X e t) (i : ∀ v σ H Q, t' v σ H Q → t v σ H Q) : PG X e t' := ⟨fun p s σ H v u Q I r q => h.run p s σ H v u Q I r (i v σ H Q q)⟩
theorem PGs_imp {es : List Expr} {t t' : TGs} (h : PGs X es t) (i : ∀ v σ H Q, t' v σ H Q → t v σ H Q) : PGs X es t' := ⟨fun p s σ H v u Q I r q => h.run p s σ H v u Q I r (i v σ H Q q)⟩
theorem Rel.set {K : PySem.W.Frag} {σ : L2.St} {H : Hp} {env : En} {io : List Addr} {F : Hp} {st : Sto} {i : Nat} {v : V} {d : D} (R : Rel K σ H env io F st) (n : Den K io F v d) : Rel K (σ.set i (some v)) H (env.set i (some d)) io F st :=
  { R.toRelH with
    bs := R.bs
    sl := by rw [List.length_set, List.length_set]; exact R.sl
    slot := fun j d' e => by
      by_cases hj : i = j
      · subst hj
        by_cases hl : i < env.length
        · rw [List.getElem?_set_self hl] at e
          cases e
          exact ⟨v, List.getElem?_set_self (by rw [R.sl]; exact hl), n⟩
        · rw [List.getElem?_eq_none (by rw [List.length_set]; omega)] at e
          cases e
      · rw [List.getElem?_set_ne hj] at e ⊢
        exact R.slot j d' e }
def gNm (i : Nat) : DG := fun d env st Q => Q (env.set i (some d)) st
theorem wg_name {i : Nat} {x : Str} (hN : X.N.Nodup) (hi : X.N[i]? = some x) (hx : Loc X.env.scope x) (hf : X.fn x = true ∨ X.env.scope.names.lookup x = some .local := by first | exact .inl rfl | exact .inr rfl | assumption) : WG X (.Name x pos) (gNm i) :=
  ⟨fun _ _ _ _ _ h q => h _ _ q, PG_imp (pg_name hN hi hx hf) fun v σ H Q ⟨d, env, io, F, st, R, n, q⟩ => q _ _ _ _ Stp.refl (R.set n)⟩
def gNl : DGs := fun ds env st Q => ds = [] ∧ Q env st
def gCn (g : DG) (r : DGs) : DGs := fun ds env st Q => ∃ d ds', ds = d :: ds' ∧ g d env st fun e s => r ds' e s Q
theorem wgs_nil : WGs X [] gNl := ⟨fun _ _ _ _ _ h ⟨a, q⟩ => ⟨a, h _ _ q⟩, PGs_imp pgs_nil fun v σ H Q ⟨d, env, io, F, st, R, n, e, q⟩ => by
  subst e
  cases n
  exact ⟨rfl, q _ _ _ _ Stp.refl R⟩⟩
theorem wgs_cons {es : List Expr} {g : DG} {r : DGs} (h1 : WG X e g) (h2 : WGs X es r) (hs : (assignEach (e :: es) X.env).map (·.2) = assign e X.env :: (assignEach es X.env).map (·.2) := by rfl) : WGs X (e :: es) (gCn g r) := by
  refine ⟨fun _ _ _ _ _ h ⟨d, ds', e, q⟩ => ⟨d, ds', e, h1.mo _ _ _ _ _ (fun _ _ q => h2.mo _ _ _ _ _ h q) q⟩, PGs_imp (pgs_cons h1.pe h2.pe hs) fun v σ H Q ⟨ds, env, io, F, st, R, n, q⟩ => ?_⟩
  obtain ⟨d, ds', e, q⟩ := q
  subst e
  cases n with
  | cons n1 n2 =>
    refine ⟨_, _, rfl, d, env, io, F, st, R, n1, h1.mo _ _ _ _ _ (fun e1 s1 q1 => ?_) q⟩
    intro σ' io' F' H' t R'
    exact ⟨ds', e1, io', F', s1, R', t.denL n2, h2.mo _ _ _ _ _ (fun e2 s2 q2 => kN_later t q2) q1⟩
def gTp (n : Nat) (g : DGs) : DG := fun d env st Q => ∃ ds, d = .tup ds ∧ ds.length = n ∧ g ds env st Q
theorem wg_tup {es : List Expr} {k n : Nat} {g : DGs} (hc : X.calm = true) (h : WGs X es g) (hn : (assignEach es X.env).length = n := by rfl) (hst : (assignEach es X.env).findIdx? (·.1) = none := by rfl) : WG X (.Tuple es k pos) (gTp n g) := by
  refine ⟨fun _ _ _ _ _ i ⟨ds, e, z, q⟩ => ⟨ds, e, z, h.mo _ _ _ _ _ i q⟩, PG_imp (pg_tup hc h.pe hn hst) fun v σ H Q ⟨d, env, io, F, st, R, n1, q⟩ => ?_⟩
  obtain ⟨ds, e, z, q⟩ := q
  subst e
  cases n1 with
  | tup s r _ => exact ⟨_, _, rfl, SqT_mono R.sub s.t, by rw [r.length]; exact z, ds, env, io, F, st, R, r, q⟩
def wAsg (we : DE) (g : DG) : DS := fun D env st => we env st fun d s => g d env s D.nx
theorem ws_asg {tg : Expr} {g : DG} (he : WE X e we) (hg : WG X tg g) (hs : swapsWithSole [tg] e pos.line X.env = pure false := by rfl) (hw : swappedStores [tg] e X.env = pure none := by rfl)
    (h1 : (assignEach [tg] X.env).map (·.2) = [assign tg X.env] := by rfl) : WS X (.Assign [tg] e pos) (wAsg we g) := by
  refine ⟨fun _ _ _ _ l q => he.mo _ _ _ _ (fun _ _ q => hg.mo _ _ _ _ _ l.nx q) q, PS_imp (ps_asg he.pe hg.pe hs hw h1) fun D σ H ⟨env, io, F, st, R, q⟩ => ?_⟩
  exact tE_use he.mo R q fun d s1 v io1 F1 H1 q1 t1 R1 n1 => ⟨d, env, io1, F1, s1, R1, n1, hg.mo _ _ _ _ _ (fun e s q => kN_later t1 q) q1⟩
theorem ws_set {i : Nat} {x : Str} (hN : X.N.Nodup) (hi : X.N[i]? = some x) (hx : Loc X.env.scope x) (he : WE X e we) (hs : swapsWith e (some (.Name x pos')) pos.line X.env = pure false := by rfl)
    (hf : X.fn x = true ∨ X.env.scope.names.lookup x = some .local := by first | exact .inl rfl | exact .inr rfl | assumption) : WS X (.Assign [.Name x pos'] e pos) (wAsg we (gNm i)) := by
  refine ⟨fun _ _ _ _ l q => he.mo _ _ _ _ (fun _ _ q => l.nx _ _ q) q, PS_imp (ps_set hN hi hx he.pe hs hf) fun D σ H ⟨env, io, F, st, R, q⟩ => ?_⟩
  exact tE_use he.mo R q fun d s1 v io1 F1 H1 q1 t1 R1 n1 => q1 _ _ _ _ t1 (R1.set n1)
/-- name += e -/
def wAug (i : Nat) (f : R2D) (we : DE) : DS := fun D env st => ∃ a, env[i]? = some (some a) ∧ we env st fun d s => f a d s fun r s' => D.nx (env.set i (some r)) s'
theorem ws_aug {i : Nat} {x : Str} {op : Operator} {ti : TIp} {f : R2D} (hN : X.N.Nodup) (hi : X.N[i]? = some x) (hx : Loc X.env.scope x) (he : WE X e we) (ho : PIp X op ti) (z : Rz X.K ti f)
    (hf : X.fn x = true ∨ X.env.scope.names.lookup x = some .local := by first | exact .inl rfl | exact .inr rfl | assumption) : WS X (.AugAssign (.Name x pos') op e pos) (wAug i f we) := by
  refine ⟨fun _ _ _ _ l ⟨a, e, q⟩ => ⟨a, e, he.mo _ _ _ _ (fun _ _ q => z.mo _ _ _ _ _ (fun _ _ q => l.nx _ _ q) q) q⟩, PS_imp (ps_aug hN hi hx he.pe ho hf) fun D σ H ⟨env, io, F, st, R, a, ea, q⟩ => ?_⟩
  obtain ⟨v, ev, nv⟩ := R.slot i a ea
  refine ⟨v, ev, tE_use he.mo R q fun d s1 v1 io1 F1 H1 q1 t1 R1 n1 => ?_⟩
  refine z.on R1.toRelH (t1.den nv) n1 (z.mo _ _ _ _ _ (fun d2 s2 q2 => ?_) q1)
  intro v2 io2 F2 H2 t2 R2 n2
  exact q2 _ _ _ _ (t1.trans t2) ((R1.next t2 R2).set n2)
end
end DL
namespace DL
open PySem PySem.Spec PyProof.Rows L2
variable [Bs]
abbrev GK := List D → (Sto → Prop) → Sto → Prop
abbrev DI := En → Sto → GK → Prop
def MoI (w : DI) : Prop := ∀ (e : En) (s : Sto) (Q Q' : GK), (∀ d g s, Q d g s → Q' d g s) → w e s Q → w e s Q'
structure WalkD (K : PySem.W.Frag) (J : It) (H : Hp) (io : List Addr) (F : Hp) (ds : List D) (G : Sto → Prop) : Prop where
  go : ∀ {H2 io2 F2 st2} (i : Nat), Stp H io F H2 io2 F2 → RelH K H2 io2 F2 st2 → G st2 → i < ds.length → J.go i H2
  stop : ∀ {H2 io2 F2 st2}, Stp H io F H2 io2 F2 → RelH K H2 io2 F2 st2 → G st2 → J.stop ds.length H2
  yld : ∀ {H2 io2 F2 st2} (i : Nat) (x : V) (H3 : Hp), Stp H io F H2 io2 F2 → RelH K H2 io2 F2 st2 → G st2 → i < ds.length → J.yld i H2 x H3 →
    ∃ F3 d, Stp H2 io2 F2 H3 io2 F3 ∧ RelH K H3 io2 F3 st2 ∧ ds[i]? = some d ∧ Den K io2 F3 x d
def kI (K : PySem.W.Frag) (H : Hp) (io : List Addr) (F : Hp) (R : It → Hp → Prop) : GK := fun ds G st' => ∀ io' F' H' J, Stp H io F H' io' F' → RelH K H' io' F' st' → WalkD K J H' io' F' ds G → R J H'
def tI (K : PySem.W.Frag) (w : DI) : TI := fun σ H R => ∃ env io F st, Rel K σ H env io F st ∧ w env st (kI K H io F R)
structure WI (X : Cx) (tg iter : Expr) (w : DI) : Prop where
  mo : MoI w
  pe : PI X tg iter (tI X.K w)
theorem PI_imp {X : Cx} {tg iter : Expr} {t t' : TI} (h : PI X tg iter t) (i : ∀ σ H R, t' σ H R → t σ H R) : PI X tg iter t' := ⟨fun p s σ H R I q => h.run p s σ H R I (i σ H R q)⟩
def wForL (G : Sto → Prop) (g : DG) (b : DS) (A : DEnds) : List D → En → Sto → Prop
  | [], env, st => G st ∧ A.nx env st
  | d :: r, env, st => G st ∧ g d env st fun e s => b { nx := wForL G g b A r, rt := A.rt, bk := A.nx, ct := wForL G g b A r } e s
def wFor (wi : DI) (g : DG) (b : DS) : DS := fun D env st => wi env st fun ds G s => wForL G g b D ds env s
theorem moForL {G : Sto → Prop} {g : DG} {b : DS} (mg : MoG g) (mb : MoS b) {A B : DEnds} (l : A.le B) : ∀ (ds : List D) (env : En) (st : Sto), wForL G g b A ds env st → wForL G g b B ds env st
  | [], _, _, ⟨h, q⟩ => ⟨h, l.nx _ _ q⟩
  | d :: r, env, st, ⟨h, q⟩ => ⟨h, mg _ _ _ _ _ (fun e s q => mb { nx := wForL G g b A r, rt := A.rt, bk := A.nx, ct := wForL G g b A r } { nx := wForL G g b B r, rt := B.rt, bk := B.nx, ct := wForL G g b B r } _ _ ⟨moForL mg mb l r, l.rt, l.nx, moForL mg mb l r⟩ q) q⟩
section
variable {X : Cx} {pos : Pos} {tg iter : Expr} {body : List Stmt} {wi : DI} {g : DG} {b : DS}
theorem ws_for (hp : PassesOwn (model X.prog X.w) X.A X.env X.xe) (hc : X.calm = true) (hi : WI X tg iter wi) (hg : WG X tg g) (hb : WB X body b)
    (hs : ∀ x, foldedSetIterable iter X.env x = pure x := by intro _; rfl) : WS X (.For tg iter body [] pos) (wFor wi g b) := by
  refine ⟨fun A B e s l q => hi.mo _ _ _ _ (fun ds G s q => moForL hg.mo hb.mo l ds e s q) q, PS_imp (ps_for hp hc hi.pe hg.pe hb.pe hs) fun D σ H ⟨env, io, F, st, R, q⟩ => ?_⟩
  refine ⟨env, io, F, st, R, hi.mo _ _ _ _ (fun ds G s1 q1 => ?_) q⟩
  intro io1 F1 H1 J t1 R1 W
  let Pv : Nat → L2.St → Hp → Prop := fun i σ' H' => ∃ env' io' F' st', Stp H1 io1 F1 H' io' F' ∧ Rel X.K σ' H' env' io' F' st' ∧ wForL G g b (kD X.K H io F D) (ds.drop i) env' st'
  refine ⟨fun i m σ' H' => m = ds.length - i ∧ i ≤ ds.length ∧ Pv i σ' H', ⟨ds.length, by omega, Nat.zero_le _, env, io1, F1, s1, Stp.refl, R.next t1 R1, by rw [List.drop_zero]; exact q1⟩, ?_⟩
  rintro i m σ2 H2 ⟨rfl, hi2, env2, io2, F2, st2, t2, R2, q2⟩
  by_cases hlt : i < ds.length
  · have hd : ds.drop i = ds[i] :: ds.drop (i + 1) := List.drop_eq_getElem_cons hlt
    rw [hd] at q2
    obtain ⟨hG, q2⟩ := q2
    refine .inr ⟨W.go i t2 R2.toRelH hG hlt, Pv (i + 1), fun σ' H' p => ⟨ds.length - (i + 1), by omega, rfl, hlt, p⟩, fun x H3 y => ?_⟩
    obtain ⟨F3, d, t3, R3, e3, n3⟩ := W.yld i x H3 t2 R2.toRelH hG hlt y
    have ed : d = ds[i] := by rw [List.getElem?_eq_getElem hlt] at e3; exact (Option.some.inj e3).symm
    subst ed
    refine ⟨_, env2, io2, F3, st2, R2.next t3 R3, n3, hg.mo _ _ _ _ _ (fun e4 s4 q4 => ?_) q2⟩
    intro σ4 io4 F4 H4 t4 R4
    refine ⟨e4, io4, F4, s4, R4, hb.mo _ _ _ _ ?_ q4⟩
    have tt := (t2.trans t3).trans t4
    refine ⟨fun e5 s5 q5 => ?_, fun d5 s5 q5 => ?_, fun e5 s5 q5 => ?_, fun e5 s5 q5 => ?_⟩
    · exact fun σ5 io5 F5 H5 t5 R5 => ⟨e5, io5, F5, s5, tt.trans t5, R5, q5⟩
    · exact kE_later (t1.trans tt) q5
    · exact kN_later (t1.trans tt) q5
    · exact fun σ5 io5 F5 H5 t5 R5 => ⟨e5, io5, F5, s5, tt.trans t5, R5, q5⟩
  · have e : i = ds.length := by omega
    subst e
    rw [List.drop_length] at q2
    obtain ⟨hG, q2⟩ := q2
    exact .inl ⟨W.stop t2 R2.toRelH hG, q2 _ _ _ _ (t1.trans t2) R2⟩
def wWhile (c : DT) (b : DS) : DS := fun D env st => ∃ I : Nat → En → Sto → Prop, (∃ m, I m env st) ∧ ∀ m env st, I m env st → c env st fun k s => if k = true then b { nx := fun e s => ∃ m', m' < m ∧ I m' e s, rt := D.rt, bk := D.nx, ct := fun e s => ∃ m', m' < m ∧ I m' e s } env s else D.nx env s
theorem ws_while {c : Expr} {wc : DT} (hp : PassesOwn (model X.prog X.w) X.A X.env X.xe) (hc : WT X c wc) (hb : WB X body b) : WS X (.While c body [] pos) (wWhile wc b) := by
  refine ⟨fun A B e s l ⟨I, i0, q⟩ => ⟨I, i0, fun m e s hI => hc.mo _ _ _ _ (fun k s q => ?_) (q m e s hI)⟩, PS_imp (ps_while hp hc.pe hb.pe) fun D σ H ⟨env, io, F, st, R, I, ⟨m0, i0⟩, q⟩ => ?_⟩
  · cases k with
    | true => exact hb.mo { nx := fun e s => ∃ m', m' < m ∧ I m' e s, rt := A.rt, bk := A.nx, ct := fun e s => ∃ m', m' < m ∧ I m' e s } _ _ _ ⟨fun _ _ h => h, fun _ _ h => l.rt _ _ h, fun _ _ h => l.nx _ _ h, fun _ _ h => h⟩ q
    | false => exact l.nx _ _ q
  · refine ⟨fun m σ' H' => ∃ env' io' F' st', Stp H io F H' io' F' ∧ Rel X.K σ' H' env' io' F' st' ∧ I m env' st', ⟨m0, env, io, F, st, Stp.refl, R, i0⟩, ?_⟩
    rintro m σ1 H1 ⟨env1, io1, F1, st1, t1, R1, i1⟩
    refine tT_use hc.mo R1 (q m env1 st1 i1) fun k s2 io2 F2 H2 q2 t2 R2 => ?_
    cases k with
    | true =>
      rw [if_pos rfl] at q2 ⊢
      refine ⟨fun σ' H' => ∃ m', m' < m ∧ ∃ env' io' F' st', Stp H io F H' io' F' ∧ Rel X.K σ' H' env' io' F' st' ∧ I m' env' st', fun σ' H' h => h, env1, io2, F2, s2, R2, hb.mo _ _ _ _ ?_ q2⟩
      refine ⟨fun e5 s5 ⟨m', hm, q5⟩ => ?_, fun d5 s5 q5 => ?_, fun e5 s5 q5 => ?_, fun e5 s5 ⟨m', hm, q5⟩ => ?_⟩
      · exact fun σ5 io5 F5 H5 t5 R5 => ⟨m', hm, e5, io5, F5, s5, (t1.trans t2).trans t5, R5, q5⟩
      · exact kE_later (t1.trans t2) q5
      · exact kN_later (t1.trans t2) q5
      · exact fun σ5 io5 F5 H5 t5 R5 => ⟨m', hm, e5, io5, F5, s5, (t1.trans t2).trans t5, R5, q5⟩
    | false =>
      rw [if_neg Bool.false_ne_true] at q2 ⊢
      exact q2 _ _ _ _ (t1.trans t2) R2
end
def wipeE (env : En) : List Nat → En
  | [] => env
  | v :: vs => (wipeE env vs).set v none
theorem wipe_rel {K : PySem.W.Frag} {σ : L2.St} {H : Hp} {env : En} {io : List Addr} {F : Hp} {st : Sto} (R : Rel K σ H env io F st) : ∀ vs : List Nat, Rel K (wipe σ vs) H (wipeE env vs) io F st
  | [] => R
  | v :: vs => by
    have ih := wipe_rel R vs
    refine { ih.toRelH with sl := ?_, bs := ih.bs, slot := fun j d e => ?_ }
    · show ((wipe σ vs).set v none).length = ((wipeE env vs).set v none).length
      rw [List.length_set, List.length_set]; exact ih.sl
    · replace e : ((wipeE env vs).set v none)[j]? = some (some d) := e
      show ∃ x, ((wipe σ vs).set v none)[j]? = some (some x) ∧ _
      by_cases hj : v = j
      · subst hj
        by_cases hl : v < (wipeE env vs).length
        · rw [List.getElem?_set_self hl] at e; cases e
        · rw [List.getElem?_eq_none (by rw [List.length_set]; omega)] at e; cases e
      · rw [List.getElem?_set_ne hj] at e ⊢
        exact ih.slot j d e
/-- targets in a comprehension: plain slots -/
inductive Tg where
  | nm (i : Nat) | tp (is : List Nat)
def Tg.dg : Tg → DG
  | .nm i => gNm i
  | .tp is => gTp is.length (is.foldr (fun i r => gCn (gNm i) r) gNl)
def Tg.tg (K : PySem.W.Frag) : Tg → TG
  | .nm i => gName i
  | .tp is => gTup K is.length (is.foldr (fun i r => gCons (gName i) r) gNil)
def Tg.ix : Tg → List Nat
  | .nm i => [i]
  | .tp is => is
theorem wipe_set {σ : L2.St} {x : Option V} {i : Nat} : ∀ {vs : List Nat}, i ∈ vs → wipe (σ.set i x) vs = wipe σ vs
  | v :: vs, h => by
    unfold wipe
    by_cases e : i ∈ vs
    · rw [wipe_set e]
    · have ev : i = v := by rcases List.mem_cons.mp h with z | z; exact z; exact absurd z e
      subst ev
      have : ∀ (vs : List Nat) (σ : L2.St), i ∉ vs → wipe (σ.set i x) vs = (wipe σ vs).set i x := fun vs => by
        induction vs with
        | nil => intro σ _; rfl
        | cons w ws ih =>
          intro σ hn
          unfold wipe
          have h1 : w ≠ i := fun z => hn (by rw [z]; exact List.mem_cons_self)
          rw [ih σ (fun z => hn (List.mem_cons_of_mem _ z)), List.set_comm _ _ h1.symm]
      rw [this vs σ e, List.set_set]
/-- running a target: the slots besides stay -/
theorem Tg.run {K : PySem.W.Frag} {H : Hp} {io : List Addr} {F : Hp} {st : Sto} {vs : List Nat} : ∀ (t : Tg) (hv : ∀ i ∈ t.ix, i ∈ vs) {σ : L2.St} {env : En} {v : V} {d : D} {Q : L2.St → Hp → Prop} {P : En → Sto → Prop}, Rel K σ H env io F st → Den K io F v d → t.dg d env st P →
    (∀ σ' env', P env' st → Rel K σ' H env' io F st → wipe σ' vs = wipe σ vs → Q σ' H) → t.tg K v σ H Q
  | .nm i, hv, σ, env, v, d, Q, P, R, n, q, k => k _ _ q (R.set n) (wipe_set (hv i (by simp [Tg.ix])))
  | .tp is, hv, σ, env, v, d, Q, P, R, n, q, k => by
    obtain ⟨ds, e, z, q⟩ := q
    subst e
    cases n with
    | @tup a xs _ s r _ =>
      refine ⟨a, xs, rfl, SqT_mono R.sub s.t, by rw [r.length]; exact z, ?_⟩
      clear s z
      replace hv : ∀ i ∈ is, i ∈ vs := hv
      suffices ∀ (is : List Nat) (hv : ∀ i ∈ is, i ∈ vs) (xs : List V) (ds : List D) (σ' : L2.St) (env' : En), Rel K σ' H env' io F st → wipe σ' vs = wipe σ vs → DenL K io F xs ds →
          is.foldr (fun i r => gCn (gNm i) r) gNl ds env' st P → is.foldr (fun i r => gCons (gName i) r) gNil xs σ' H Q from this is hv xs ds σ env R rfl r q
      intro is
      induction is with
      | nil =>
        intro hv xs ds σ' env' R' w' r' q'
        obtain ⟨e, q'⟩ := q'
        subst e
        cases r'
        exact ⟨rfl, k _ _ q' R' w'⟩
      | cons i is ih =>
        intro hv xs ds σ' env' R' w' r' q'
        obtain ⟨d1, ds', e, q'⟩ := q'
        subst e
        cases r' with
        | @cons v1 vs1 _ _ n1 n2 =>
          exact ⟨v1, vs1, rfl, ih (fun j hj => hv j (List.mem_cons_of_mem _ hj)) vs1 ds' _ _ (R'.set n1) ((wipe_set (hv i List.mem_cons_self)).trans w') n2 q'⟩
theorem moFold {Q Q' : En → Sto → Prop} (h : ∀ e s, Q e s → Q' e s) {s : Sto} : ∀ (is : List Nat) (ds : List D) (e : En), is.foldr (fun i r => gCn (gNm i) r) gNl ds e s Q → is.foldr (fun i r => gCn (gNm i) r) gNl ds e s Q'
  | [], _, _, ⟨a, q⟩ => ⟨a, h _ _ q⟩
  | i :: is, _, _, ⟨d1, ds', e2, q⟩ => ⟨d1, ds', e2, moFold h is _ _ q⟩
theorem Tg.mo : ∀ t : Tg, MoG t.dg
  | .nm i => fun _ _ _ _ _ h q => h _ _ q
  | .tp is => fun d e s Q Q' h ⟨ds, e1, z, q⟩ => ⟨ds, e1, z, moFold h is ds e q⟩
def wCompL (G : Sto → Prop) (t : Tg) (c : DT) (w : DE) (env : En) : List D → Sto → List D → LK → Prop
  | [], st, acc, Q => G st ∧ Q acc st
  | d :: r, st, acc, Q => G st ∧ t.dg d env st fun e s => c e s fun k s1 => if k = true then w e s1 fun x s2 => wCompL G t c w env r s2 (acc ++ [x]) Q else wCompL G t c w env r s1 acc Q
def wComp (m : Bool) (wi : DI) (t : Tg) (c : DT) (w : DE) (vs : List Nat) : DE := fun env st Q => wi env st fun ds G s => ds.length ≤ sizeLine ∧ wCompL G t c w (wipeE env vs) ds s [] fun acc s' => newL m acc s' Q
theorem moCompL {G : Sto → Prop} {t : Tg} {c : DT} {w : DE} (mc : MoT c) (mw : MoE w) {Q Q' : LK} (h : ∀ d s, Q d s → Q' d s) {env : En} : ∀ (ds : List D) (st : Sto) (acc : List D), wCompL G t c w env ds st acc Q → wCompL G t c w env ds st acc Q'
  | [], _, _, ⟨g, q⟩ => ⟨g, h _ _ q⟩
  | d :: r, st, acc, ⟨g, q⟩ => ⟨g, t.mo _ _ _ _ _ (fun e s q => mc _ _ _ _ (fun k s1 q => by
    cases k with
    | true => exact mw _ _ _ _ (fun x s2 q => moCompL mc mw h r s2 _ q) q
    | false => exact moCompL mc mw h r s1 acc q) q) q⟩
def wYes : DT := fun _ st Q => Q true st
/-- a clause's tests -/
structure WTs (X : Cx) (ifs : List Expr) (w : DT) : Prop where
  mo : MoT w
  pe : PTs X ifs (tT X.K w)
theorem PTs_imp {X : Cx} {e : List Expr} {t t' : TT} (h : PTs X e t) (i : ∀ σ H Q, t' σ H Q → t σ H Q) : PTs X e t' := ⟨fun p s σ H Q I q => h.run p s σ H Q I (i σ H Q q)⟩
theorem wts_nil {X : Cx} : WTs X [] wYes := ⟨fun _ _ _ _ h q => h _ _ q, PTs_imp pts_nil fun σ H Q ⟨env, io, F, st, R, q⟩ => q io F H Stp.refl R.toRelH⟩
theorem wts_one {X : Cx} {c : Expr} {w : DT} (h : WT X c w) : WTs X [c] w := ⟨h.mo, pts_one h.pe⟩
/-- the reading of a comprehension -/
theorem tLc_of {K : PySem.W.Frag} {wi : DI} {t : Tg} {c : DT} {w : DE} {vs : List Nat} {m : Bool} {Q : VK} {σ : L2.St} {H : Hp} (mi : MoI wi) (mc : MoT c) (mw : MoE w) (hv : ∀ i ∈ t.ix, i ∈ vs) (h : tE K (wComp m wi t c w vs) σ H Q) :
    tLc (tI K wi) (t.tg K) (tT K c) (tE K w) vs σ H Q := by
  obtain ⟨env, io, F, st, R, q⟩ := h
  refine ⟨env, io, F, st, R, mi _ _ _ _ (fun ds G s1 ⟨hz, q1⟩ => ?_) q⟩
  intro io1 F1 H1 J t1 R1 W Dl hD
  have R1' : Rel K σ H1 env io1 F1 s1 := R.next t1 R1
  have hio := R1.notIo hD
  have hF := R1.notF hD
  have hHD : H Dl = none := t1.none_of hD
  let Pv : Nat → Hp → Prop := fun i H' => ∃ io' F' st' acc vs', Stp H1 io1 F1 H' io' F' ∧ RelH K H' io' F' st' ∧ H' Dl = some (.lst vs') ∧ F' Dl = none ∧ Dl ∉ io' ∧ DenL K io' F' vs' acc ∧ acc.length ≤ i ∧
    wCompL G t c w (wipeE env vs) (ds.drop i) st' acc (fun acc s' => newL m acc s' (kE K H io F Q))
  refine ⟨fun i k H' => k = ds.length - i ∧ i ≤ ds.length ∧ Pv i H', ⟨ds.length, by omega, Nat.zero_le _, io1, F1, s1, [], [], Stp.refl.own hD, R1.aside hD, upd_same, hF, hio, .nil, Nat.le_refl _, by rw [List.drop_zero]; exact q1⟩, ?_⟩
  rintro i k H2 ⟨rfl, hi2, io2, F2, st2, acc, vs2, t2, R2, e2, f2, o2, n2, l2, q2⟩
  by_cases hlt : i < ds.length
  · have hd : ds.drop i = ds[i] :: ds.drop (i + 1) := List.drop_eq_getElem_cons hlt
    rw [hd] at q2
    obtain ⟨hG, q2⟩ := q2
    refine .inr ⟨W.go i t2 R2 hG hlt, Pv (i + 1), fun H' p => ⟨ds.length - (i + 1), by omega, rfl, hlt, p⟩, fun x H3 y => ?_⟩
    obtain ⟨F3, d, t3, R3, e3, n3⟩ := W.yld i x H3 t2 R2 hG hlt y
    have ed : d = ds[i] := by rw [List.getElem?_eq_getElem hlt] at e3; exact (Option.some.inj e3).symm
    subst ed
    have Rs : Rel K (wipe σ vs) H3 (wipeE env vs) io2 F3 st2 := wipe_rel (R1'.next (t2.trans t3) R3) vs
    refine t.run hv Rs n3 q2 fun σ4 env4 q4 R4 w4 => ⟨?_, ?_⟩
    · rw [w4]
      have : ∀ (vs ws : List Nat), (∀ i ∈ vs, i ∈ ws) → wipe (wipe σ ws) vs = wipe σ ws := fun vs ws => by
        induction vs with
        | nil => intro _; rfl
        | cons v vs ih =>
          intro hh
          show (wipe (wipe σ ws) vs).set v none = _
          rw [ih fun i hi => hh i (List.mem_cons_of_mem _ hi)]
          have hv' := hh v List.mem_cons_self
          clear ih hh
          induction ws with
          | nil => cases hv'
          | cons u us ih2 =>
            show ((wipe σ us).set u none).set v none = (wipe σ us).set u none
            by_cases e : v = u
            · subst e; rw [List.set_set]
            · rcases List.mem_cons.mp hv' with z | z
              · exact absurd z e
              · rw [List.set_comm _ _ (Ne.symm e), ih2 z]
      exact this vs vs fun _ h => h
    refine tT_use mc R4 q4 fun b s5 io5 F5 H5 q5 t5 R5 => ?_
    have b5 := (t3.trans t5).beside e2 (fun _ z => nomatch z) f2 o2
    cases b with
    | true =>
      rw [if_pos rfl] at q5 ⊢
      refine tE_use mw R5 q5 fun d6 s6 v6 io6 F6 H6 q6 t6 R6 n6 => ?_
      have b6 := ((t3.trans t5).trans t6).beside e2 (fun _ z => nomatch z) f2 o2
      have lz : acc.length < sizeLine := by omega
      refine ⟨vs2, b6.1, by rw [n2.length]; exact lz, io6, F6, s6, acc ++ [d6], vs2 ++ [v6], (((t2.trans t3).trans t5).trans t6).own hD, R6.toRelH.side b6.1 (fun _ z => nomatch z) b6.2.1 b6.2.2, upd_same, b6.2.1, b6.2.2,
        ((((t3.trans t5).trans t6).denL n2).append (.cons n6 .nil)), by rw [List.length_append, List.length_singleton]; omega, q6⟩
    | false =>
      rw [if_neg Bool.false_ne_true] at q5 ⊢
      exact ⟨io5, F5, s5, acc, vs2, ((t2.trans t3).trans t5), R5.toRelH, b5.1, b5.2.1, b5.2.2, (t3.trans t5).denL n2, by omega, q5⟩
  · have e : i = ds.length := by omega
    subst e
    rw [List.drop_length] at q2
    obtain ⟨hG, q2⟩ := q2
    refine .inl ⟨W.stop t2 R2 hG, ?_⟩
    have lz : acc.length ≤ sizeLine := by omega
    cases m with
    | true =>
      have s : Stp H2 io2 F2 H2 (io2 ++ [Dl]) F2 → True := fun _ => trivial
      have ix : ∀ (n : Nat) a, io2[n]? = some a → (io2 ++ [Dl])[n]? = some a := fun n a h => by
        rw [List.getElem?_append_left (List.getElem?_eq_some_iff.mp h).1]; exact h
      exact kE_at (show kE K H io F Q (.ref st2.length) (st2 ++ [.lst acc]) from q2) ((t1.trans t2).cell hHD) (R2.adopt ⟨_, e2, fun _ z => nomatch z⟩ o2 ⟨f2, lz, vs2, e2, n2.mono ix fun _ _ h => h⟩) R2.newRef
    | false =>
      have fr : ∀ a u, F2 a = some u → upd F2 Dl (.lst vs2) a = some u := fun a u e => by
        rw [upd_ne (fun z => by subst z; rw [f2] at e; cases e)]; exact e
      exact kE_at (show kE K H io F Q (.lst acc) st2 from q2) ((t1.trans t2).frz hHD f2) (R2.frz e2 (fun _ z => nomatch z) f2 o2) (.lst upd_same (n2.mono (fun _ _ h => h) fr) lz)
end DL
namespace DL
open PySem PySem.Spec PyProof.Rows L2
variable [Bs]
theorem meets_enum_new1 {v : Value} {o : Obj} {H : Heap → Prop} (B : Begins v o H) :
    Meets (Builtin.«enumerate.__new__» ⟨[.type "enumerate", v], []⟩) (fun _ R s => H s.heap ∧
      R (.ok (.ret (.ref (s.heap.push o).objs.size))) { s with heap := (s.heap.push o).push { cls := .type "enumerate", data := .fields #[.none, .bool false, .ref s.heap.objs.size, rawInt 0, .none, .none] } }) :=
  .of_wp fun prog w A R s h => by
    obtain ⟨hp, g, d, tk, os⟩ := s; obtain ⟨h1, h⟩ := h
    have hsub := sub_enumerate
    have q1 : ∀ {A' : Around} {E : Value → Shared → Prop} {Q : Value → Shared → Prop}, Q (.ref hp.objs.size) ⟨hp.push o, g, d, tk, os⟩ → wpAny (model prog w) A' (pyIter v) Q E ⟨hp, g, d, tk, os⟩ :=
      fun q => B.iter prog w _ _ ⟨hp, g, d, tk, os⟩ _ h1 q
    wp_walk using q1
    refine wpAny_stack_any fun st => wpAny_pure ?_
    split
    · rename_i c _ _ _ _ _
      cases (c == Value.type "enumerate")
      · wp_walk using q1
        exact ⟨_, rfl, h⟩
      · wp_walk using q1
        exact ⟨_, rfl, h⟩
    · wp_walk using q1
      exact ⟨_, rfl, h⟩
theorem call_enum_begins {prog : Program} {w : World} {A : Around} {E : Value → Shared → Prop} {s : Shared} {v : Value} {o : Obj} {H : Heap → Prop} {Q : Value → Shared → Prop} (B : Begins v o H) (h1 : H s.heap)
    (h : ∀ h', IsEnum h' (s.heap.objs.size + 1) s.heap.objs.size 0 .none → h'.get? s.heap.objs.size = some o → h'.objs.size = s.heap.objs.size + 2 →
      (∀ b o, s.heap.get? b = some o → h'.get? b = some o) → Q (.ref (s.heap.objs.size + 1)) { s with heap := h' }) :
    wpAny (model prog w) A (call (.type "enumerate") [v]) Q E s := by
  refine callType_new F.called_enumerate (by decide) (F.typeCall_enumerate_1 _) (F.newCall_enumerate_1 _) (fun obj => F.args_object_init_2 obj _) F.entry_enumerate_new (meets_enum_new1 B) ⟨h1, ?_⟩
  have hz : (s.heap.push o).objs.size = s.heap.objs.size + 1 := Heap.size_push ..
  show _ ∧ _
  rw [hz]
  have he : IsEnum ((s.heap.push o).push { cls := .type "enumerate", data := .fields #[.none, .bool false, .ref s.heap.objs.size, rawInt 0, .none, .none] }) (s.heap.objs.size + 1) s.heap.objs.size 0 .none := by
    have := Heap.get?_push_size (s.heap.push o) (o := { cls := .type "enumerate", data := .fields #[.none, .bool false, .ref s.heap.objs.size, rawInt 0, .none, .none] }) rfl
    rw [hz] at this; exact this
  refine ⟨⟨_, he, rfl⟩, h _ he (Heap.get?_push_of_some _ (Heap.get?_push_size _ B.free)) (by rw [Heap.size_push, hz]) fun b o x => Heap.get?_push_of_some _ (Heap.get?_push_of_some _ x)⟩
theorem pi_enumX {X : Cx} {e : Expr} {ta : TA} {p pos tpos : Pos} {elts : List Expr} {kk : Nat} (hg : Gl X "enumerate") (hm : X.mg "enumerate" = none) (ha : PA X [e] ta) (hs : starEach [e] X.env = [(false, eval e X.env)] := by rfl) :
    PI X (.Tuple elts kk tpos) (.Call (.Name "enumerate" p) [e] [] pos) (fun σ H R => ta σ H fun vs H1 => ∃ a xs, vs = [.ref a] ∧ ((SqL X.K H1 a xs ∧ R (IteX (SqL X.K) a) H1) ∨ (SqT X.K H1 a xs ∧ R (IteX (SqT X.K) a) H1))) := by
  refine ⟨fun pins s σ H R I h => Call_ (ld_blt I hg hm boot_enumerate (PyProof.Rows.callWith_type1 (thn (ha.run pos pins s σ H _ I h) fun us s1 ⟨vs, H1, I1, r1, q1⟩ => ?_) hs rfl))⟩
  obtain ⟨a, xs, rfl, q1⟩ := q1
  obtain ⟨u, rfl, ru⟩ := vals1 r1
  cases ru
  have fr : ∀ k, FpOk X pins H1 (s1.heap.objs.size + k) := fun k => I1.fpOk (Nat.le_add_right _ _) (I1.hok.fresh (Nat.le_add_right _ _))
  have f2 : ∀ b ∈ [s1.heap.objs.size + 1, s1.heap.objs.size], FpOk X pins H1 b := List.forall_mem_cons.mpr ⟨fr 1, List.forall_mem_cons.mpr ⟨fr 0, fun _ h => nomatch h⟩⟩
  rcases q1 with ⟨hq, q⟩ | ⟨hq, q⟩
  · obtain ⟨its, rv, p', hz⟩ := I1.list hq
    have hlt := p'.lt
    exact call_enumerate_list p'.isList fun h' he hit hsz hk => wpAny_pyIter_enum he ⟨s1.heap.objs.size + 1, [s1.heap.objs.size + 1, s1.heap.objs.size], _, _, H1, rfl, I1.kept (t' := s1.toks) hk, turn_enumX (srcL X.K) a (s1.heap.objs.size + 1) s1.heap.objs.size, ⟨⟨.none, he⟩, hit, Nat.succ_ne_self _, Nat.ne_of_lt hlt, Nat.ne_of_gt (Nat.lt_succ_of_lt hlt)⟩, f2, q⟩
  · obtain ⟨its, rv, p', hz⟩ := I1.tuple hq
    have hlt := p'.lt
    exact call_enum_begins (begins_tuple a its.toArray) (show s1.heap.IsTuple a its.toArray from p') fun h' he hit hsz hk => wpAny_pyIter_enum he ⟨s1.heap.objs.size + 1, [s1.heap.objs.size + 1, s1.heap.objs.size], _, _, H1, rfl, I1.kept (t' := s1.toks) hk, turn_enumX (srcT X.K) a (s1.heap.objs.size + 1) s1.heap.objs.size, ⟨⟨.none, he⟩, ⟨_, hit, rfl, rfl⟩, Nat.succ_ne_self _, Nat.ne_of_lt hlt, Nat.ne_of_gt (Nat.lt_succ_of_lt hlt)⟩, f2, q⟩
theorem pi_seq {X : Cx} {tg l : Expr} {tl : TE} (hl : PE X l tl) : PI X tg l (fun σ H R => tl σ H fun x H1 => (∃ a xs, x = .ref a ∧ ((SqL X.K H1 a xs ∧ R (Itl X.K a) H1) ∨ (SqT X.K H1 a xs ∧ R (Itt X.K a) H1))) ∨ ∃ z, x = .str z ∧ R (Its z) H1) := by
  refine ⟨fun pins s σ H R I h => ?_⟩
  have h1 : ∀ {t : TE}, (∀ σ H Q, t σ H Q → tl σ H Q) → PE X l t := fun i => PE_imp hl i
  refine thn (hl.run pins s σ H _ I h) fun v s1 ⟨x, H1, I1, r1, q1⟩ => ?_
  rcases q1 with ⟨a, xs, e, q⟩ | ⟨z, e, q⟩
  · subst e
    cases r1
    rcases q with ⟨hq, q⟩ | ⟨hq, q⟩
    · obtain ⟨its, rv, p, hz⟩ := I1.list hq
      refine wpAny_pyIter_list p.isList ?_
      refine ⟨s1.heap.objs.size, [s1.heap.objs.size], _, _, H1, rfl, I1.kept (t' := s1.toks) fun b o e => Heap.get?_push_of_some _ e, turn_list a _, ⟨_, Heap.get?_push_size _ rfl, rfl, rfl⟩, fun b hb => ?_, q⟩
      have e : b = s1.heap.objs.size := by simpa using hb
      subst e
      exact I1.fpOk (Nat.le_refl _) (I1.hok.fresh (Nat.le_refl _))
    · obtain ⟨its, rv, p, hz⟩ := I1.tuple hq
      refine wpAny_pyIter_tuple (show s1.heap.IsTuple a its.toArray from p) ?_
      refine ⟨s1.heap.objs.size, [s1.heap.objs.size], _, _, H1, rfl, I1.kept (t' := s1.toks) fun b o e => Heap.get?_push_of_some _ e, turn_tuple a _, ⟨_, Heap.get?_push_size _ rfl, rfl, rfl⟩, fun b hb => ?_, q⟩
      have e : b = s1.heap.objs.size := by simpa using hb
      subst e
      exact I1.fpOk (Nat.le_refl _) (I1.hok.fresh (Nat.le_refl _))
  · subst e
    obtain ⟨t, rfl⟩ := r1
    cases ha : z.cps.all (· < 128)
    · exact wpAny_pyIter_wide ha (pi_one (tk := s1.toks) I1 _ (turn_str _ z t "str_iterator" (.inr rfl)) ⟨_, Heap.get?_push_size _ rfl, rfl, rfl⟩ q)
    · exact wpAny_pyIter_ascii ha (pi_one (tk := s1.toks) I1 _ (turn_str _ z t "str_ascii_iterator" (.inl rfl)) ⟨_, Heap.get?_push_size _ rfl, rfl, rfl⟩ q)
end DL
namespace DL
open PySem PySem.Spec PyProof.Rows L2
variable [Bs]
/-- a cell's list as a list -/
def rd (st : Sto) : D → D
  | .ref n => match st[n]? with
    | some (.lst ds) => .lst ds
    | _ => .ref n
  | d => d
section
variable {K : PySem.W.Frag} {io : List Addr} {F H : Hp} {st : Sto} {v : V} {d : D} {ds : List D}
/-- what stands behind a value read as a list -/
theorem rd_lst (R : RelH K H io F st) (n : Den K io F v d) (e : rd st d = .lst ds) : ∃ a xs, v = .ref a ∧ H a = some (.lst xs) ∧ DenL K io F xs ds ∧ ds.length ≤ sizeLine := by
  cases d with
  | lst es =>
    cases e
    cases n with
    | lst h r z => exact ⟨_, _, rfl, R.sub _ _ h, r, z⟩
  | ref k =>
    cases n with
    | ref h =>
      unfold rd at e
      cases q : st[k]? with
      | none => simp [q] at e
      | some c =>
        cases c with
        | lst es =>
          simp [q] at e
          subst e
          obtain ⟨h1, h2, vs, h3, h4⟩ := R.cel _ _ _ q h
          exact ⟨_, _, rfl, h3, h4, h2⟩
        | dead => simp [q] at e
        | ins C fs => simp [q] at e
        | dct b kvs => simp [q] at e
  | non => cases e
  | bl b => cases e
  | int i => cases e
  | str s => cases e
  | tup es => cases e
  | scr es => cases e
  | dct es => cases e
  | fn _ _ _ => cases e
  | exc => cases e
theorem rd_not (e : ∀ ds, rd st d ≠ .lst ds) (e2 : ∀ n, rd st d ≠ .ref n) : rd st d = d := by
  cases d with
  | ref n =>
    unfold rd at e e2 ⊢
    cases q : st[n]? with
    | none => simp [q] at e2
    | some c => cases c <;> simp [q] at e e2
  | _ => rfl
end
/-- what may be walked: with what must stay -/
def seqI (d : D) (s : Sto) (R : GK) : Prop :=
  match d with
  | .tup ds => R ds (fun _ => True) s
  | .lst ds => R ds (fun _ => True) s
  | .scr ds => R ds (fun _ => True) s
  | .str z => R (z.cps.toList.map fun c => .str ⟨#[c]⟩) (fun _ => True) s
  | .ref n => ∃ ds, s[n]? = some (.lst ds) ∧ R ds (fun s' => s'[n]? = some (.lst ds)) s
  | _ => False
theorem seqI_mo {d : D} {s : Sto} {R R' : GK} (h : ∀ ds G s, R ds G s → R' ds G s) (q : seqI d s R) : seqI d s R' := by
  cases d with
  | ref n => obtain ⟨ds, e, q⟩ := q; exact ⟨ds, e, h _ _ _ q⟩
  | tup _ => exact h _ _ _ q
  | lst _ => exact h _ _ _ q
  | scr _ => exact h _ _ _ q
  | str _ => exact h _ _ _ q
  | non => exact q
  | bl _ => exact q
  | int _ => exact q
  | dct _ => exact q
  | fn _ _ _ => exact q
  | exc => exact q
def iSeq (we : DE) : DI := fun env st R => we env st fun d s => seqI d s R
section
variable {K : PySem.W.Frag} {io : List Addr} {F H : Hp} {a : Addr} {xs : List V} {ds : List D}
theorem walkD_list {G : Sto → Prop} (r : DenL K io F xs ds) (h : ∀ {H2 io2 F2 st2}, Stp H io F H2 io2 F2 → RelH K H2 io2 F2 st2 → G st2 → ∃ ys, SqL K H2 a ys ∧ DenL K io2 F2 ys ds) : WalkD K (Itl K a) H io F ds G where
  go := fun i t R g hi => by
    obtain ⟨ys, s, r2⟩ := h t R g
    obtain ⟨v, e, _⟩ := r2.get (List.getElem?_eq_getElem hi)
    exact ⟨ys, v, s, e⟩
  stop := fun t R g => by
    obtain ⟨ys, s, r2⟩ := h t R g
    exact ⟨ys, s, Nat.le_of_eq r2.length⟩
  yld := fun {H2 io2 F2 st2} i x H3 t R g hi y => by
    obtain ⟨ys, s, r2⟩ := h t R g
    obtain ⟨v, e, n⟩ := r2.get (List.getElem?_eq_getElem hi)
    obtain ⟨e1, e2⟩ := y
    subst e1
    have := e2 ys s
    rw [e] at this
    cases this
    exact ⟨F2, _, Stp.refl, R, List.getElem?_eq_getElem hi, n⟩
theorem walkD_tup (s0 : SqT K F a xs) (r : DenL K io F xs ds) : WalkD K (Itt K a) H io F ds (fun _ => True) where
  go := fun i t R _ hi => by
    obtain ⟨v, e, _⟩ := (t.denL r).get (List.getElem?_eq_getElem hi)
    exact ⟨xs, v, SqT_mono R.sub (SqT_mono t.fr s0), e⟩
  stop := fun t R _ => ⟨xs, SqT_mono R.sub (SqT_mono t.fr s0), Nat.le_of_eq r.length⟩
  yld := fun {H2 io2 F2 st2} i x H3 t R _ hi y => by
    obtain ⟨v, e, n⟩ := (t.denL r).get (List.getElem?_eq_getElem hi)
    obtain ⟨e1, e2⟩ := y
    subst e1
    have := e2 xs (SqT_mono R.sub (SqT_mono t.fr s0))
    rw [e] at this
    cases this
    exact ⟨F2, _, Stp.refl, R, List.getElem?_eq_getElem hi, n⟩
theorem walkD_str {z : Str} : WalkD K (Its z) H io F (z.cps.toList.map fun c => .str ⟨#[c]⟩) (fun _ => True) where
  go := fun i t R _ hi => by
    have : i < z.cps.size := by simpa using hi
    exact this
  stop := fun t R _ => by
    have e : (z.cps.toList.map fun c => D.str ⟨#[c]⟩).length = z.cps.size := by simp
    rw [e]
    exact (walk_str (z := z)).stops _ trivial
  yld := fun {H2 io2 F2 st2} i x H3 t R _ hi y => by
    have hi' : i < z.cps.size := by simpa using hi
    obtain ⟨e1, c, e2, e3⟩ := (walk_str (z := z)).yields i H2 x H3 hi' trivial y
    subst e1
    subst e3
    refine ⟨F2, .str ⟨#[c]⟩, Stp.refl, R, ?_, .str _⟩
    simp [e2]
end
section
variable {X : Cx} {pos p : Pos} {tg e e2 : Expr} {we we2 : DE}
theorem wi_seq (he : WE X e we) : WI X tg e (iSeq we) := by
  refine ⟨fun _ _ _ _ h q => he.mo _ _ _ _ (fun _ _ q => seqI_mo h q) q, PI_imp (pi_seq he.pe) fun σ H R ⟨env, io, F, st, Rl, q⟩ => ?_⟩
  refine tE_use he.mo Rl q fun d s1 v io1 F1 H1 q1 t1 R1 n1 => ?_
  cases n1 with
  | tup s r z => exact .inl ⟨_, _, rfl, .inr ⟨SqT_mono R1.sub s.t, q1 _ _ _ _ t1 R1.toRelH (walkD_tup s.t r)⟩⟩
  | lst s r z => exact .inl ⟨_, _, rfl, .inl ⟨SqL.of (R1.sub _ _ s), q1 _ _ _ _ t1 R1.toRelH (walkD_list r fun t R _ => ⟨_, SqL.of (R.sub _ _ (t.fr _ _ s)), t.denL r⟩)⟩⟩
  | scr s r z => exact .inl ⟨_, _, rfl, .inl ⟨SqL_mono R1.sub s, q1 _ _ _ _ t1 R1.toRelH (walkD_list r fun t R _ => ⟨_, SqL_mono R.sub (SqL_mono t.fr s), t.denL r⟩)⟩⟩
  | @ref a n h =>
    obtain ⟨ds, e, q1⟩ := q1
    obtain ⟨h1, h2, vs, h3, h4⟩ := R1.cel _ _ _ e h
    refine .inl ⟨_, vs, rfl, .inl ⟨SqL.of h3, q1 _ _ _ _ t1 R1.toRelH (walkD_list h4 fun t R g => ?_)⟩⟩
    obtain ⟨_, _, ws, h5, h6⟩ := R.cel _ _ _ g (t.ix _ _ h)
    exact ⟨ws, SqL.of h5, h6⟩
  | str z => exact .inr ⟨_, rfl, q1 _ _ _ _ t1 R1.toRelH walkD_str⟩
  | non => exact q1.elim
  | bl _ => exact q1.elim
  | int _ => exact q1.elim
  | dct _ => exact q1.elim
  | fn _ _ => exact q1.elim
  | exc => exact q1.elim
def rangeD (lo : Int) (n : Nat) : List D := (List.range n).map fun (i : Nat) => .int (lo + i)
theorem walkD_range {K : PySem.W.Frag} {io : List Addr} {F H : Hp} {lo : Int} {n : Nat} : WalkD K (Itr lo n) H io F (rangeD lo n) (fun _ => True) where
  go := fun i t R _ hi => by show i < n; simpa [rangeD] using hi
  stop := fun t R _ => by show n ≤ (rangeD lo n).length; simp [rangeD]
  yld := fun {H2 io2 F2 st2} i x H3 t R _ hi y => by
    obtain ⟨e1, e2⟩ := y
    subst e1
    subst e2
    have hi' : i < n := by simpa [rangeD] using hi
    exact ⟨F2, .int (lo + i), Stp.refl, R, by simp [rangeD, hi'], .int _⟩
def iRange1 (wa : DA) : DI := fun env st R => wa env st fun ds s => ∃ j, ds = [.int j] ∧ -(2 ^ 62) ≤ j ∧ j < 2 ^ 62 ∧ R (rangeD 0 j.toNat) (fun _ => True) s
def iRange2 (wa : DA) : DI := fun env st R => wa env st fun ds s => ∃ i j, ds = [.int i, .int j] ∧ (-(2 ^ 62) ≤ i ∧ i < 2 ^ 62 ∧ -(2 ^ 62) ≤ j ∧ j < 2 ^ 62) ∧ R (rangeD i (j - i).toNat) (fun _ => True) s
theorem wi_range1 {wa : DA} (hg : Gl X "range") (hm : X.mg "range" = none) (ha : WA X [e] wa) (hs : starEach [e] X.env = [(false, eval e X.env)] := by rfl) : WI X tg (.Call (.Name "range" p) [e] [] pos) (iRange1 wa) := by
  refine ⟨fun _ _ _ _ h q => ha.mo _ _ _ _ (fun _ _ ⟨j, e, h1, h2, q⟩ => ⟨j, e, h1, h2, h _ _ _ q⟩) q, PI_imp (pi_range1 hg hm ha.pe hs) fun σ H R ⟨env, io, F, st, Rl, q⟩ => ?_⟩
  refine tA_use ha.mo Rl q fun ds s1 vs io1 F1 H1 ⟨j, ed, h1, h2, q1⟩ t1 R1 n1 => ?_
  subst ed
  cases n1 with
  | cons n1 n2 =>
    cases n1
    cases n2
    exact ⟨j, rfl, h1, h2, q1 _ _ _ _ t1 R1.toRelH walkD_range⟩
theorem wi_range2 {wa : DA} (hg : Gl X "range") (hm : X.mg "range" = none) (ha : WA X [e, e2] wa) (hs : starEach [e, e2] X.env = [(false, eval e X.env), (false, eval e2 X.env)] := by rfl) (hs2 : starEach [e2] X.env = [(false, eval e2 X.env)] := by rfl) :
    WI X tg (.Call (.Name "range" p) [e, e2] [] pos) (iRange2 wa) := by
  refine ⟨fun _ _ _ _ h q => ha.mo _ _ _ _ (fun _ _ ⟨i, j, e, h1, q⟩ => ⟨i, j, e, h1, h _ _ _ q⟩) q, PI_imp (pi_range2 hg hm ha.pe hs hs2) fun σ H R ⟨env, io, F, st, Rl, q⟩ => ?_⟩
  refine tA_use ha.mo Rl q fun ds s1 vs io1 F1 H1 ⟨i, j, ed, h1, q1⟩ t1 R1 n1 => ?_
  subst ed
  cases n1 with
  | cons n1 n2 =>
    cases n1
    cases n2 with
    | cons n2 n3 =>
      cases n2
      cases n3
      exact ⟨i, j, rfl, h1, q1 _ _ _ _ t1 R1.toRelH walkD_range⟩
def enumD (ds : List D) : List D := ds.zipIdx.map fun p => .tup [.int (p.2 : Nat), p.1]
def zipD (ds es : List D) : List D := List.zipWith (fun x y => .tup [x, y]) ds es
theorem lay_pair {K : PySem.W.Frag} {io : List Addr} {F H : Hp} {st : Sto} {T : Addr} {o : Obj} {x y : V} {d e : D} (R : RelH K H io F st) (hT : H T = none) (ho : o.dict = none) (n1 : Den K io F x d) (n2 : Den K io F y e) :
    ∃ F3, Stp H io F (upd H T (.frz o (.tup [x, y]))) io F3 ∧ RelH K (upd H T (.frz o (.tup [x, y]))) io F3 st ∧ Den K io F3 (.ref T) (.tup [d, e]) :=
  ⟨upd F T (.frz o (.tup [x, y])), Stp.laid hT R.sub, R.laid hT, .tup (.inl ⟨o, upd_same, ho⟩) ((Stp.laid hT R.sub).denL (.cons n1 (.cons n2 .nil))) (by show 2 ≤ sizeLine; decide)⟩
theorem enumD_len (ds : List D) : (enumD ds).length = ds.length := by simp [enumD]
theorem enumD_at (ds : List D) (i : Nat) (hi : i < ds.length) : (enumD ds)[i]? = some (.tup [.int (i : Nat), ds[i]]) := by simp [enumD, hi]
section
variable {K : PySem.W.Frag} {io : List Addr} {F H : Hp} {a : Addr} {xs : List V} {ds : List D}
theorem walkD_enumL {G : Sto → Prop} (r : DenL K io F xs ds) (h : ∀ {H2 io2 F2 st2}, Stp H io F H2 io2 F2 → RelH K H2 io2 F2 st2 → G st2 → ∃ ys, SqL K H2 a ys ∧ DenL K io2 F2 ys ds) : WalkD K (IteX (SqL K) a) H io F (enumD ds) G where
  go := fun i t R g hi => by
    rw [enumD_len] at hi
    obtain ⟨ys, s, r2⟩ := h t R g
    obtain ⟨v, e, _⟩ := r2.get (List.getElem?_eq_getElem hi)
    exact ⟨ys, v, s, e⟩
  stop := fun t R g => by
    rw [enumD_len]
    obtain ⟨ys, s, r2⟩ := h t R g
    exact ⟨ys, s, r2.length⟩
  yld := fun {H2 io2 F2 st2} i x H3 t R g hi y => by
    rw [enumD_len] at hi
    obtain ⟨ys, s, r2⟩ := h t R g
    obtain ⟨v, e, n⟩ := r2.get (List.getElem?_eq_getElem hi)
    obtain ⟨T, u, o, e1, hT, ho, e2, hu⟩ := y
    subst e1
    subst e2
    have := hu ys s
    rw [e] at this
    cases this
    obtain ⟨F3, s3, R3, n3⟩ := lay_pair R hT ho (.int (i : Nat)) n
    exact ⟨F3, _, s3, R3, enumD_at ds i hi, n3⟩
theorem walkD_enumT (s0 : SqT K F a xs) (r : DenL K io F xs ds) : WalkD K (IteX (SqT K) a) H io F (enumD ds) (fun _ => True) where
  go := fun i t R _ hi => by
    rw [enumD_len] at hi
    obtain ⟨v, e, _⟩ := (t.denL r).get (List.getElem?_eq_getElem hi)
    exact ⟨xs, v, SqT_mono R.sub (SqT_mono t.fr s0), e⟩
  stop := fun t R _ => by rw [enumD_len]; exact ⟨xs, SqT_mono R.sub (SqT_mono t.fr s0), r.length⟩
  yld := fun {H2 io2 F2 st2} i x H3 t R _ hi y => by
    rw [enumD_len] at hi
    obtain ⟨v, e, n⟩ := (t.denL r).get (List.getElem?_eq_getElem hi)
    obtain ⟨T, u, o, e1, hT, ho, e2, hu⟩ := y
    subst e1
    subst e2
    have := hu xs (SqT_mono R.sub (SqT_mono t.fr s0))
    rw [e] at this
    cases this
    obtain ⟨F3, s3, R3, n3⟩ := lay_pair R hT ho (.int (i : Nat)) n
    exact ⟨F3, _, s3, R3, enumD_at ds i hi, n3⟩
end
/-- a sequence, no text -/
def seqJ (d : D) (s : Sto) (R : GK) : Prop :=
  match d with
  | .str _ => False
  | d => seqI d s R
theorem seqJ_mo {d : D} {s : Sto} {R R' : GK} (h : ∀ ds G s, R ds G s → R' ds G s) (q : seqJ d s R) : seqJ d s R' := by
  cases d with
  | str _ => exact q
  | ref n => exact seqI_mo (d := .ref n) h q
  | tup _ => exact h _ _ _ q
  | lst _ => exact h _ _ _ q
  | scr _ => exact h _ _ _ q
  | non => exact q
  | bl _ => exact q
  | int _ => exact q
  | dct _ => exact q
  | fn _ _ _ => exact q
  | exc => exact q
def iEnum (we : DE) : DI := fun env st R => we env st fun d s => seqJ d s fun ds G s => R (enumD ds) G s
theorem wi_enum {elts : List Expr} {kk : Nat} {tpos : Pos} (hg : Gl X "enumerate") (hm : X.mg "enumerate" = none) (he : WE X e we) (ha : starEach [e] X.env = (false, eval e X.env) :: starEach [] X.env := by rfl) (hs : starEach [e] X.env = [(false, eval e X.env)] := by rfl) :
    WI X (.Tuple elts kk tpos) (.Call (.Name "enumerate" p) [e] [] pos) (iEnum we) := by
  refine ⟨fun _ _ _ _ h q => he.mo _ _ _ _ (fun _ _ q => seqJ_mo (fun _ _ _ q => h _ _ _ q) q) q, PI_imp (pi_enumX hg hm (pa_cons he.pe pa_nil ha) hs) fun σ H R ⟨env, io, F, st, Rl, q⟩ => ?_⟩
  refine tE_use he.mo Rl q fun d s1 v io1 F1 H1 q1 t1 R1 n1 => ?_
  cases n1 with
  | tup s r z => exact ⟨_, _, rfl, .inr ⟨SqT_mono R1.sub s.t, q1 _ _ _ _ t1 R1.toRelH (walkD_enumT s.t r)⟩⟩
  | lst s r z => exact ⟨_, _, rfl, .inl ⟨SqL.of (R1.sub _ _ s), q1 _ _ _ _ t1 R1.toRelH (walkD_enumL r fun t R _ => ⟨_, SqL.of (R.sub _ _ (t.fr _ _ s)), t.denL r⟩)⟩⟩
  | scr s r z => exact ⟨_, _, rfl, .inl ⟨SqL_mono R1.sub s, q1 _ _ _ _ t1 R1.toRelH (walkD_enumL r fun t R _ => ⟨_, SqL_mono R.sub (SqL_mono t.fr s), t.denL r⟩)⟩⟩
  | @ref a n h =>
    obtain ⟨ds, e, q1⟩ := q1
    obtain ⟨h1, h2, vs, h3, h4⟩ := R1.cel _ _ _ e h
    refine ⟨_, vs, rfl, .inl ⟨SqL.of h3, q1 _ _ _ _ t1 R1.toRelH (walkD_enumL h4 fun t R g => ?_)⟩⟩
    obtain ⟨_, _, ws, h5, h6⟩ := R.cel _ _ _ g (t.ix _ _ h)
    exact ⟨ws, SqL.of h5, h6⟩
  | str z => exact q1.elim
  | non => exact q1.elim
  | bl _ => exact q1.elim
  | int _ => exact q1.elim
  | dct _ => exact q1.elim
  | fn => exact q1.elim
  | exc => exact q1.elim
end
end DL
namespace DL
open PySem PySem.Spec PyProof.Rows L2
variable [Bs]
section
variable {st : Sto} {d : D}
theorem rd_is {e : D} (h : rd st d = e) (h1 : ∀ ds, e ≠ .lst ds) (h2 : ∀ n, e ≠ .ref n) : d = e := by
  subst h
  exact (rd_not (fun ds q => h1 ds q) (fun n q => h2 n q)).symm
theorem rd_int {i : Int} (h : rd st d = .int i) : d = .int i := rd_is h (fun _ q => nomatch q) (fun _ q => nomatch q)
theorem rd_bl {i : Bool} (h : rd st d = .bl i) : d = .bl i := rd_is h (fun _ q => nomatch q) (fun _ q => nomatch q)
theorem rd_str {i : Str} (h : rd st d = .str i) : d = .str i := rd_is h (fun _ q => nomatch q) (fun _ q => nomatch q)
theorem rd_tup {i : List D} (h : rd st d = .tup i) : d = .tup i := rd_is h (fun _ q => nomatch q) (fun _ q => nomatch q)
theorem rd_scr {i : List D} (h : rd st d = .scr i) : d = .scr i := rd_is h (fun _ q => nomatch q) (fun _ q => nomatch q)
theorem rd_non (h : rd st d = .non) : d = .non := rd_is h (fun _ q => nomatch q) (fun _ q => nomatch q)
end
def dI (C : Int → Int → Prop) (g : Int → Int → D) : R2D := fun a b st Q => ∃ i j, a = .int i ∧ b = .int j ∧ C i j ∧ Q (g i j) st
theorem moI {C : Int → Int → Prop} {g : Int → Int → D} : MoR (dI C g) := fun _ _ _ _ _ h ⟨i, j, e1, e2, c, q⟩ => ⟨i, j, e1, e2, c, h _ _ q⟩
section
variable {K : PySem.W.Frag} {H : Hp} {io : List Addr} {F : Hp} {st : Sto} {Q : VK} {x y : V} {a b : D}
theorem kE_now {d : D} {v : V} (R : RelH K H io F st) (n : Den K io F v d) (q : kE K H io F Q d st) : Q v H := q v io F H Stp.refl R n
theorem z_I {C : Int → Int → Prop} {g : Int → Int → V} {g' : Int → Int → D} (hg : ∀ i j io F, Den K io F (g i j) (g' i j)) : Rz K (rI C g) (dI C g') where
  mo := moI
  on := fun R n1 n2 ⟨i, j, e1, e2, c, q⟩ => by
    subst e1 e2
    cases n1
    cases n2
    exact ⟨i, j, rfl, rfl, c, kE_now R (hg _ _ _ _) q⟩
theorem z_I0 {g : Int → Int → V} {g' : Int → Int → D} (hg : ∀ i j io F, Den K io F (g i j) (g' i j)) : Rz K (rI0 g) (dI (fun _ _ => True) g') where
  mo := moI
  on := fun R n1 n2 ⟨i, j, e1, e2, c, q⟩ => by
    subst e1 e2
    cases n1
    cases n2
    exact ⟨i, j, rfl, rfl, kE_now R (hg _ _ _ _) q⟩
end
section
variable {X : Cx}
abbrev T2 : Int → Int → Prop := fun _ _ => True
def dSub : R2D := dI T2 fun i j => .int (i - j)
def dMod : R2D := dI (fun _ j => 0 < j) fun i j => .int (i % j)
def CDv : Int → Int → Prop := fun _ j => 0 < j ∧ j < 2 ^ 62
def dFdiv : R2D := dI CDv fun i j => .int (i / j)
def dPow : R2D := dI CPow fun i j => .int (i ^ j.toNat)
theorem z_sub : Rz X.K (rI0 fun i j => .int (i - j)) dSub := z_I0 fun _ _ _ _ => .int _
theorem z_mod : Rz X.K (rI (fun _ j => 0 < j) fun i j => .int (i % j)) dMod := z_I fun _ _ _ _ => .int _
theorem z_pow : Rz X.K (rI CPow fun i j => .int (i ^ j.toNat)) dPow := z_I fun _ _ _ _ => .int _
theorem cdv {i j : Int} (h : CDv i j) : CDivW i j := by
  refine ⟨h.1, ?_⟩
  have h2 : j.natAbs < 2 ^ 62 := by have := h.2; have := h.1; omega
  have : j.natAbs.log2 < 62 := by
    rw [Nat.log2_lt (by have := h.1; omega)]
    exact h2
  omega
theorem z_fdiv : Rz X.K (rI CDivW fun i j => .int (i / j)) dFdiv where
  mo := moI
  on := fun R n1 n2 ⟨i, j, e1, e2, c, q⟩ => by
    subst e1 e2
    cases n1
    cases n2
    exact ⟨i, j, rfl, rfl, cdv c, kE_now R (.int _) q⟩
end
def dAdd : R2D := fun a b st Q => match rd st a, rd st b with
  | .int i, .int j => Q (.int (i + j)) st
  | .tup x, .tup y => x.length + y.length ≤ sizeLine ∧ Q (.tup (x ++ y)) st
  | .lst x, .lst y => x.length + y.length ≤ sizeLine ∧ Q (.lst (x ++ y)) st
  | .str x, .str y => x.length + y.length ≤ sizeLine ∧ Q (.str (x ++ y)) st
  | _, _ => False
def rAddD (K : PySem.W.Frag) : R2 := fun x y H Q => rI0 (fun i j => .int (i + j)) x y H Q ∨ rCatX K x y H Q ∨ rCat x y H Q ∨ (∃ i j, x = .str i ∧ y = .str j ∧ i.length + j.length ≤ sizeLine ∧ Q (.str (i ++ j)) H)
theorem op_addD {X : Cx} : OpR X (binaryOp .Add) (rAddD X.K) := op_add.or (op_catX.or (op_cat.or op_add_str))
theorem z_add {X : Cx} : Rz X.K (rAddD X.K) dAdd where
  mo := fun a b s Q Q' h q => by
    unfold dAdd at q ⊢
    split at q
    · exact h _ _ q
    · exact ⟨q.1, h _ _ q.2⟩
    · exact ⟨q.1, h _ _ q.2⟩
    · exact ⟨q.1, h _ _ q.2⟩
    · exact q
  on := fun {H io F st x y a b Q} R n1 n2 q => by
    unfold dAdd at q
    split at q
    · rename_i i j e1 e2
      cases rd_int e1
      cases rd_int e2
      cases n1
      cases n2
      exact .inl ⟨i, j, rfl, rfl, kE_now R (.int _) q⟩
    · rename_i i j e1 e2
      cases rd_tup e1
      cases rd_tup e2
      cases n1 with
      | tup s1 r1 z1 =>
        cases n2 with
        | tup s2 r2 z2 =>
          refine .inr (.inl ⟨_, _, _, _, rfl, rfl, SqT_mono R.sub s1.t, SqT_mono R.sub s2.t, by rw [r1.length, r2.length]; exact q.1, fun e => ?_, fun h1 e => ?_, fun _ _ => ?_⟩)
          · subst e
            cases r1
            exact kE_now R (.tup s2 r2 z2) q.2
          · subst e
            cases r2
            rw [List.append_nil] at q
            exact kE_now R (.tup s1 r1 z1) q.2
          · exact lay_tup R (r1.append r2) (by rw [List.length_append]; exact q.1) q.2
    · rename_i i j e1 e2
      obtain ⟨p1, xs, rfl, h1, r1, z1⟩ := rd_lst R n1 e1
      obtain ⟨p2, ys, rfl, h2, r2, z2⟩ := rd_lst R n2 e2
      exact .inr (.inr (.inl ⟨_, _, _, _, rfl, rfl, h1, h2, by rw [r1.length, r2.length]; exact q.1, lay_lst R (r1.append r2) (by rw [List.length_append]; exact q.1) q.2⟩))
    · rename_i i j e1 e2
      cases rd_str e1
      cases rd_str e2
      cases n1
      cases n2
      exact .inr (.inr (.inr ⟨i, j, rfl, rfl, q.1, kE_now R (.str _) q.2⟩))
    · exact q.elim
/-- += of ints -/
theorem z_iadd {X : Cx} : Rz X.K (ipI fun i j => i + j) (dI T2 fun i j => .int (i + j)) where
  mo := moI
  on := fun R n1 n2 ⟨i, j, e1, e2, c, q⟩ => by
    subst e1 e2
    cases n1
    cases n2
    exact ⟨i, j, rfl, rfl, kE_now R (.int _) q⟩
def kPy : Key → PyData
  | .inl i => .int i
  | .inr x => .str x
mutual
def D.py : D → PyData
  | .non => .none
  | .bl b => .bool b
  | .int i => .int i
  | .str s => .str s
  | .tup ds => .tuple (D.pyL ds)
  | .lst ds => .list (D.pyL ds)
  | .scr ds => .list (D.pyL ds)
  | .dct kvs => .dict (kvs.map fun p => (kPy p.1, kPy p.2))
  | .ref _ => .none
  | .fn _ _ _ => .none
  | .exc _ _ _ => .none
def D.pyL : List D → List PyData
  | [] => []
  | d :: r => d.py :: D.pyL r
end
mutual
/-- may be compared: no dict, no cell within, texts of right signs -/
def D.ok : D → Bool
  | .non => true
  | .bl _ => true
  | .int _ => true
  | .str s => PyData.canLay0 (.str s)
  | .tup ds => D.okL ds
  | .lst ds => D.okL ds
  | .scr _ => false
  | .dct _ => false
  | .ref _ => false
  | .fn _ _ _ => false
  | .exc _ _ _ => false
def D.okL : List D → Bool
  | [] => true
  | d :: r => d.ok && D.okL r
end
mutual
def D.dep : D → Nat
  | .tup ds => D.depL ds + 1
  | .lst ds => D.depL ds + 1
  | .scr ds => D.depL ds + 1
  | .non => 0
  | .bl _ => 0
  | .int _ => 0
  | .str _ => 0
  | .dct kvs => (PyData.dict (kvs.map fun p => (kPy p.1, kPy p.2))).depth
  | .ref _ => 0
  | .fn _ _ _ => 0
  | .exc _ _ _ => 0
def D.depL : List D → Nat
  | [] => 0
  | d :: r => max d.dep (D.depL r)
end
mutual
/-- Python's == -/
def D.eqv : D → D → Bool
  | .non, .non => true
  | .bl a, .bl b => a == b
  | .bl a, .int j => (if a then 1 else 0) == j
  | .int i, .bl b => i == (if b then 1 else 0)
  | .int i, .int j => i == j
  | .str x, .str y => x == y
  | .tup xs, .tup ys => D.eqvL xs ys
  | .lst xs, .lst ys => D.eqvL xs ys
  | _, _ => false
def D.eqvL : List D → List D → Bool
  | [], [] => true
  | x :: xs, y :: ys => D.eqv x y && D.eqvL xs ys
  | _, _ => false
end
mutual
theorem py_ok : ∀ d : D, d.ok = true → d.py.canLay0 = true
  | .non, _ => rfl
  | .bl _, _ => rfl
  | .int _, _ => rfl
  | .str s, h => h
  | .tup ds, h => by simp only [D.py, PyData.canLay0]; exact pyL_ok ds (by simpa only [D.ok] using h)
  | .lst ds, h => by simp only [D.py, PyData.canLay0]; exact pyL_ok ds (by simpa only [D.ok] using h)
  | .scr _, h => by simp [D.ok] at h
  | .dct _, h => by simp [D.ok] at h
  | .ref _, h => by simp [D.ok] at h
theorem pyL_ok : ∀ ds : List D, D.okL ds = true → PyData.canLayAll0 (D.pyL ds) = true
  | [], _ => rfl
  | d :: r, h => by
    simp only [D.okL, Bool.and_eq_true] at h
    simp only [D.pyL, PyData.canLayAll0, Bool.and_eq_true]
    exact ⟨py_ok d h.1, pyL_ok r h.2⟩
end
mutual
theorem py_dep : ∀ d : D, d.py.depth = d.dep
  | .non => rfl
  | .bl _ => rfl
  | .int _ => rfl
  | .str _ => rfl
  | .dct _ => rfl
  | .ref _ => rfl
  | .fn _ _ _ => rfl
  | .exc _ _ _ => rfl
  | .tup ds => by simp only [D.py, PyData.depth, D.dep]; rw [pyL_dep ds]
  | .lst ds => by simp only [D.py, PyData.depth, D.dep]; rw [pyL_dep ds]
  | .scr ds => by simp only [D.py, PyData.depth, D.dep]; rw [pyL_dep ds]
theorem pyL_dep : ∀ ds : List D, PyData.depthAll (D.pyL ds) = D.depL ds
  | [] => rfl
  | d :: r => by simp only [D.pyL, PyData.depthAll, D.depL]; rw [py_dep d, pyL_dep r]
end
mutual
theorem py_eqv : ∀ d e : D, d.ok = true → e.ok = true → PyData.eqv d.py e.py = D.eqv d e
  | .tup xs, .tup ys, h1, h2 => by
    simp only [D.py, PyData.eqv, D.eqv]
    exact pyL_eqv xs ys (by simpa only [D.ok] using h1) (by simpa only [D.ok] using h2)
  | .lst xs, .lst ys, h1, h2 => by
    simp only [D.py, PyData.eqv, D.eqv]
    exact pyL_eqv xs ys (by simpa only [D.ok] using h1) (by simpa only [D.ok] using h2)
  | .scr _, _, h, _ => by simp [D.ok] at h
  | _, .scr _, _, h => by simp [D.ok] at h
  | .dct _, _, h, _ => by simp [D.ok] at h
  | .ref _, _, h, _ => by simp [D.ok] at h
  | .fn _ _ _, _, h, _ => by simp [D.ok] at h
  | .exc _ _ _, _, h, _ => by simp [D.ok] at h
  | _, .dct _, _, h => by simp [D.ok] at h
  | _, .ref _, _, h => by simp [D.ok] at h
  | _, .fn _ _ _, _, h => by simp [D.ok] at h
  | _, .exc _ _ _, _, h => by simp [D.ok] at h
  | .non, .non, _, _ => rfl
  | .non, .bl _, _, _ => rfl
  | .non, .int _, _, _ => rfl
  | .non, .str _, _, _ => rfl
  | .non, .tup _, _, _ => by simp only [D.py, PyData.eqv, D.eqv]
  | .non, .lst _, _, _ => by simp only [D.py, PyData.eqv, D.eqv]
  | .bl _, .non, _, _ => rfl
  | .bl _, .bl _, _, _ => rfl
  | .bl _, .int _, _, _ => rfl
  | .bl _, .str _, _, _ => rfl
  | .bl _, .tup _, _, _ => by simp only [D.py, PyData.eqv, D.eqv]
  | .bl _, .lst _, _, _ => by simp only [D.py, PyData.eqv, D.eqv]
  | .int _, .non, _, _ => rfl
  | .int _, .bl _, _, _ => rfl
  | .int _, .int _, _, _ => rfl
  | .int _, .str _, _, _ => rfl
  | .int _, .tup _, _, _ => by simp only [D.py, PyData.eqv, D.eqv]
  | .int _, .lst _, _, _ => by simp only [D.py, PyData.eqv, D.eqv]
  | .str _, .non, _, _ => rfl
  | .str _, .bl _, _, _ => rfl
  | .str _, .int _, _, _ => rfl
  | .str _, .str _, _, _ => by simp only [D.py, PyData.eqv, D.eqv]
  | .str _, .tup _, _, _ => by simp only [D.py, PyData.eqv, D.eqv]
  | .str _, .lst _, _, _ => by simp only [D.py, PyData.eqv, D.eqv]
  | .tup _, .non, _, _ => by simp only [D.py, PyData.eqv, D.eqv]
  | .tup _, .bl _, _, _ => by simp only [D.py, PyData.eqv, D.eqv]
  | .tup _, .int _, _, _ => by simp only [D.py, PyData.eqv, D.eqv]
  | .tup _, .str _, _, _ => by simp only [D.py, PyData.eqv, D.eqv]
  | .tup _, .lst _, _, _ => by simp only [D.py, PyData.eqv, D.eqv]
  | .lst _, .non, _, _ => by simp only [D.py, PyData.eqv, D.eqv]
  | .lst _, .bl _, _, _ => by simp only [D.py, PyData.eqv, D.eqv]
  | .lst _, .int _, _, _ => by simp only [D.py, PyData.eqv, D.eqv]
  | .lst _, .str _, _, _ => by simp only [D.py, PyData.eqv, D.eqv]
  | .lst _, .tup _, _, _ => by simp only [D.py, PyData.eqv, D.eqv]
theorem pyL_eqv : ∀ ds es : List D, D.okL ds = true → D.okL es = true → PyData.eqvAll (D.pyL ds) (D.pyL es) = D.eqvL ds es
  | [], [], _, _ => by simp only [D.pyL, PyData.eqvAll, D.eqvL]
  | [], _ :: _, _, _ => by simp only [D.pyL, PyData.eqvAll, D.eqvL]
  | _ :: _, [], _, _ => by simp only [D.pyL, PyData.eqvAll, D.eqvL]
  | d :: r, e :: t, h1, h2 => by
    simp only [D.okL, Bool.and_eq_true] at h1 h2
    simp only [D.pyL, PyData.eqvAll, D.eqvL]
    rw [py_eqv d e h1.1 h2.1, pyL_eqv r t h1.2 h2.2]
end
end DL
namespace DL
open PySem PySem.Spec PyProof.Rows L2
variable [Bs]
section
variable {K : PySem.W.Frag} {io : List Addr} {F H : Hp} {st : Sto}
mutual
theorem den_dp (hs : ∀ a o, F a = some o → H a = some o) : ∀ {v : V} {d : D}, Den K io F v d → d.ok = true → Dp K H v d.py
  | _, _, .non, _ => by simp only [D.py]; exact .non
  | _, _, .bl b, _ => by simp only [D.py]; exact .bl b
  | _, _, .int i, _ => by simp only [D.py]; exact .int i
  | _, _, .str x, _ => by simp only [D.py]; exact .str x
  | _, _, .tup s r _, h => by simp only [D.py]; exact .tup (SqT_mono hs s.t) (den_dpL hs r (by simpa only [D.ok] using h))
  | _, _, .lst s r _, h => by simp only [D.py]; exact .lst (SqL.of (hs _ _ s)) (den_dpL hs r (by simpa only [D.ok] using h))
  | _, _, .scr s r _, h => by simp [D.ok] at h
  | _, _, .dct _, h => by simp [D.ok] at h
  | _, _, .ref _, h => by simp [D.ok] at h
  | _, _, .fn _ _, h => by simp [D.ok] at h
theorem den_dpL (hs : ∀ a o, F a = some o → H a = some o) : ∀ {vs : List V} {ds : List D}, DenL K io F vs ds → D.okL ds = true → DpAll K H vs (D.pyL ds)
  | _, _, .nil, _ => by simp only [D.pyL]; exact .nil
  | _, _, .cons a b, h => by
    simp only [D.okL, Bool.and_eq_true] at h
    simp only [D.pyL]
    exact .cons (den_dp hs a h.1) (den_dpL hs b h.2)
end
theorem rd_dp (R : RelH K H io F st) {v : V} {d : D} (n : Den K io F v d) (h : (rd st d).ok = true) : Dp K H v (rd st d).py := by
  cases e : rd st d with
  | lst ds =>
    obtain ⟨a, xs, rfl, h1, h2, h3⟩ := rd_lst R n e
    rw [e] at h
    simp only [D.py]
    exact .lst (SqL.of h1) (den_dpL R.sub h2 (by simpa only [D.ok] using h))
  | ref k => rw [e] at h; simp [D.ok] at h
  | non => cases rd_non e; exact den_dp R.sub n (by rw [e] at h; exact h)
  | bl b => cases rd_bl e; exact den_dp R.sub n (by rw [e] at h; exact h)
  | int i => cases rd_int e; exact den_dp R.sub n (by rw [e] at h; exact h)
  | str s => cases rd_str e; exact den_dp R.sub n (by rw [e] at h; exact h)
  | tup ds => cases rd_tup e; exact den_dp R.sub n (by rw [e] at h; exact h)
  | scr ds => rw [e] at h; simp [D.ok] at h
  | dct ds => rw [e] at h; simp [D.ok] at h
  | fn => rw [e] at h; simp [D.ok] at h
  | exc => rw [e] at h; simp [D.ok] at h
end
def dEqO (f : Bool → Bool) : R2D := fun a b st Q => (rd st a).ok = true ∧ (rd st b).ok = true ∧ min (rd st a).dep (rd st b).dep ≤ 60 ∧ Q (.bl (f ((rd st a).eqv (rd st b)))) st
/-- == : of two texts, or of two data -/
def dEqB (f : Bool → Bool) : R2D := fun a b st Q => (∃ x y, a = .str x ∧ b = .str y ∧ Q (.bl (f (x == y))) st) ∨ dEqO f a b st Q
abbrev dEq : R2D := dEqB fun b => b
abbrev dNe : R2D := dEqB fun b => !b
def rEqB (K : PySem.W.Frag) (f : Bool → Bool) : R2 := fun x y H Q => ∃ d e, Dp K H x d ∧ Dp K H y e ∧ d.canLay0 = true ∧ e.canLay0 = true ∧ min d.depth e.depth ≤ 60 ∧ Q (.bl (f (PyData.eqv d e))) H
theorem op_eqB {X : Cx} (hu : X.A.units + 64 < cLine) : OpR X (compareOp .Eq) (rEqB X.K fun b => b) := by
  intro pins s σ H x y v u Q I rx ry h
  obtain ⟨d, e, hd, he, sd, se, z, q⟩ := h
  obtain ⟨as, r1⟩ := Dp.reads I d x v hd rx
  obtain ⟨bs, r2⟩ := Dp.reads I e y u he ry
  exact SeqAt.compareEq_reads r1 r2 sd se (by omega) ⟨.bl _, H, I, rfl, q⟩
theorem op_neB {X : Cx} (hu : X.A.units + 64 < cLine) : OpR X (compareOp .NotEq) (rEqB X.K fun b => !b) := by
  intro pins s σ H x y v u Q I rx ry h
  obtain ⟨d, e, hd, he, sd, se, z, q⟩ := h
  obtain ⟨as, r1⟩ := Dp.reads I d x v hd rx
  obtain ⟨bs, r2⟩ := Dp.reads I e y u he ry
  exact SeqAt.compareNe_reads r1 r2 sd se (by omega) ⟨.bl _, H, I, rfl, q⟩
theorem z_eqO {K : PySem.W.Frag} {f : Bool → Bool} : Rz K (rEqB K f) (dEqO f) where
  mo := fun a b s Q Q' h ⟨h1, h2, h3, q⟩ => ⟨h1, h2, h3, h _ _ q⟩
  on := fun {H io F st x y a b Q} R n1 n2 ⟨h1, h2, h3, q⟩ => by
    refine ⟨_, _, rd_dp R n1 h1, rd_dp R n2 h2, py_ok _ h1, py_ok _ h2, by rw [py_dep, py_dep]; exact h3, ?_⟩
    rw [py_eqv _ _ h1 h2]
    exact kE_now R (.bl _) q
def rEqS (f : Bool → Bool) : R2 := fun x y H Q => scal x y = true ∧ Q (.bl (f (decide (x = y)))) H
theorem op_eqS {X : Cx} : OpR X (compareOp .Eq) (rEqS fun b => b) := op_eq
theorem op_neS {X : Cx} : OpR X (compareOp .NotEq) (rEqS fun b => !b) := op_ne
theorem op_eqC {X : Cx} (hu : X.A.units + 64 < cLine) : OpR X (compareOp .Eq) (fun x y H Q => rEqS (fun b => b) x y H Q ∨ rEqB X.K (fun b => b) x y H Q) := op_eqS.or (op_eqB hu)
theorem op_neC {X : Cx} (hu : X.A.units + 64 < cLine) : OpR X (compareOp .NotEq) (fun x y H Q => rEqS (fun b => !b) x y H Q ∨ rEqB X.K (fun b => !b) x y H Q) := op_neS.or (op_neB hu)
theorem z_eqB {K : PySem.W.Frag} {f : Bool → Bool} : Rz K (fun x y H Q => rEqS f x y H Q ∨ rEqB K f x y H Q) (dEqB f) where
  mo := fun a b s Q Q' h q => by
    rcases q with ⟨x, y, e1, e2, q⟩ | q
    · exact .inl ⟨x, y, e1, e2, h _ _ q⟩
    · exact .inr (z_eqO (K := K).mo _ _ _ _ _ h q)
  on := fun {H io F st x y a b Q} R n1 n2 q => by
    rcases q with ⟨x, y, rfl, rfl, q⟩ | q
    · cases n1
      cases n2
      refine .inl ⟨rfl, ?_⟩
      rw [dec_str]
      exact kE_now R (.bl _) q
    · exact .inr (z_eqO.on R n1 n2 q)
def dInB (f : Bool → Bool) : R2D := fun a b st Q => ∃ ds, (rd st b = .lst ds ∨ rd st b = .tup ds) ∧ (rd st a).ok = true ∧ D.okL ds = true ∧ min (D.depL ds) (rd st a).dep ≤ 60 ∧ Q (.bl (f (ds.any fun z => z.eqv (rd st a)))) st
abbrev dIn : R2D := dInB fun b => b
abbrev dNotIn : R2D := dInB fun b => !b
def rInB (K : PySem.W.Frag) (f : Bool → Bool) : R2 := fun x y H Q => ∃ d ds, Dp K H x d ∧ (Dp K H y (.list ds) ∨ Dp K H y (.tuple ds)) ∧ d.canLay0 = true ∧ PyData.canLayAll0 ds = true ∧ min (PyData.depthAll ds) d.depth ≤ 60 ∧ Q (.bl (f (ds.any fun z => PyData.eqv z d))) H
theorem op_inB {X : Cx} (hu : X.A.units + 64 < cLine) : OpR X (compareOp .In) (rInB X.K fun b => b) := by
  intro pins s σ H x y v u Q I rx ry h
  obtain ⟨d, ds, hd, he, sd, se, z, q⟩ := h
  obtain ⟨as, r1⟩ := Dp.reads I d x v hd rx
  rcases he with he | he
  · obtain ⟨bs, r2⟩ := Dp.reads I _ y u he ry
    exact SeqAt.in_list_reads r2 r1 se sd (by omega) ⟨.bl _, H, I, rfl, q⟩
  · obtain ⟨bs, r2⟩ := Dp.reads I _ y u he ry
    exact SeqAt.in_tuple_reads r2 r1 se sd (by omega) ⟨.bl _, H, I, rfl, q⟩
theorem op_notInB {X : Cx} (hu : X.A.units + 64 < cLine) : OpR X (compareOp .NotIn) (rInB X.K fun b => !b) := by
  intro pins s σ H x y v u Q I rx ry h
  obtain ⟨d, ds, hd, he, sd, se, z, q⟩ := h
  obtain ⟨as, r1⟩ := Dp.reads I d x v hd rx
  rcases he with he | he
  · obtain ⟨bs, r2⟩ := Dp.reads I _ y u he ry
    exact SeqAt.notIn_list_reads r2 r1 se sd (by omega) ⟨.bl _, H, I, rfl, q⟩
  · obtain ⟨bs, r2⟩ := Dp.reads I _ y u he ry
    exact SeqAt.notIn_tuple_reads r2 r1 se sd (by omega) ⟨.bl _, H, I, rfl, q⟩
theorem any_py {d : D} (h : d.ok = true) : ∀ ds : List D, D.okL ds = true → (D.pyL ds).any (fun z => PyData.eqv z d.py) = ds.any fun z => z.eqv d
  | [], _ => rfl
  | e :: r, h2 => by
    simp only [D.okL, Bool.and_eq_true] at h2
    simp only [D.pyL, List.any_cons]
    rw [py_eqv e d h2.1 h, any_py h r h2.2]
theorem z_inB {K : PySem.W.Frag} {f : Bool → Bool} : Rz K (rInB K f) (dInB f) where
  mo := fun a b s Q Q' h ⟨ds, h1, h2, h3, h4, q⟩ => ⟨ds, h1, h2, h3, h4, h _ _ q⟩
  on := fun {H io F st x y a b Q} R n1 n2 ⟨ds, h1, h2, h3, h4, q⟩ => by
    refine ⟨_, D.pyL ds, rd_dp R n1 h2, ?_, py_ok _ h2, pyL_ok ds h3, by rw [pyL_dep, py_dep]; exact h4, ?_⟩
    · rcases h1 with e | e
      · have := rd_dp R n2 (by rw [e]; simpa only [D.ok] using h3)
        rw [e] at this
        exact .inl (by simpa only [D.py] using this)
      · have := rd_dp R n2 (by rw [e]; simpa only [D.ok] using h3)
        rw [e] at this
        exact .inr (by simpa only [D.py] using this)
    · rw [any_py h2 ds h3]
      exact kE_now R (.bl _) q
def D.isNon : D → Bool
  | .non => true
  | _ => false
def dIsN (f : Bool → Bool) : R2D := fun a b st Q => b = .non ∧ Q (.bl (f a.isNon)) st
theorem isNon_den {K : PySem.W.Frag} {io : List Addr} {F : Hp} {v : V} {d : D} (n : Den K io F v d) : decide (v = .non) = d.isNon := by
  cases n <;> first | rfl | exact decide_eq_false (fun h => nomatch h)
theorem z_isN {K : PySem.W.Frag} {f : Bool → Bool} : Rz K (fun x y H Q => y = .non ∧ Q (.bl (f (decide (x = .non)))) H) (dIsN f) where
  mo := fun a b s Q Q' h ⟨e, q⟩ => ⟨e, h _ _ q⟩
  on := fun R n1 n2 ⟨e, q⟩ => by
    subst e
    cases n2
    rw [isNon_den n1]
    exact ⟨rfl, kE_now R (.bl _) q⟩
end DL
namespace DL
open PySem PySem.Spec PyProof.Rows L2
variable [Bs]
def dIsBl (f : Bool → Bool) : R2D := fun a b st Q => ∃ x c, a = .bl x ∧ b = .bl c ∧ Q (.bl (f (decide (x = c)))) st
theorem z_isBl {K : PySem.W.Frag} {f : Bool → Bool} : Rz K (fun x y H Q => ∃ a b : Bool, x = .bl a ∧ y = .bl b ∧ Q (.bl (f (decide (a = b)))) H) (dIsBl f) where
  mo := fun a b s Q Q' h ⟨x, c, e1, e2, q⟩ => ⟨x, c, e1, e2, h _ _ q⟩
  on := fun R n1 n2 ⟨x, c, e1, e2, q⟩ => by
    subst e1 e2
    cases n1
    cases n2
    exact ⟨x, c, rfl, rfl, kE_now R (.bl _) q⟩
def D.ty : D → String
  | .non => "NoneType"
  | .bl _ => "bool"
  | .int _ => "int"
  | .str _ => "str"
  | .tup _ => "tuple"
  | .lst _ => "list"
  | .scr _ => "list"
  | .dct _ => "dict"
  | .ref _ => ""
  | .fn _ _ _ => ""
  | .exc _ _ _ => ""
def D.noRef : D → Prop
  | .ref _ => False
  | .fn _ _ _ => False
  | .exc _ _ _ => False
  | _ => True
def D.isa (T : String) : D → Bool
  | .bl _ => T == "bool" || T == "int"
  | d => d.ty == T
theorem den_ty {K : PySem.W.Frag} {H : Hp} {io : List Addr} {F : Hp} {st : Sto} {v : V} {d : D} (R : RelH K H io F st) (n : Den K io F v d) (h : d.noRef) : TyX K H v (.type d.ty) := by
  cases n with
  | non => exact .base .non
  | bl b => exact .base (.bl b)
  | int i => exact .base (.int i)
  | str s => exact .base (.str s)
  | tup s r z =>
    rcases s.t with (s | ⟨o, s⟩) | ⟨o, its, k, s, c, _⟩
    · exact .base (.tup (R.sub _ _ s))
    · exact .fTuple (R.sub _ _ s)
    · exact .kTuple s c
  | lst s r z => exact .base (.lst (R.sub _ _ s))
  | scr s r z =>
    rcases s with (s | ⟨o, s⟩) | ⟨o, its, k, s, c, _⟩
    · exact .base (.lst (R.sub _ _ s))
    · exact .base (.frz (R.sub _ _ s))
    · exact .kList s c
  | dct s => exact .base (.dK (R.sub _ _ s))
  | ref _ => exact h.elim
  | fn _ _ => exact h.elim
  | exc => exact h.elim
def wIsi (T : String) (we : DE) : DE := fun env st Q => we env st fun d s => d.noRef ∧ Q (.bl (d.isa T)) s
def TOk (T : String) : Prop := ∀ d : D, d.noRef → kitB d.ty T = some (d.isa T)
theorem tok_int : TOk "int" := fun d h => by cases d <;> first | exact h.elim | (dsimp only [D.ty, D.isa]; decide +kernel)
theorem tok_bool : TOk "bool" := fun d h => by cases d <;> first | exact h.elim | (dsimp only [D.ty, D.isa]; decide +kernel)
theorem tok_tuple : TOk "tuple" := fun d h => by cases d <;> first | exact h.elim | (dsimp only [D.ty, D.isa]; decide +kernel)
section
variable {X : Cx} {pos p p2 : Pos} {e : Expr} {we : DE} {x : Str}
theorem we_isi {T : String} (hT : TOk T) (hg : Gl X "isinstance") (hm : X.mg "isinstance" = none) (hg2 : Gl X x) (hm2 : X.mg x = none) (hv2 : bootBuiltins x = some (.type T)) (he : WE X e we) (hv : bootBuiltins "isinstance" = some (.builtin "isinstance") := by decide +kernel)
    (hn2 : x ≠ "__name__" := by decide) (hd2 : (x == ("__debug__" : Str)) = false := by decide)
    (s1 : starEach [e, .Name x p2] X.env = (false, eval e X.env) :: starEach [.Name x p2] X.env := by rfl) (s2 : starEach [.Name x p2] X.env = (false, eval (.Name x p2) X.env) :: starEach [] X.env := by rfl)
    (hpl : (backTo pos (starEach [.Name x p2] X.env)).any (·.1) = false := by rfl) : WE X (.Call (.Name "isinstance" p) [e, .Name x p2] [] pos) (wIsi T we) := by
  refine ⟨fun _ _ _ _ h q => he.mo _ _ _ _ (fun _ _ ⟨z, q⟩ => ⟨z, h _ _ q⟩) q, PE_imp (pe_callB (x := "isinstance") call_isi hg hm hv (pa_cons he.pe (pa_cons (pe_bltn (v := .ty T) hg2 hm2 hv2 rfl hn2 hd2) pa_nil s2) s1) (by decide) (by decide) s1 hpl) fun σ H Q ⟨env, io, F, st, R, q⟩ => ?_⟩
  refine tE_use he.mo R q fun d s1 v io1 F1 H1 ⟨z, q1⟩ t1 R1 n1 => ?_
  exact ⟨v, .ty T, _, _, _, rfl, .ty T, den_ty R1.toRelH n1 z, kit_ty (hT d z), kE_at q1 t1 R1.toRelH (.bl _)⟩
end
theorem CallR.or {X : Cx} {f : Value} {r r' : List V → Hp → VK → Prop} (h : CallR X f r) (h' : CallR X f r') : CallR X f (fun xs H Q => r xs H Q ∨ r' xs H Q) := by
  intro pins s σ H vs us Q I rv q
  rcases q with q | q
  · exact h pins s σ H vs us Q I rv q
  · exact h' pins s σ H vs us Q I rv q
def lenD (d : D) : Option Nat := match d with
  | .tup ds => some ds.length
  | .lst ds => some ds.length
  | .scr ds => some ds.length
  | .str z => if z.length ≤ sizeLine then some z.length else none
  | _ => none
def bLen : RLD := fun ds st Q => ∃ d n, ds = [d] ∧ lenD (rd st d) = some n ∧ Q (.int (n : Nat)) st
section
variable {K : PySem.W.Frag} {H : Hp} {io : List Addr} {F : Hp} {st : Sto} {Q : VK} {v : V} {d : D}
theorem DenL.one {vs : List V} (n : DenL K io F vs [d]) : ∃ v, vs = [v] ∧ Den K io F v d := by
  cases n with
  | cons a b => cases b; exact ⟨_, rfl, a⟩
theorem DenL.two {vs : List V} {e : D} (n : DenL K io F vs [d, e]) : ∃ v w, vs = [v, w] ∧ Den K io F v d ∧ Den K io F w e := by
  cases n with
  | cons a b =>
    cases b with
    | cons b c => cases c; exact ⟨_, _, rfl, a, b⟩
end
theorem z_len {X : Cx} : RzL X.K (fun xs H Q => (∃ p ys, xs = [.ref p] ∧ (SqL X.K H p ys ∨ SqT X.K H p ys) ∧ Q (.int ys.length) H) ∨ ∃ z, xs = [.str z] ∧ z.length ≤ sizeLine ∧ Q (.int z.length) H) bLen where
  mo := fun ds s Q Q' h ⟨d, n, e1, e2, q⟩ => ⟨d, n, e1, e2, h _ _ q⟩
  on := fun {H io F st vs ds Q} R nl ⟨d, n, e1, e2, q⟩ => by
    subst e1
    obtain ⟨v, rfl, n1⟩ := nl.one
    cases e : rd st d with
    | lst es =>
      obtain ⟨a, xs, rfl, h1, h2, h3⟩ := rd_lst R n1 e
      rw [e] at e2
      cases e2
      refine .inl ⟨a, xs, rfl, .inl (SqL.of h1), ?_⟩
      rw [h2.length]
      exact kE_now R (.int _) q
    | tup es =>
      rw [e] at e2
      cases e2
      cases rd_tup e
      cases n1 with
      | tup s r z =>
        refine .inl ⟨_, _, rfl, .inr (SqT_mono R.sub s.t), ?_⟩
        rw [r.length]
        exact kE_now R (.int _) q
    | scr es =>
      rw [e] at e2
      cases e2
      cases rd_scr e
      cases n1 with
      | scr s r z =>
        refine .inl ⟨_, _, rfl, .inl (SqL_mono R.sub s), ?_⟩
        rw [r.length]
        exact kE_now R (.int _) q
    | str z =>
      rw [e] at e2
      cases rd_str e
      cases n1
      unfold lenD at e2
      by_cases hz : z.length ≤ sizeLine
      · simp only [hz, if_true] at e2
        cases e2
        exact .inr ⟨z, rfl, hz, kE_now R (.int _) q⟩
      · simp only [hz, if_false] at e2
        cases e2
    | non => rw [e] at e2; cases e2
    | bl _ => rw [e] at e2; cases e2
    | int _ => rw [e] at e2; cases e2
    | dct _ => rw [e] at e2; cases e2
    | fn => rw [e] at e2; cases e2
    | exc => rw [e] at e2; cases e2
    | ref _ => rw [e] at e2; cases e2
def bAbs : RLD := fun ds st Q => ∃ i, ds = [.int i] ∧ Q (.int (if i < 0 then -i else i)) st
theorem z_abs {K : PySem.W.Frag} : RzL K (fun xs H Q => ∃ i, xs = [.int i] ∧ Q (.int (if i < 0 then -i else i)) H) bAbs where
  mo := fun ds s Q Q' h ⟨i, e, q⟩ => ⟨i, e, h _ _ q⟩
  on := fun R nl ⟨i, e, q⟩ => by
    subst e
    obtain ⟨v, rfl, n⟩ := nl.one
    cases n
    exact ⟨i, rfl, kE_now R (.int _) q⟩
def bMax2 : RLD := fun ds st Q => ∃ i j, ds = [.int i, .int j] ∧ Q (.int (if j > i then j else i)) st
def bMin2 : RLD := fun ds st Q => ∃ i j, ds = [.int i, .int j] ∧ Q (.int (if j < i then j else i)) st
theorem z_max2 {K : PySem.W.Frag} : RzL K (fun xs H Q => ∃ i j, xs = [.int i, .int j] ∧ Q (.int (if j > i then j else i)) H) bMax2 where
  mo := fun ds s Q Q' h ⟨i, j, e, q⟩ => ⟨i, j, e, h _ _ q⟩
  on := fun R nl ⟨i, j, e, q⟩ => by
    subst e
    obtain ⟨v, w, rfl, n, m⟩ := nl.two
    cases n
    cases m
    exact ⟨i, j, rfl, kE_now R (.int _) q⟩
def bInt : RLD := fun ds st Q => ∃ d, ds = [d] ∧ match d with
  | .int i => Q (.int i) st
  | .bl b => Q (.int (if b then 1 else 0)) st
  | _ => False
theorem z_int {K : PySem.W.Frag} : RzL K (fun xs H Q => (∃ i, xs = [.int i] ∧ Q (.int i) H) ∨ ∃ k, xs = [.bl k] ∧ Q (.int (if k then 1 else 0)) H) bInt where
  mo := fun ds s Q Q' h ⟨d, e, q⟩ => ⟨d, e, by cases d <;> first | exact h _ _ q | exact q⟩
  on := fun R nl ⟨d, e, q⟩ => by
    subst e
    obtain ⟨v, rfl, n⟩ := nl.one
    cases n <;> first
      | exact False.elim q
      | exact .inl ⟨_, rfl, kE_now R (.int _) q⟩
      | exact .inr ⟨_, rfl, kE_now R (.int _) q⟩
def D.ints : List D → Option (List Int)
  | [] => some []
  | .int i :: r => (D.ints r).map (i :: ·)
  | _ => none
def D.bools : List D → Option (List Bool)
  | [] => some []
  | .bl i :: r => (D.bools r).map (i :: ·)
  | _ => none
theorem ints_map : ∀ ns : List Int, D.ints (ns.map .int) = some ns
  | [] => rfl
  | n :: r => by rw [List.map_cons]; simp only [D.ints]; rw [ints_map r]; rfl
theorem bools_map : ∀ ns : List Bool, D.bools (ns.map .bl) = some ns
  | [] => rfl
  | n :: r => by rw [List.map_cons]; simp only [D.bools]; rw [bools_map r]; rfl
theorem ints_eq : ∀ {ds : List D} {ns : List Int}, D.ints ds = some ns → ds = ns.map .int
  | [], ns, h => by cases h; rfl
  | .int i :: r, ns, h => by
    simp only [D.ints] at h
    cases e : D.ints r with
    | none => rw [e] at h; cases h
    | some ms =>
      rw [e] at h
      cases h
      rw [List.map_cons, ints_eq e]
theorem bools_eq : ∀ {ds : List D} {ns : List Bool}, D.bools ds = some ns → ds = ns.map .bl
  | [], ns, h => by cases h; rfl
  | .bl i :: r, ns, h => by
    simp only [D.bools] at h
    cases e : D.bools r with
    | none => rw [e] at h; cases h
    | some ms =>
      rw [e] at h
      cases h
      rw [List.map_cons, bools_eq e]
theorem den_ints {K : PySem.W.Frag} {io : List Addr} {F : Hp} : ∀ {ns : List Int} {vs : List V}, DenL K io F vs (ns.map .int) → vs = ns.map V.int
  | [], _, .nil => rfl
  | n :: r, _, .cons a b => by cases a; rw [List.map_cons, den_ints b]
theorem den_bools {K : PySem.W.Frag} {io : List Addr} {F : Hp} : ∀ {ns : List Bool} {vs : List V}, DenL K io F vs (ns.map .bl) → vs = ns.map V.bl
  | [], _, .nil => rfl
  | n :: r, _, .cons a b => by cases a; rw [List.map_cons, den_bools b]
/-- one list of ints -/
def bI1 (C : List Int → Prop) (g : List Int → Int → Prop) : RLD := fun ds st Q => ∃ d es ns, ds = [d] ∧ rd st d = .lst es ∧ D.ints es = some ns ∧ C ns ∧ ∀ m, g ns m → Q (.int m) st
def bSum : RLD := bI1 (fun _ => True) fun ns m => m = ns.sum
def bMin1 : RLD := bI1 (fun ns => 0 < ns.length) fun ns m => m ∈ ns ∧ ∀ y ∈ ns, m ≤ y
def bMax1 : RLD := bI1 (fun ns => 0 < ns.length) fun ns m => m ∈ ns ∧ ∀ y ∈ ns, y ≤ m
theorem on_I1 {K : PySem.W.Frag} {H : Hp} {io : List Addr} {F : Hp} {st : Sto} {vs : List V} {d : D} {es : List D} {ns : List Int} (R : RelH K H io F st) (n : DenL K io F vs [d]) (e1 : rd st d = .lst es) (e2 : D.ints es = some ns) : ∃ a, vs = [.ref a] ∧ SqL K H a (ns.map V.int) := by
  obtain ⟨v, rfl, n1⟩ := n.one
  obtain ⟨a, xs, rfl, h1, h2, _⟩ := rd_lst R n1 e1
  have := ints_eq e2
  subst this
  rw [den_ints h2] at h1
  exact ⟨a, rfl, SqL.of h1⟩
theorem mo_I1 {C : List Int → Prop} {g : List Int → Int → Prop} : ∀ ds s Q Q', (∀ d s, Q d s → Q' d s) → bI1 C g ds s Q → bI1 C g ds s Q' := fun ds s Q Q' h ⟨d, es, ns, e1, e2, e3, c, q⟩ => ⟨d, es, ns, e1, e2, e3, c, fun m hm => h _ _ (q m hm)⟩
theorem z_sum {K : PySem.W.Frag} : RzL K (rSum K) bSum where
  mo := mo_I1
  on := fun R n ⟨d, es, ns, e1, e2, e3, c, q⟩ => by
    subst e1
    obtain ⟨a, rfl, h⟩ := on_I1 R n e2 e3
    exact ⟨a, ns, rfl, h, kE_now R (.int _) (q _ rfl)⟩
theorem z_min1 {K : PySem.W.Frag} : RzL K (rMin K) bMin1 where
  mo := mo_I1
  on := fun R n ⟨d, es, ns, e1, e2, e3, c, q⟩ => by
    subst e1
    obtain ⟨a, rfl, h⟩ := on_I1 R n e2 e3
    exact ⟨a, ns, rfl, h, c, fun m h1 h2 => kE_now R (.int _) (q _ ⟨h1, h2⟩)⟩
theorem z_max1 {K : PySem.W.Frag} : RzL K (rMax K) bMax1 where
  mo := mo_I1
  on := fun R n ⟨d, es, ns, e1, e2, e3, c, q⟩ => by
    subst e1
    obtain ⟨a, rfl, h⟩ := on_I1 R n e2 e3
    exact ⟨a, ns, rfl, h, c, fun m h1 h2 => kE_now R (.int _) (q _ ⟨h1, h2⟩)⟩
def bAll : RLD := fun ds st Q => ∃ d es bs, ds = [d] ∧ rd st d = .lst es ∧ D.bools es = some bs ∧ Q (.bl (bs.all id)) st
def bAny : RLD := fun ds st Q => ∃ d es bs, ds = [d] ∧ rd st d = .lst es ∧ D.bools es = some bs ∧ Q (.bl (bs.any id)) st
theorem on_B1 {K : PySem.W.Frag} {H : Hp} {io : List Addr} {F : Hp} {st : Sto} {vs : List V} {d : D} {es : List D} {ns : List Bool} (R : RelH K H io F st) (n : DenL K io F vs [d]) (e1 : rd st d = .lst es) (e2 : D.bools es = some ns) : ∃ a, vs = [.ref a] ∧ SqL K H a (ns.map V.bl) := by
  obtain ⟨v, rfl, n1⟩ := n.one
  obtain ⟨a, xs, rfl, h1, h2, _⟩ := rd_lst R n1 e1
  have := bools_eq e2
  subst this
  rw [den_bools h2] at h1
  exact ⟨a, rfl, SqL.of h1⟩
theorem z_all {K : PySem.W.Frag} : RzL K (rAll K) bAll where
  mo := fun ds s Q Q' h ⟨d, es, bs, e1, e2, e3, q⟩ => ⟨d, es, bs, e1, e2, e3, h _ _ q⟩
  on := fun R n ⟨d, es, bs, e1, e2, e3, q⟩ => by
    subst e1
    obtain ⟨a, rfl, h⟩ := on_B1 R n e2 e3
    exact ⟨a, bs, rfl, h, kE_now R (.bl _) q⟩
theorem z_any {K : PySem.W.Frag} : RzL K (rAny K) bAny where
  mo := fun ds s Q Q' h ⟨d, es, bs, e1, e2, e3, q⟩ => ⟨d, es, bs, e1, e2, e3, h _ _ q⟩
  on := fun R n ⟨d, es, bs, e1, e2, e3, q⟩ => by
    subst e1
    obtain ⟨a, rfl, h⟩ := on_B1 R n e2 e3
    exact ⟨a, bs, rfl, h, kE_now R (.bl _) q⟩
def bTuple : RLD := fun ds st Q => ∃ d es, ds = [d] ∧ (rd st d = .lst es ∨ rd st d = .tup es) ∧ Q (.tup es) st
theorem z_tuple {X : Cx} : RzL X.K (fun xs H Q => ∃ p ys, xs = [.ref p] ∧ ((SqL X.K H p ys ∧ XtK H Q ys) ∨ (SqT X.K H p ys ∧ Q (.ref p) H))) bTuple where
  mo := fun ds s Q Q' h ⟨d, es, e1, e2, q⟩ => ⟨d, es, e1, e2, h _ _ q⟩
  on := fun {H io F st vs ds Q} R n ⟨d, es, e1, e2, q⟩ => by
    subst e1
    obtain ⟨v, rfl, n1⟩ := n.one
    rcases e2 with e | e
    · obtain ⟨a, xs, rfl, h1, h2, h3⟩ := rd_lst R n1 e
      exact ⟨a, xs, rfl, .inl ⟨SqL.of h1, lay_tup R h2 h3 q⟩⟩
    · cases rd_tup e
      cases n1 with
      | tup s r z => exact ⟨_, _, rfl, .inr ⟨SqT_mono R.sub s.t, kE_now R (.tup s r z) q⟩⟩
def bList (m : Bool) : RLD := fun ds st Q => ∃ d es, ds = [d] ∧ (rd st d = .lst es ∨ rd st d = .tup es ∨ rd st d = .scr es) ∧ newL m es st Q
theorem z_list {X : Cx} {m : Bool} : RzL X.K (fun xs H Q => ∃ p ys, xs = [.ref p] ∧ (SqL X.K H p ys ∨ SqT X.K H p ys) ∧ ∀ l, H l = none → Q (.ref l) (upd H l (.lst ys))) (bList m) where
  mo := fun ds s Q Q' h ⟨d, es, e1, e2, q⟩ => ⟨d, es, e1, e2, newL_mo h q⟩
  on := fun {H io F st vs ds Q} R n ⟨d, es, e1, e2, q⟩ => by
    subst e1
    obtain ⟨v, rfl, n1⟩ := n.one
    rcases e2 with e | e | e
    · obtain ⟨a, xs, rfl, h1, h2, h3⟩ := rd_lst R n1 e
      exact ⟨a, xs, rfl, .inl (SqL.of h1), lay_new R h2 h3 q⟩
    · cases rd_tup e
      cases n1 with
      | tup s r z => exact ⟨_, _, rfl, .inr (SqT_mono R.sub s.t), lay_new R r z q⟩
    · cases rd_scr e
      cases n1 with
      | scr s r z => exact ⟨_, _, rfl, .inl (SqL_mono R.sub s), lay_new R r z q⟩
end DL
namespace DL
open PySem PySem.Spec PyProof.Rows L2
variable [Bs]
theorem atI_den {K : PySem.W.Frag} {io : List Addr} {F : Hp} {xs : List V} {ds : List D} {i : Int} {d : D} (r : DenL K io F xs ds) (h : atI ds i = some d) : ∃ v, atI xs i = some v ∧ Den K io F v d := by
  unfold atI at h ⊢
  rw [r.length]
  cases e : ixN ds.length i with
  | none => rw [e] at h; cases h
  | some j => rw [e] at h; exact r.get h
def dIx : R2D := fun a b st Q => ∃ i, b = .int i ∧ match rd st a with
  | .lst ds => ∃ d, atI ds i = some d ∧ Q d st
  | .tup ds => ∃ d, atI ds i = some d ∧ Q d st
  | .scr ds => ∃ d, atI ds i = some d ∧ Q d st
  | .str z => z.length ≤ sizeLine ∧ ∃ c, atI z.cps.toList i = some c ∧ Q (.str ⟨#[c]⟩) st
  | _ => False
theorem z_ix {X : Cx} : Rz X.K (rIx X.K) dIx where
  mo := fun a b s Q Q' h ⟨i, e, q⟩ => ⟨i, e, by
    split at q
    · exact ⟨q.choose, q.choose_spec.1, h _ _ q.choose_spec.2⟩
    · exact ⟨q.choose, q.choose_spec.1, h _ _ q.choose_spec.2⟩
    · exact ⟨q.choose, q.choose_spec.1, h _ _ q.choose_spec.2⟩
    · exact ⟨q.1, q.2.choose, q.2.choose_spec.1, h _ _ q.2.choose_spec.2⟩
    · exact q⟩
  on := fun {H io F st x y a b Q} R n1 n2 ⟨i, e, q⟩ => by
    subst e
    cases n2
    split at q
    · rename_i ds e
      obtain ⟨p, xs, rfl, h1, h2, h3⟩ := rd_lst R n1 e
      obtain ⟨d, h, q⟩ := q
      obtain ⟨v, h4, h5⟩ := atI_den h2 h
      exact .inl ⟨p, xs, i, v, rfl, rfl, SqL.of h1, h4, kE_now R h5 q⟩
    · rename_i ds e
      cases rd_tup e
      obtain ⟨d, h, q⟩ := q
      cases n1 with
      | tup s r z =>
        obtain ⟨v, h4, h5⟩ := atI_den r h
        exact .inr (.inl ⟨_, _, i, v, rfl, rfl, SqT_mono R.sub s.t, h4, kE_now R h5 q⟩)
    · rename_i ds e
      cases rd_scr e
      obtain ⟨d, h, q⟩ := q
      cases n1 with
      | scr s r z =>
        obtain ⟨v, h4, h5⟩ := atI_den r h
        exact .inl ⟨_, _, i, v, rfl, rfl, SqL_mono R.sub s, h4, kE_now R h5 q⟩
    · rename_i z e
      cases rd_str e
      obtain ⟨hz, c, h, q⟩ := q
      cases n1
      exact .inr (.inr ⟨z, i, c, rfl, rfl, hz, h, kE_now R (.str _) q⟩)
    · exact q.elim
section
variable {X : Cx} {pos p2 : Pos} {a b : Expr} {wa wb : DE}
theorem we_ix (ha : WE X a wa) (hb : WE X b wb) (hs : PlainIx b := by exact fun _ _ => rfl) : WE X (.Subscript a b pos) (wOp dIx wa wb) :=
  ⟨moOp (z_ix (X := X)).mo ha.mo hb.mo, PE_imp (pe_ix ix_seq ha.pe hb.pe hs) fun σ H Q h => tOp_of z_ix ha hb h⟩
def cutL {α : Type} (xs : List α) (lo hi : Option Int) : List α := (xs.drop (HT.sIx xs.length 0 lo)).take (HT.sIx xs.length xs.length hi - HT.sIx xs.length 0 lo)
theorem cutL_length {α : Type} (xs : List α) (lo hi : Option Int) : (cutL xs lo hi).length ≤ xs.length := by
  unfold cutL
  rw [List.length_take, List.length_drop]
  omega
theorem cut_den {K : PySem.W.Frag} {io : List Addr} {F : Hp} {xs : List V} {ds : List D} (r : DenL K io F xs ds) (lo hi : Option Int) : DenL K io F (cutV xs lo hi) (cutL ds lo hi) := by
  unfold cutV cutL
  rw [r.length]
  exact (r.drop _).take _
abbrev DO := En → Sto → (Option Int → Sto → Prop) → Prop
def MoO (w : DO) : Prop := ∀ (e : En) (s : Sto) (Q Q' : Option Int → Sto → Prop), (∀ d s, Q d s → Q' d s) → w e s Q → w e s Q'
def kO (K : PySem.W.Frag) (H : Hp) (io : List Addr) (F : Hp) (Q : Option Int → Hp → Prop) : Option Int → Sto → Prop := fun b st' => ∀ io' F' H', Stp H io F H' io' F' → RelH K H' io' F' st' → Q b H'
def tO (K : PySem.W.Frag) (w : DO) : TO := fun σ H Q => ∃ env io F st, Rel K σ H env io F st ∧ w env st (kO K H io F Q)
structure WO (X : Cx) (e : Option Expr) (w : DO) : Prop where
  mo : MoO w
  pe : PO X e (tO X.K w)
theorem PO_imp {e : Option Expr} {t t' : TO} (h : PO X e t) (i : ∀ σ H Q, t' σ H Q → t σ H Q) : PO X e t' := ⟨fun p s σ H Q I q => h.run p s σ H Q I (i σ H Q q)⟩
def oNo : DO := fun _ st Q => Q none st
def oPart (we : DE) : DO := fun env st Q => we env st fun d s => ∃ i, d = .int i ∧ Q (some i) s
theorem wo_none : WO X none oNo := ⟨fun _ _ _ _ h q => h _ _ q, PO_imp po_none fun σ H Q ⟨env, io, F, st, R, q⟩ => q _ _ _ Stp.refl R.toRelH⟩
theorem wo_some (ha : WE X a wa) : WO X (some a) (oPart wa) := by
  refine ⟨fun _ _ _ _ h q => ha.mo _ _ _ _ (fun _ _ ⟨i, e, q⟩ => ⟨i, e, h _ _ q⟩) q, PO_imp (po_some ha.pe) fun σ H Q ⟨env, io, F, st, R, q⟩ => ?_⟩
  refine tE_use ha.mo R q fun d s1 v io1 F1 H1 ⟨i, e, q1⟩ t1 R1 n1 => ?_
  subst e
  cases n1
  exact ⟨i, rfl, q1 _ _ _ t1 R1.toRelH⟩
def dSl (m : Bool) (a : D) (lo hi : Option Int) (st : Sto) (Q : DK) : Prop := match rd st a with
  | .lst ds => newL m (cutL ds lo hi) st Q
  | .scr ds => newL m (cutL ds lo hi) st Q
  | .tup ds => Q (.tup (cutL ds lo hi)) st
  | .str z => z.length ≤ sizeLine ∧ Q (.str (cutS z lo hi)) st
  | _ => False
def wSl (m : Bool) (wa : DE) (wl wh : DO) : DE := fun env st Q => wa env st fun a s1 => wl env s1 fun lo s2 => wh env s2 fun hi s3 => dSl m a lo hi s3 Q
theorem mo_dSl {m : Bool} {a : D} {lo hi : Option Int} {st : Sto} {Q Q' : DK} (h : ∀ d s, Q d s → Q' d s) (q : dSl m a lo hi st Q) : dSl m a lo hi st Q' := by
  unfold dSl at q ⊢
  split at q
  · exact newL_mo h q
  · exact newL_mo h q
  · exact h _ _ q
  · exact ⟨q.1, h _ _ q.2⟩
  · exact q
theorem cut_whole {α : Type} (xs : List α) (lo hi : Option Int) (h : HT.sIx xs.length 0 lo = 0 ∧ HT.sIx xs.length xs.length hi = xs.length) : cutL xs lo hi = xs := by
  unfold cutL
  rw [h.1, h.2, List.drop_zero, Nat.sub_zero, List.take_length]
theorem we_sl {m : Bool} {lo hi : Option Expr} {wl wh : DO} (ha : WE X a wa) (hl : WO X lo wl) (hh : WO X hi wh) : WE X (.Subscript a (.Slice lo hi none p2) pos) (wSl m wa wl wh) := by
  refine ⟨fun _ _ _ _ h q => ha.mo _ _ _ _ (fun _ _ q => hl.mo _ _ _ _ (fun _ _ q => hh.mo _ _ _ _ (fun _ _ q => mo_dSl h q) q) q) q, PE_imp (pe_slice (sl_list.or (sl_tupX.or sl_str)) ha.pe hl.pe hh.pe) fun σ H Q ⟨env, io, F, st, R, q⟩ => ?_⟩
  refine tE_use ha.mo R q fun d s1 v io1 F1 H1 q1 t1 R1 n1 => ?_
  refine ⟨env, io1, F1, s1, R1, hl.mo _ _ _ _ (fun l s2 q2 => ?_) q1⟩
  intro io2 F2 H2 t2 R2
  refine ⟨env, io2, F2, s2, R1.next t2 R2, hh.mo _ _ _ _ (fun u s3 q3 => ?_) q2⟩
  intro io3 F3 H3 t3 R3
  replace q3 := mo_dSl (fun d s => kE_later ((t1.trans t2).trans t3)) q3
  replace n1 := (t2.trans t3).den n1
  unfold dSl at q3
  split at q3
  · rename_i ds e
    obtain ⟨p, xs, rfl, h1, h2, h3⟩ := rd_lst R3 n1 e
    exact .inl ⟨p, xs, rfl, SqL.of h1, lay_new R3 (cut_den h2 _ _) (Nat.le_trans (cutL_length _ _ _) h3) q3⟩
  · rename_i ds e
    cases rd_scr e
    cases n1 with
    | scr s r z => exact .inl ⟨_, _, rfl, SqL_mono R3.sub s, lay_new R3 (cut_den r _ _) (Nat.le_trans (cutL_length _ _ _) z) q3⟩
  · rename_i ds e
    cases rd_tup e
    cases n1 with
    | tup s r z =>
      refine .inr (.inl ⟨_, _, rfl, SqT_mono R3.sub s.t, fun hw => ?_, fun _ => ?_⟩)
      · rw [r.length] at hw
        rw [cut_whole ds l u hw] at q3
        exact kE_now R3 (.tup s r z) q3
      · exact lay_tup R3 (cut_den r _ _) (Nat.le_trans (cutL_length _ _ _) z) q3
  · rename_i z e
    cases rd_str e
    cases n1
    exact .inr (.inr ⟨z, rfl, q3.1, kE_now R3 (.str _) q3.2⟩)
  · exact q3.elim
end
theorem nodup_at {io : List Addr} (h : io.Nodup) {i j : Nat} {a : Addr} (h1 : io[i]? = some a) (h2 : io[j]? = some a) : i = j := by
  obtain ⟨x1, e1⟩ := List.getElem?_eq_some_iff.mp h1
  obtain ⟨x2, e2⟩ := List.getElem?_eq_some_iff.mp h2
  exact (List.getElem_inj h).mp (e1.trans e2.symm)
section
variable {K : PySem.W.Frag} {io : List Addr} {F H : Hp} {st : Sto} {n : Nat} {a : Addr}
theorem RelH.write (R : RelH K H io F st) {c : Cel} {o : HO} (h : io[n]? = some a) (hf : F a = none) (hc : CelOk K (upd H a o) io F a c) : RelH K (upd H a o) io F (st.set n c) ∧ Stp H io F (upd H a o) io F := by
  have hmem := List.mem_of_getElem? h
  obtain ⟨o1, ho⟩ := R.there a hmem
  refine ⟨⟨fun b u e => ?_, by rw [List.length_set]; exact R.len, R.nd, fun b hb => ?_, fun m d b h1 h2 => ?_, fun q hq => ?_⟩, ⟨⟨[], by simp, fun _ h => by cases h⟩, fun _ _ h => h, fun b u e hn hb => ?_, fun b u e => ?_, fun _ _ h => .inl h⟩⟩
  · rw [upd_ne (fun z => by subst z; rw [hf] at e; cases e)]; exact R.sub _ _ e
  · by_cases z : b = a
    · subst z; exact ⟨_, upd_same⟩
    · rw [upd_ne z]; exact R.there b hb
  · by_cases z : m = n
    · subst z
      have hm : m < st.length := by rw [← R.len]; exact (List.getElem?_eq_some_iff.mp h).1
      rw [List.getElem?_set_self hm] at h1
      cases h1
      rw [h] at h2
      cases h2
      exact hc
    · rw [List.getElem?_set_ne (Ne.symm z)] at h1
      have ne : b ≠ a := fun q => by subst q; exact z (nodup_at R.nd h2 h)
      have := R.cel m d b h1 h2
      cases d with
      | lst ds => obtain ⟨q1, q2, vs, q3, q4⟩ := this; exact ⟨q1, q2, vs, by rw [upd_ne ne]; exact q3, q4⟩
      | dead => trivial
      | ins C fs => obtain ⟨q1, cc, dx, fv, qc, q3, q4⟩ := this; exact ⟨q1, cc, dx, fv, qc, by rw [upd_ne ne]; exact q3, q4⟩
      | dct b kvs => obtain ⟨q1, q2, u, q3, q4⟩ := this; exact ⟨q1, q2, u, by rw [upd_ne ne]; exact q3, q4⟩
  · obtain ⟨t1, t2, ps, t3, t4, t5⟩ := R.tab q hq
    exact ⟨t1, t2, ps, by rw [upd_ne (fun z => by rw [z] at t2; exact t2 hmem)]; exact t3, t4, t5⟩
  · rw [upd_ne (fun z => by subst z; exact hb hmem)]; exact e
  · by_cases z : b = a
    · subst z; exact ⟨_, upd_same⟩
    · rw [upd_ne z]; exact ⟨u, e⟩
theorem RelH.writeL (R : RelH K H io F st) {ds ds' : List D} {vs' : List V} (h : io[n]? = some a) (hn : st[n]? = some (.lst ds)) (r : DenL K io F vs' ds') (z : ds'.length ≤ sizeLine) : RelH K (upd H a (.lst vs')) io F (st.set n (.lst ds')) ∧ Stp H io F (upd H a (.lst vs')) io F :=
  R.write h (R.cel n _ a hn h).1 ⟨(R.cel n _ a hn h).1, z, vs', upd_same, r⟩
/-- a cell's list -/
theorem RelH.at (R : RelH K H io F st) {ds : List D} (h : io[n]? = some a) (hn : st[n]? = some (.lst ds)) : ∃ vs, H a = some (.lst vs) ∧ DenL K io F vs ds ∧ ds.length ≤ sizeLine := by
  obtain ⟨h1, h2, vs, h3, h4⟩ := R.cel n _ a hn h
  exact ⟨vs, h3, h4, h2⟩
end
abbrev RMD := D → List D → Sto → DK → Prop
structure RzM (K : PySem.W.Frag) (r : V → List V → Hp → VK → Prop) (f : RMD) : Prop where
  mo : ∀ d ds s Q Q', (∀ d s, Q d s → Q' d s) → f d ds s Q → f d ds s Q'
  on : ∀ {H io F st v vs d ds Q}, RelH K H io F st → Den K io F v d → DenL K io F vs ds → f d ds st (kE K H io F Q) → r v vs H Q
def wM (f : RMD) (wo : DE) (wa : DA) : DE := fun env st Q => wo env st fun d s1 => (∃ ds, rd s1 d = .lst ds) ∧ wa env s1 fun ds s2 => f d ds s2 Q
section
variable {X : Cx} {apos cpos : Pos} {o e : Expr} {es : List Expr} {wo : DE} {wa : DA} {name : Str} {id : String} {r : V → List V → Hp → VK → Prop} {f : RMD}
theorem moM (mo : MoE wo) (ma : MoA wa) (z : RzM X.K r f) : MoE (wM f wo wa) := fun _ _ _ _ h q => mo _ _ _ _ (fun _ _ ⟨t, q⟩ => ⟨t, ma _ _ _ _ (fun _ _ q => z.mo _ _ _ _ _ h q) q⟩) q
theorem tM_of {σ : L2.St} {H : Hp} {Q : VK} (ho : WE X o wo) (ma : MoA wa) (z : RzM X.K r f) (h : tE X.K (wM f wo wa) σ H Q) : tBM X.K "list" r (tE X.K wo) (tA X.K wa) σ H Q := by
  obtain ⟨env, io, F, st, R, q⟩ := h
  refine tE_use ho.mo R q fun d s1 v io1 F1 H1 ⟨⟨ds, e⟩, q1⟩ t1 R1 n1 => ?_
  obtain ⟨p, xs, rfl, h1, h2, h3⟩ := rd_lst R1.toRelH n1 e
  refine ⟨.inl ⟨rfl, _, SqL.of h1⟩, ?_⟩
  refine tA_use ma R1 q1 fun ds s2 vs io2 F2 H2 q2 t2 R2 n2 => ?_
  exact z.on R2.toRelH (t2.den n1) n2 (z.mo _ _ _ _ _ (fun _ _ => kE_later (t1.trans t2)) q2)
theorem we_m (slot : Slot "list" name id) (hty : typeOf (.builtin id) = pure (.type "method_descriptor")) (hm : MtR X id r) (z : RzM X.K r f) (ho : WE X o wo) (ha : WA X (e :: es) wa)
    (pe : ∀ {to : TE} {t : TA}, PE X o to → PA X (e :: es) t → PE X (.Call (.Attribute o name apos) (e :: es) [] cpos) (tBM X.K "list" r to t)) : WE X (.Call (.Attribute o name apos) (e :: es) [] cpos) (wM f wo wa) :=
  ⟨moM ho.mo ha.mo z, PE_imp (pe ho.pe ha.pe) fun σ H Q h => tM_of ho ha.mo z h⟩
end
def mAppend : RMD := fun d xs st Q => ∃ n ds x, d = .ref n ∧ xs = [x] ∧ st[n]? = some (.lst ds) ∧ ds.length < sizeLine ∧ Q .non (st.set n (.lst (ds ++ [x])))
theorem z_append {K : PySem.W.Frag} : RzM K rAppend mAppend where
  mo := fun _ _ _ _ _ h ⟨n, ds, x, e1, e2, e3, z, q⟩ => ⟨n, ds, x, e1, e2, e3, z, h _ _ q⟩
  on := fun {H io F st v vs d ds Q} R n1 n2 ⟨n, ds', x, e1, e2, e3, z, q⟩ => by
    subst e1 e2
    cases n1 with
    | ref h =>
      obtain ⟨y, rfl, ny⟩ := n2.one
      obtain ⟨xs, h1, h2, h3⟩ := R.at h e3
      obtain ⟨R', s⟩ := R.writeL (ds' := ds' ++ [x]) h e3 (h2.append (.cons ny .nil)) (by rw [List.length_append]; exact z)
      exact ⟨_, xs, y, rfl, rfl, h1, by rw [h2.length]; exact z, q _ _ _ _ s R' .non⟩
def mPopAt : RMD := fun d xs st Q => ∃ n ds i k x, d = .ref n ∧ xs = [.int i] ∧ st[n]? = some (.lst ds) ∧ -(2 ^ 63) ≤ i ∧ i < 2 ^ 63 ∧ ixN ds.length i = some k ∧ ds[k]? = some x ∧ Q x (st.set n (.lst (ds.eraseIdx k)))
theorem erase_le {α : Type} (xs : List α) (k : Nat) : (xs.eraseIdx k).length ≤ xs.length := by
  rw [List.length_eraseIdx]
  split <;> omega
theorem z_popAt {K : PySem.W.Frag} : RzM K rPopAt mPopAt where
  mo := fun _ _ _ _ _ h ⟨n, ds, i, k, x, e1, e2, e3, z1, z2, z3, z4, q⟩ => ⟨n, ds, i, k, x, e1, e2, e3, z1, z2, z3, z4, h _ _ q⟩
  on := fun {H io F st v vs d ds Q} R n1 n2 ⟨n, ds', i, k, x, e1, e2, e3, z1, z2, z3, z4, q⟩ => by
    subst e1 e2
    cases n1 with
    | ref h =>
      obtain ⟨y, rfl, ny⟩ := n2.one
      cases ny
      obtain ⟨xs, h1, h2, h3⟩ := R.at h e3
      obtain ⟨y, h4, h5⟩ := h2.get z4
      obtain ⟨R', s⟩ := R.writeL (ds' := ds'.eraseIdx k) h e3 (h2.erase k) (Nat.le_trans (erase_le _ _) h3)
      exact ⟨_, xs, i, k, y, rfl, rfl, h1, z1, z2, by rw [h2.length]; exact (ixN_seq z3).1, h4, q _ _ _ _ s R' (s.den h5)⟩
def mExtend : RMD := fun d xs st Q => ∃ n ds x es, d = .ref n ∧ xs = [x] ∧ st[n]? = some (.lst ds) ∧ rd st x = .lst es ∧ ds.length + es.length ≤ sizeLine ∧ Q .non (st.set n (.lst (ds ++ es)))
theorem z_extend {K : PySem.W.Frag} : RzM K rExtend mExtend where
  mo := fun _ _ _ _ _ h ⟨n, ds, x, es, e1, e2, e3, e4, z, q⟩ => ⟨n, ds, x, es, e1, e2, e3, e4, z, h _ _ q⟩
  on := fun {H io F st v vs d ds Q} R n1 n2 ⟨n, ds', x, es, e1, e2, e3, e4, z, q⟩ => by
    subst e1 e2
    cases n1 with
    | ref h =>
      obtain ⟨y, rfl, ny⟩ := n2.one
      obtain ⟨xs, h1, h2, h3⟩ := R.at h e3
      obtain ⟨b, ys, rfl, h5, h6, _⟩ := rd_lst R ny e4
      obtain ⟨R', s⟩ := R.writeL (ds' := ds' ++ es) h e3 (h2.append h6) (by rw [List.length_append]; exact z)
      exact ⟨_, b, xs, ys, rfl, rfl, h1, h5, by rw [h2.length, h6.length]; exact z, q _ _ _ _ s R' .non⟩
def gSet (wo wi : DE) : DG := fun d env st Q => wo env st fun o s1 => wi env s1 fun i s2 => ∃ n ds k j, o = .ref n ∧ i = .int k ∧ s2[n]? = some (.lst ds) ∧ ixN ds.length k = some j ∧ Q env (s2.set n (.lst (ds.set j d)))
section
variable {X : Cx} {pos : Pos} {o i : Expr} {wo wi : DE}
theorem wg_sub (ho : WE X o wo) (hi : WE X i wi)
    (ha : ∀ v, assign (.Subscript o i pos) X.env v = (do
      let ov ← holding [v] (eval o X.env)
      let iv ← holding [v, ov] (eval i X.env)
      standAt pos
      holding [v, ov, iv] (setItem ov iv v)
      release [v, ov, iv] []) := by intro _; rfl) : WG X (.Subscript o i pos) (gSet wo wi) := by
  refine ⟨fun _ _ _ _ _ h q => ho.mo _ _ _ _ (fun _ _ q => hi.mo _ _ _ _ (fun _ _ ⟨n, ds, k, j, e1, e2, e3, e4, q⟩ => ⟨n, ds, k, j, e1, e2, e3, e4, h _ _ q⟩) q) q, PG_imp (pg_sub ho.pe hi.pe set_list ha) fun v σ H Q ⟨d, env, io, F, st, R, n1, q⟩ => ?_⟩
  refine tE_use ho.mo R q fun o s1 vo io1 F1 H1 q1 t1 R1 no => ?_
  refine tE_use hi.mo R1 q1 fun ix s2 vi io2 F2 H2 q2 t2 R2 ni => ?_
  obtain ⟨n, ds, k, j, e1, e2, e3, e4, q2⟩ := q2
  subst e1 e2
  cases ni
  cases no with
  | ref h =>
    have h' := t2.ix _ _ h
    obtain ⟨xs, h1, h2, h3⟩ := R2.at h' e3
    obtain ⟨R', s⟩ := R2.writeL (ds' := ds.set j d) h' e3 (h2.setAt j ((t1.trans t2).den n1)) (by rw [List.length_set]; exact h3)
    exact ⟨_, xs, k, j, rfl, rfl, h1, by rw [h2.length]; exact e4, q2 _ _ _ _ ((t1.trans t2).trans s) (R2.next s R')⟩
end
end DL
namespace DL
open PySem PySem.Spec PyProof.Rows L2
variable [Bs]
section
variable {X : Cx} {pos spos : Pos} {elt tg iter : Expr} {ifs : List Expr} {scope : Scope} {own : List (Str × Nat)} {wi : DI} {t : Tg} {c : DT} {w : DE} {m : Bool}
theorem moComp (mi : MoI wi) (mc : MoT c) (mw : MoE w) {vs : List Nat} : MoE (wComp m wi t c w vs) := fun _ _ _ _ h q => mi _ _ _ _ (fun _ _ _ ⟨z, q⟩ => ⟨z, moCompL mc mw (fun _ _ q => newL_mo h q) _ _ _ q⟩) q
theorem we_lc (hc : X.calm = true) (hN : X.N.Nodup) (hi : WI X tg iter wi) (ok : BlkOk X.N X.env.scope scope own) (hv : ∀ i ∈ t.ix, i ∈ own.map (·.2))
    (hg : ∀ (s : Shared) (H : Hp) (C : Addr) (cl : List (Str × Addr)) (fp : List Addr), PG (X.blk s H scope (compEnvC scope cl C X.env) fp) tg (t.tg X.K))
    (ht : ∀ (s : Shared) (H : Hp) (C : Addr) (cl : List (Str × Addr)) (fp : List Addr), WTs (X.blk s H scope (compEnvC scope cl C X.env) fp) ifs c)
    (he : ∀ (s : Shared) (H : Hp) (C : Addr) (cl : List (Str × Addr)) (fp : List Addr), WE (X.blk s H scope (compEnvC scope cl C X.env) fp) elt w) (hs : ∀ x, foldedSetIterable iter X.env x = pure x := by intro _; rfl) :
    WE X (.ListComp elt [⟨tg, iter, ifs, 0⟩] scope pos) (wComp m wi t c w (own.map (·.2))) :=
  ⟨moComp hi.mo (ht X.s_0 X.H_0 0 [] []).mo (he X.s_0 X.H_0 0 [] []).mo, PE_imp (pe_lc hc hN hi.pe ok hg (fun s H C cl fp => (ht s H C cl fp).pe) (fun s H C cl fp => (he s H C cl fp).pe) hs) fun σ H Q h =>
    tLc_of hi.mo (ht X.s_0 X.H_0 0 [] []).mo (he X.s_0 X.H_0 0 [] []).mo hv h⟩
theorem ws_setLc {i : Nat} {y : Str} {py : Pos} (hc : X.calm = true) (hN : X.N.Nodup) (hy : X.N[i]? = some y) (hyl : X.env.scope.names.lookup y = some .local)
    (hsw : swapsWith (.ListComp elt [⟨tg, iter, ifs, 0⟩] scope pos) (some (.Name y py)) spos.line X.env = pure true) (hi : WI X tg iter wi) (ok : BlkOk X.N X.env.scope scope own) (hv : ∀ i ∈ t.ix, i ∈ own.map (·.2))
    (hg : ∀ (s : Shared) (H : Hp) (C : Addr) (cl : List (Str × Addr)) (fp : List Addr), PG (X.blk s H scope (compEnvC scope cl C X.env) fp) tg (t.tg X.K))
    (ht : ∀ (s : Shared) (H : Hp) (C : Addr) (cl : List (Str × Addr)) (fp : List Addr), WTs (X.blk s H scope (compEnvC scope cl C X.env) fp) ifs c)
    (he : ∀ (s : Shared) (H : Hp) (C : Addr) (cl : List (Str × Addr)) (fp : List Addr), WE (X.blk s H scope (compEnvC scope cl C X.env) fp) elt w) (hs : ∀ x, foldedSetIterable iter X.env x = pure x := by intro _; rfl) :
    WS X (.Assign [.Name y py] (.ListComp elt [⟨tg, iter, ifs, 0⟩] scope pos) spos) (wAsg (wComp m wi t c w (own.map (·.2))) (gNm i)) := by
  have mo := moComp (m := m) (t := t) (vs := own.map (·.2)) hi.mo (ht X.s_0 X.H_0 0 [] []).mo (he X.s_0 X.H_0 0 [] []).mo
  refine ⟨fun _ _ _ _ l q => mo _ _ _ _ (fun _ _ q => l.nx _ _ q) q, PS_imp (ps_setLc (te := tE X.K w) (tt := tT X.K c) hc hN hy hyl hsw hi.pe ok hg (fun s H C cl fp => (ht s H C cl fp).pe) (fun s H C cl fp => (he s H C cl fp).pe) hs) fun D σ H ⟨env, io, F, st, R, q⟩ => ?_⟩
  show tLc _ _ _ _ _ σ H _
  refine tLc_of (m := m) (Q := fun x H1 => gName i x σ H1 D.nx) hi.mo (ht X.s_0 X.H_0 0 [] []).mo (he X.s_0 X.H_0 0 [] []).mo hv ?_
  exact tE_use mo R q fun d s1 v io1 F1 H1 q1 t1 R1 n1 => q1 _ _ _ _ t1 (R1.set n1)
end
def startE (N : List Str) (ds : List D) : En := ds.map some ++ List.replicate (N.length - ds.length) none
omit [Bs] in
theorem start_rel {K : PySem.W.Frag} {H : Hp} {io : List Addr} {F : Hp} {st : Sto} {N : List Str} {vs : List V} {ds : List D} (R : RelH K H io F st) (n : DenL K io F vs ds) : @Rel ⟨H, io, F⟩ K (L2.start N vs) H (startE N ds) io F st :=
  letI : Bs := ⟨H, io, F⟩
  { R with
    bs := Stp.refl
    sl := by unfold L2.start startE; simp [n.length]
    slot := fun i d e => by
      unfold startE at e
      unfold L2.start
      by_cases hi : i < ds.length
      · rw [List.getElem?_append_left (by simpa using hi)] at e
        rw [List.getElem?_append_left (by rw [List.length_map, n.length]; exact hi)]
        rw [List.getElem?_map] at e ⊢
        cases q : ds[i]? with
        | none => rw [q] at e; cases e
        | some d' =>
          rw [q] at e
          cases e
          obtain ⟨v, h1, h2⟩ := n.get q
          exact ⟨v, by rw [h1]; rfl, h2⟩
      · rw [List.getElem?_append_right (by simpa using hi)] at e
        have := List.mem_of_getElem? e
        rw [List.mem_replicate] at this
        cases this.2 }
/-- how a body ends -/
def bodyEnds (post : D → Sto → Prop) : DEnds := ⟨fun _ st => post .non st, post, fun _ _ => False, fun _ _ => False⟩
section
variable {P : Program} {w : World} {K : PySem.W.Frag} {mg : Str → Option Value} {base : Heap}
omit [Bs] in
theorem fn_ok {x qual : Str} {st : Stmt} {f : Addr} {fd : FuncData} {N ps : List Str} {k : Nat} {S : Spec} {wb : DS} (F : Fun K x qual st f fd) (sc : FnScope N ps (defScope st)) (hn : S.n = ps.length)
    (body : ∀ [Bs] (cdv : Value) (A : Around) (outer : List Env) (s : Shared) (H : Hp) (E : XK), Room k (A.deeper (envOfC qual (defScope st) s.heap.objs.size f cdv)) → A.guards = some [] → WB (cxOf CX0 P w K mg base N qual (defScope st) f cdv A outer s H E).nox (defBody st) wb)
    (vc : ∀ g sto, (S.args g).length = S.n → S.pre g sto → wb (bodyEnds (S.post g sto)) (startE N (S.args g)) sto) : FnG P w K mg base CX0 (k + 1) f fd ps (spOf K S) := by
  refine fnG_of F sc (fun vs H Q E h => ?_) (fun cdv A outer s H vs Q E _ hr hgd h => ?_)
  · obtain ⟨g, io, Fz, sto, z, R, n, p, q⟩ := h
    rw [n.length, z, hn]
  · obtain ⟨g, io, Fz, sto, z, R, n, p, q⟩ := h
    letI : Bs := ⟨H, io, Fz⟩
    have B := body cdv A outer s H E hr hgd
    refine ⟨_, B.pe.nox, startE N (S.args g), io, Fz, sto, start_rel R n, B.mo (bodyEnds (S.post g sto)) _ _ _ ?_ (vc g sto z p)⟩
    refine ⟨fun e s h => ?_, fun d s h => ?_, fun e s h => h.elim, fun e s h => h.elim⟩
    · exact fun σ' io' F' H' t R' => q .non s h .non io' F' H' t R'.toRelH .non
    · exact q d s h
mutual
def D.blw (n : Nat) : D → Bool
  | .tup ds => D.blwL n ds
  | .lst ds => D.blwL n ds
  | .scr ds => D.blwL n ds
  | .ref k => decide (k < n)
  | .fn _ io0 _ => decide (0 < n ∧ io0.length ≤ n)
  | .exc _ _ ds => decide (0 < n) && D.blwL n ds
  | .non => true
  | .bl _ => true
  | .int _ => true
  | .str _ => true
  | .dct _ => true
def D.blwL (n : Nat) : List D → Bool
  | [] => true
  | d :: r => d.blw n && D.blwL n r
end
def Cel.blw (n : Nat) : Cel → Bool
  | .lst ds => D.blwL n ds
  | .dead => true
  | .ins _ fs => D.blwL n (fs.map (·.2))
  | .dct _ _ => true
mutual
theorem Den.cut {K : PySem.W.Frag} {io io' : List Addr} {F : Hp} (h : ∀ (n : Nat) a, n < io.length → io'[n]? = some a → io[n]? = some a) : ∀ {v : V} {d : D}, Den K io' F v d → d.blw io.length = true → Den K io F v d
  | _, _, .non, _ => .non
  | _, _, .bl b, _ => .bl b
  | _, _, .int i, _ => .int i
  | _, _, .str x, _ => .str x
  | _, _, .dct e, _ => .dct e
  | _, _, .tup s r z, b => .tup s (DenL.cut h r (by simpa only [D.blw] using b)) z
  | _, _, .lst s r z, b => .lst s (DenL.cut h r (by simpa only [D.blw] using b)) z
  | _, _, .scr s r z, b => .scr s (DenL.cut h r (by simpa only [D.blw] using b)) z
  | _, _, .ref e, b => .ref (h _ _ (by simpa only [D.blw, decide_eq_true_eq] using b) e)
  | _, _, .fn e1 e2, b => .fn (fun n a e => h n a (Nat.lt_of_lt_of_le (List.getElem?_eq_some_iff.mp e).1 (of_decide_eq_true (show decide (0 < io.length ∧ _) = true by simpa only [D.blw] using b)).2) (e1 n a e)) e2
  | _, _, .exc n e x a1 a2 r, b => .exc n e x a1 a2 (DenL.cut h r (by simp only [D.blw, Bool.and_eq_true] at b; exact b.2))
theorem DenL.cut {K : PySem.W.Frag} {io io' : List Addr} {F : Hp} (h : ∀ (n : Nat) a, n < io.length → io'[n]? = some a → io[n]? = some a) : ∀ {vs : List V} {ds : List D}, DenL K io' F vs ds → D.blwL io.length ds = true → DenL K io F vs ds
  | _, _, .nil, _ => .nil
  | _, _, .cons a b, q => by
    simp only [D.blwL, Bool.and_eq_true] at q
    exact .cons (Den.cut h a q.1) (DenL.cut h b q.2)
end
mutual
theorem Den.blw {K : PySem.W.Frag} {io : List Addr} {F : Hp} (h0 : 0 < io.length) : ∀ {v : V} {d : D}, Den K io F v d → d.blw io.length = true
  | _, _, .non => rfl
  | _, _, .bl b => rfl
  | _, _, .int i => rfl
  | _, _, .str x => rfl
  | _, _, .dct e => rfl
  | _, _, .tup s r z => by simpa only [D.blw] using DenL.blw h0 r
  | _, _, .lst s r z => by simpa only [D.blw] using DenL.blw h0 r
  | _, _, .scr s r z => by simpa only [D.blw] using DenL.blw h0 r
  | _, _, .ref e => by simpa only [D.blw, decide_eq_true_eq] using (List.getElem?_eq_some_iff.mp e).1
  | _, _, .exc n e x a1 a2 r => by
    simp only [D.blw, Bool.and_eq_true, decide_eq_true_eq]
    exact ⟨h0, DenL.blw h0 r⟩
  | _, _, @Den.fn _ _ _ _ io0 _ e1 _ => by
    simp only [D.blw, decide_eq_true_eq]
    rcases Nat.lt_or_ge io.length io0.length with q | q
    · have h1 : io0[io.length]? = some io0[io.length] := List.getElem?_eq_getElem q
      exact absurd (List.getElem?_eq_some_iff.mp (e1 _ _ h1)).1 (Nat.lt_irrefl _)
    · exact ⟨h0, q⟩
theorem DenL.blw {K : PySem.W.Frag} {io : List Addr} {F : Hp} (h0 : 0 < io.length) : ∀ {vs : List V} {ds : List D}, DenL K io F vs ds → D.blwL io.length ds = true
  | _, _, .nil => rfl
  | _, _, .cons a b => by simp only [D.blwL, Bool.and_eq_true]; exact ⟨Den.blw h0 a, DenL.blw h0 b⟩
end
theorem DenF.cut {K : PySem.W.Frag} {io io' : List Addr} {F : Hp} (h : ∀ (n : Nat) a, n < io.length → io'[n]? = some a → io[n]? = some a) : ∀ {vs : List (Str × V)} {ds : List (Str × D)}, DenF K io' F vs ds → D.blwL io.length (ds.map (·.2)) = true → DenF K io F vs ds
  | _, _, .nil, _ => .nil
  | _, _, .cons a b, q => by
    simp only [List.map_cons, D.blwL, Bool.and_eq_true] at q
    exact .cons ⟨a.1, a.2.cut h q.1⟩ (DenF.cut h b q.2)
theorem DenF.blw {K : PySem.W.Frag} {io : List Addr} {F : Hp} (h0 : 0 < io.length) : ∀ {vs : List (Str × V)} {ds : List (Str × D)}, DenF K io F vs ds → D.blwL io.length (ds.map (·.2)) = true
  | _, _, .nil => rfl
  | _, _, .cons a b => by simp only [List.map_cons, D.blwL, Bool.and_eq_true]; exact ⟨a.2.blw h0, DenF.blw h0 b⟩
/-- the end of a def that forgets its own cells: the cells that were there, and what is handed back, know nothing of them -/
def popEnds (n : Nat) (st0 : Sto) (post : D → Sto → Prop) : D → Sto → Prop := fun d st' => ∃ st1 ex, st' = st1 ++ ex ∧ st1.length = n ∧ d.blw n = true ∧ (∀ (i : Nat) c, st1[i]? = some c → st0[i]? = some c ∨ c.blw n = true) ∧ post d st1
theorem pop_rel {K : PySem.W.Frag} {H H' : Hp} {io io' : List Addr} {F F' : Hp} {st st1 ex : Sto} (R : RelH K H io F st) (t : Stp H io F H' io' F') (R' : RelH K H' io' F' (st1 ++ ex)) (hl : st1.length = st.length)
    (hb : ∀ (i : Nat) c, st1[i]? = some c → st[i]? = some c ∨ c.blw st.length = true) : RelH K H' io F' st1 ∧ Stp H io F H' io F' := by
  obtain ⟨more, em, hm⟩ := t.ext
  have cutH : ∀ (n : Nat) a, n < io.length → io'[n]? = some a → io[n]? = some a := fun n a h e => by
    rw [em, List.getElem?_append_left h] at e; exact e
  have mem' : ∀ a ∈ io, a ∈ io' := fun a h => by rw [em]; exact List.mem_append_left _ h
  refine ⟨⟨R'.sub, by rw [hl]; exact R.len, R.nd, fun a ha => R'.there a (mem' a ha), fun n c a h1 h2 => ?_, fun q hq => let ⟨t1, t2, r⟩ := R'.tab q hq; ⟨t1, fun h => t2 (mem' _ h), r⟩⟩, ⟨⟨[], by simp, fun _ h => by cases h⟩, t.fr, t.keep, t.dom, t.fnw⟩⟩
  have hn : n < st1.length := (List.getElem?_eq_some_iff.mp h1).1
  have q := R'.cel n c a (by rw [List.getElem?_append_left hn]; exact h1) (t.ix _ _ h2)
  have b : c.blw io.length = true := by
    rw [R.len]
    rcases hb n c h1 with e | e
    · have z := R.cel n c a e h2
      have h0 : 0 < io.length := Nat.lt_of_le_of_lt (Nat.zero_le _) (List.getElem?_eq_some_iff.mp h2).1
      rw [← R.len]
      cases c with
      | lst ds => obtain ⟨_, _, vs, _, z⟩ := z; exact z.blw h0
      | dead => rfl
      | ins C fs => obtain ⟨_, _, dx, fv, _, _, z⟩ := z; exact DenF.blw h0 z
      | dct b kvs => rfl
    · exact e
  cases c with
  | lst ds => obtain ⟨q1, q2, vs, q3, q4⟩ := q; exact ⟨q1, q2, vs, q3, q4.cut cutH b⟩
  | dead => trivial
  | ins C fs => obtain ⟨q1, cc, dx, fv, qc, q3, q4⟩ := q; exact ⟨q1, cc, dx, fv, qc, q3, DenF.cut cutH q4 b⟩
  | dct b kvs => exact q
omit [Bs] in
theorem fn_okP {x qual : Str} {st : Stmt} {f : Addr} {fd : FuncData} {N ps : List Str} {k : Nat} {S : Spec} {wb : DS} (F : Fun K x qual st f fd) (sc : FnScope N ps (defScope st)) (hn : S.n = ps.length)
    (body : ∀ [Bs] (cdv : Value) (A : Around) (outer : List Env) (s : Shared) (H : Hp) (E : XK), Room k (A.deeper (envOfC qual (defScope st) s.heap.objs.size f cdv)) → A.guards = some [] → WB (cxOf CX0 P w K mg base N qual (defScope st) f cdv A outer s H E).nox (defBody st) wb)
    (vc : ∀ g sto, (S.args g).length = S.n → S.pre g sto → wb (bodyEnds (popEnds sto.length sto (S.post g sto))) (startE N (S.args g)) sto) : FnG P w K mg base CX0 (k + 1) f fd ps (spOf K S) := by
  refine fnG_of F sc (fun vs H Q E h => ?_) (fun cdv A outer s H vs Q E _ hr hgd h => ?_)
  · obtain ⟨g, io, Fz, sto, z, R, n, p, q⟩ := h
    rw [n.length, z, hn]
  · obtain ⟨g, io, Fz, sto, z, R, n, p, q⟩ := h
    letI : Bs := ⟨H, io, Fz⟩
    have B := body cdv A outer s H E hr hgd
    refine ⟨_, B.pe.nox, startE N (S.args g), io, Fz, sto, start_rel R n, B.mo (bodyEnds (popEnds sto.length sto (S.post g sto))) _ _ _ ?_ (vc g sto z p)⟩
    have fin : ∀ {d : D} {s : Sto} {v : V} {io' : List Addr} {F' H' : Hp}, popEnds sto.length sto (S.post g sto) d s → Stp H io Fz H' io' F' → RelH K H' io' F' s → Den K io' F' v d → Q v H' := fun {d s v io' F' H'} h t R' nd => by
      obtain ⟨st1, ex, rfl, hl, hd, hb, h⟩ := h
      obtain ⟨R2, t2⟩ := pop_rel R t R' hl hb
      refine q d st1 h v io F' H' t2 R2 (nd.cut (fun n a h e => ?_) (by rw [R.len]; exact hd))
      obtain ⟨more, em, hm⟩ := t.ext
      rw [em, List.getElem?_append_left h] at e
      exact e
    refine ⟨fun e s h => ?_, fun d s h => ?_, fun e s h => h.elim, fun e s h => h.elim⟩
    · exact fun σ' io' F' H' t R' => fin h t R'.toRelH .non
    · exact fun v io' F' H' t R' nd => fin h t R' nd
end
end DL
namespace DL
open PySem PySem.Spec PyProof.Rows L2
variable [Bs]
def lexG (r : Int → Int → Bool) (z : Nat → Nat → Bool) : List Int → List Int → Bool
  | x :: xs, y :: ys => if x = y then lexG r z xs ys else r x y
  | xs, ys => z xs.length ys.length
theorem lexAt_shift (e r : Nat → Bool) (z : Bool) : ∀ (k i : Nat), Ob.lexAt e r z (i + 1) k = Ob.lexAt (fun j => e (j + 1)) (fun j => r (j + 1)) z i k
  | 0, i => rfl
  | k + 1, i => by rw [Ob.lexAt_succ, Ob.lexAt_succ, lexAt_shift e r z k (i + 1)]
theorem lexAt_G (r : Int → Int → Bool) (z : Nat → Nat → Bool) (hz : ∀ a b, z (a + 1) (b + 1) = z a b) : ∀ ns ms : List Int,
    Ob.lexAt (fun j => decide (ns.getD j 0 = ms.getD j 0)) (fun j => r (ns.getD j 0) (ms.getD j 0)) (z ns.length ms.length) 0 (min ns.length ms.length) = lexG r z ns ms
  | [], ms => by
    rw [show min ([] : List Int).length ms.length = 0 by simp]
    cases ms <;> rfl
  | x :: xs, [] => rfl
  | x :: xs, y :: ys => by
    rw [show min (x :: xs).length (y :: ys).length = min xs.length ys.length + 1 by simp only [List.length_cons]; omega, Ob.lexAt_succ, lexAt_shift]
    simp only [List.getD_cons_zero, List.getD_cons_succ, List.length_cons, hz]
    rw [lexAt_G r z hz xs ys]
    by_cases h : x = y
    · simp [lexG, h]
    · simp [lexG, h]
theorem lexG_lt : ∀ ns ms : List Int, lexG (fun x y => decide (x < y)) (fun a b => decide (a < b)) ns ms = HT.lexLt ns ms
  | [], [] => rfl
  | [], _ :: _ => by simp [lexG, HT.lexLt]
  | _ :: _, [] => by simp [lexG, HT.lexLt]
  | x :: xs, y :: ys => by simp only [lexG, HT.lexLt]; rw [lexG_lt xs ys]
theorem lexG_gt : ∀ ns ms : List Int, lexG (fun x y => decide (x > y)) (fun a b => decide (a > b)) ns ms = HT.lexLt ms ns
  | [], [] => rfl
  | [], _ :: _ => by simp [lexG, HT.lexLt]
  | _ :: _, [] => by simp [lexG, HT.lexLt]
  | x :: xs, y :: ys => by
    simp only [lexG, HT.lexLt]
    rw [lexG_gt xs ys]
    by_cases h : x = y
    · simp [h]
    · have h' : ¬ y = x := fun e => h e.symm
      simp [h, h']
theorem lexG_le : ∀ ns ms : List Int, lexG (fun x y => decide (x ≤ y)) (fun a b => decide (a ≤ b)) ns ms = !HT.lexLt ms ns
  | [], [] => rfl
  | [], _ :: _ => by simp [lexG, HT.lexLt]
  | _ :: _, [] => by simp [lexG, HT.lexLt]
  | x :: xs, y :: ys => by
    simp only [lexG, HT.lexLt]
    rw [lexG_le xs ys]
    by_cases h : x = y
    · simp [h]
    · have h' : ¬ y = x := fun e => h e.symm
      simp only [h, h', if_false]
      by_cases q : x ≤ y
      · have : ¬ y < x := by omega
        simp [q, this]
      · have : y < x := by omega
        simp [q, this]
theorem lexG_ge : ∀ ns ms : List Int, lexG (fun x y => decide (x ≥ y)) (fun a b => decide (a ≥ b)) ns ms = !HT.lexLt ns ms
  | [], [] => rfl
  | [], _ :: _ => by simp [lexG, HT.lexLt]
  | _ :: _, [] => by simp [lexG, HT.lexLt]
  | x :: xs, y :: ys => by
    simp only [lexG, HT.lexLt]
    rw [lexG_ge xs ys]
    by_cases h : x = y
    · simp [h]
    · simp only [h, if_false]
      by_cases q : x ≥ y
      · have : ¬ x < y := by omega
        simp [q, this]
      · have : x < y := by omega
        simp [q, this]
def rCmpT (K : PySem.W.Frag) (f : List Int → List Int → Bool) : R2 := fun x y H Q => ∃ (a b : Addr) (ns ms : List Int), x = .ref a ∧ y = .ref b ∧ SqT K H a (ns.map V.int) ∧ SqT K H b (ms.map V.int) ∧ Q (.bl (f ns ms)) H
theorem tupsOf {X : Cx} {pins : List (Addr × Obj)} {s : Shared} {σ : L2.St} {H : Hp} {a : Addr} {ns : List Int} (I : Inv X pins σ H s) (ha : SqT X.K H a (ns.map V.int)) :
    ∃ its : Array Value, s.heap.IsTuple a its ∧ its.size = ns.length ∧ ∀ j (h : j < its.size), ∃ t, its[j] = .int (ns.getD j 0) t := by
  obtain ⟨its, r1, p1, _⟩ := I.tuple ha
  have i1 : IntsAre its ns := Vals.ints r1
  exact ⟨its.toArray, p1, by rw [List.size_toArray]; exact i1.length, fun j h1 => PyProof.Rows.IntsAre.int_at i1 _ _ (by simp at h1; simp [h1])⟩
theorem op_cmpT {X : Cx} {op : CmpOp} (r : Int → Int → Bool) (z : Nat → Nat → Bool) (hz : ∀ a b, z (a + 1) (b + 1) = z a b) (hop : ∀ v u, compareOp op v u = richCompare op v u)
    (base : ∀ (A : Around) (s : Shared) (i j : Int) (t u : Tok), Ob.RcOp op A s (.int i t) (.int j u) (r i j))
    (tups : ∀ {A : Around} {s : Shared} {l b : Addr} {items items2 : Array Value} {e r : Nat → Bool}, s.heap.IsTuple l items → s.heap.IsTuple b items2 → A.units < cLine → (∀ j (h1 : j < items.size) (h2 : j < items2.size), SeqAt.EqAt A.in1 s items[j] items2[j] (e j)) →
      (∀ j (h1 : j < items.size) (h2 : j < items2.size), e j = false → Ob.RcOp op A.in1 s items[j] items2[j] (r j)) → Ob.RcOp op A s (.ref l) (.ref b) (Ob.lexAt e r (z items.size items2.size) 0 (min items.size items2.size)))
    (hu : X.A.units < cLine) : OpR X (compareOp op) (rCmpT X.K (lexG r z)) := by
  intro pins s σ H x y v u Q I rx ry h
  obtain ⟨a, b, ns, ms, rfl, rfl, ha, hb, q⟩ := h
  cases rx
  cases ry
  obtain ⟨its, p1, z1, g1⟩ := tupsOf I ha
  obtain ⟨its2, p2, z2, g2⟩ := tupsOf I hb
  have R := tups (e := fun j => decide (ns.getD j 0 = ms.getD j 0)) (r := fun j => r (ns.getD j 0) (ms.getD j 0)) p1 p2 hu (fun j h1 h2 => by
    obtain ⟨t, et⟩ := g1 j h1
    obtain ⟨t', et'⟩ := g2 j h2
    rw [et, et', ← Bool.beq_eq_decide_eq]
    exact SeqAt.EqAt.int_int _ _ _ _) (fun j h1 h2 _ => by
    obtain ⟨t, et⟩ := g1 j h1
    obtain ⟨t', et'⟩ := g2 j h2
    rw [et, et']
    exact base _ _ _ _ _ _)
  rw [z1, z2, lexAt_G r z hz] at R
  rw [hop]
  exact R X.prog X.w X.xe _ ⟨.bl _, H, I, rfl, q⟩
theorem op_ltD {X : Cx} (hu : X.A.units < cLine) : OpR X (compareOp .Lt) (fun x y H Q => rI0 (fun i j => .bl (decide (i < j))) x y H Q ∨ rCmpT X.K (lexG (fun x y => decide (x < y)) (fun a b => decide (a < b))) x y H Q) :=
  op_lt.or (op_cmpT _ (fun a b => decide (a < b)) (fun a b => by simp) (fun _ _ => rfl) (fun _ _ _ _ _ _ => Ob.RcOp.lt_int _ _ _ _) Ob.RcOp.tuples_lt hu)
theorem op_gtD {X : Cx} (hu : X.A.units < cLine) : OpR X (compareOp .Gt) (fun x y H Q => rI0 (fun i j => .bl (decide (j < i))) x y H Q ∨ rCmpT X.K (lexG (fun x y => decide (x > y)) (fun a b => decide (a > b))) x y H Q) :=
  op_gt.or (op_cmpT _ (fun a b => decide (a > b)) (fun a b => by simp) (fun _ _ => rfl) (fun _ _ _ _ _ _ => Ob.RcOp.gt_int _ _ _ _) Ob.RcOp.tuples_gt hu)
theorem op_leD {X : Cx} (hu : X.A.units < cLine) : OpR X (compareOp .LtE) (fun x y H Q => rI0 (fun i j => .bl (decide (i ≤ j))) x y H Q ∨ rCmpT X.K (lexG (fun x y => decide (x ≤ y)) (fun a b => decide (a ≤ b))) x y H Q) :=
  op_le.or (op_cmpT _ (fun a b => decide (a ≤ b)) (fun a b => by simp) (fun _ _ => rfl) (fun _ _ _ _ _ _ => Ob.RcOp.le_int _ _ _ _) Ob.RcOp.tuples_le hu)
theorem op_geD {X : Cx} (hu : X.A.units < cLine) : OpR X (compareOp .GtE) (fun x y H Q => rI0 (fun i j => .bl (decide (j ≤ i))) x y H Q ∨ rCmpT X.K (lexG (fun x y => decide (x ≥ y)) (fun a b => decide (a ≥ b))) x y H Q) :=
  op_ge.or (op_cmpT _ (fun a b => decide (a ≥ b)) (fun a b => by simp) (fun _ _ => rfl) (fun _ _ _ _ _ _ => Ob.RcOp.ge_int _ _ _ _) Ob.RcOp.tuples_ge hu)
def dCmp (p : Int → Int → Bool) (f : List Int → List Int → Bool) : R2D := fun a b st Q => match a, b with
  | .int i, .int j => Q (.bl (p i j)) st
  | .tup x, .tup y => ∃ ns ms, D.ints x = some ns ∧ D.ints y = some ms ∧ Q (.bl (f ns ms)) st
  | _, _ => False
theorem z_cmp {K : PySem.W.Frag} {p : Int → Int → Bool} {f g : List Int → List Int → Bool} (h : ∀ ns ms, g ns ms = f ns ms) : Rz K (fun x y H Q => rI0 (fun i j => .bl (p i j)) x y H Q ∨ rCmpT K g x y H Q) (dCmp p f) where
  mo := fun a b s Q Q' h q => by
    unfold dCmp at q ⊢
    split at q
    · exact h _ _ q
    · obtain ⟨ns, ms, e1, e2, q⟩ := q; exact ⟨ns, ms, e1, e2, h _ _ q⟩
    · exact q
  on := fun {H io F st x y a b Q} R n1 n2 q => by
    unfold dCmp at q
    split at q
    · cases n1
      cases n2
      exact .inl ⟨_, _, rfl, rfl, kE_now R (.bl _) q⟩
    · obtain ⟨ns, ms, e1, e2, q⟩ := q
      cases ints_eq e1
      cases ints_eq e2
      cases n1 with
      | tup s1 r1 _ =>
        cases n2 with
        | tup s2 r2 _ =>
          rw [den_ints r1] at s1
          rw [den_ints r2] at s2
          refine .inr ⟨_, _, ns, ms, rfl, rfl, SqT_mono R.sub s1.t, SqT_mono R.sub s2.t, ?_⟩
          rw [h]
          exact kE_now R (.bl _) q
    · exact q.elim
def dLt : R2D := dCmp (fun i j => decide (i < j)) HT.lexLt
def dGt : R2D := dCmp (fun i j => decide (j < i)) fun ns ms => HT.lexLt ms ns
def dLe : R2D := dCmp (fun i j => decide (i ≤ j)) fun ns ms => !HT.lexLt ms ns
def dGe : R2D := dCmp (fun i j => decide (j ≤ i)) fun ns ms => !HT.lexLt ns ms
theorem z_lt {K : PySem.W.Frag} : Rz K (fun x y H Q => rI0 (fun i j => .bl (decide (i < j))) x y H Q ∨ rCmpT K (lexG (fun x y => decide (x < y)) (fun a b => decide (a < b))) x y H Q) dLt := z_cmp (p := fun i j => decide (i < j)) lexG_lt
theorem z_gt {K : PySem.W.Frag} : Rz K (fun x y H Q => rI0 (fun i j => .bl (decide (j < i))) x y H Q ∨ rCmpT K (lexG (fun x y => decide (x > y)) (fun a b => decide (a > b))) x y H Q) dGt := z_cmp (p := fun i j => decide (j < i)) lexG_gt
theorem z_le {K : PySem.W.Frag} : Rz K (fun x y H Q => rI0 (fun i j => .bl (decide (i ≤ j))) x y H Q ∨ rCmpT K (lexG (fun x y => decide (x ≤ y)) (fun a b => decide (a ≤ b))) x y H Q) dLe := z_cmp (p := fun i j => decide (i ≤ j)) lexG_le
theorem z_ge {K : PySem.W.Frag} : Rz K (fun x y H Q => rI0 (fun i j => .bl (decide (j ≤ i))) x y H Q ∨ rCmpT K (lexG (fun x y => decide (x ≥ y)) (fun a b => decide (a ≥ b))) x y H Q) dGe := z_cmp (p := fun i j => decide (j ≤ i)) lexG_ge
mutual
/-- no list, no cell within; dicts are allowed -/
def D.okd : D → Bool
  | .non => true
  | .bl _ => true
  | .int _ => true
  | .str _ => true
  | .tup ds => D.okdL ds
  | .lst _ => false
  | .scr _ => false
  | .dct _ => true
  | .ref _ => false
  | .fn _ _ _ => false
  | .exc _ _ _ => false
def D.okdL : List D → Bool
  | [] => true
  | d :: r => d.okd && D.okdL r
end
mutual
inductive DpD (K : PySem.W.Frag) (H : Hp) : V → PyData → Prop
  | non : DpD K H .non .none
  | bl (b : Bool) : DpD K H (.bl b) (.bool b)
  | int (i : Int) : DpD K H (.int i) (.int i)
  | str (x : Str) : DpD K H (.str x) (.str x)
  | tup {a : Addr} {xs : List V} {ds : List PyData} : SqT K H a xs → DpDL K H xs ds → DpD K H (.ref a) (.tuple ds)
  | dct {a : Addr} {kvs : List (Key × Key)} : H a = some (.dK (kvs.map fun p => (p.1, kV p.2))) → DpD K H (.ref a) (.dict (kvs.map fun p => (kPy p.1, kPy p.2)))
inductive DpDL (K : PySem.W.Frag) (H : Hp) : List V → List PyData → Prop
  | nil : DpDL K H [] []
  | cons {v : V} {vs : List V} {d : PyData} {ds : List PyData} : DpD K H v d → DpDL K H vs ds → DpDL K H (v :: vs) (d :: ds)
end
theorem key_reads {h : Heap} {k : Key} {v : Value} (r : RelV (kV k) v) : Reads h v (kPy k) [] := by
  cases k with
  | inl i => obtain ⟨t, rfl⟩ := r; exact .int i t
  | inr x => obtain ⟨t, rfl⟩ := r; exact .str x t
theorem pairs_read {h : Heap} : ∀ (kvs : List (Key × Key)) (vs : List (Key × Value)), KV (kvs.map fun p => (p.1, kV p.2)) vs → PyProof.V.PairsRead h kPy vs (kvs.map fun p => (kPy p.1, kPy p.2)) []
  | [], vs, r => by rw [List.map_nil] at r; cases r; exact .nil
  | p :: kvs, vs, r => by
    rw [List.map_cons] at r
    cases r with
    | @cons a b as bs h1 t =>
      obtain ⟨b1, b2⟩ := b
      obtain ⟨e1, e2⟩ := h1
      subst e1
      exact .cons (as := []) (key_reads e2) (pairs_read kvs bs t)
section
variable {X : Cx} {pins : List (Addr × Obj)} {σ : L2.St} {H : Hp} {s : Shared}
mutual
theorem DpD.reads (I : Inv X pins σ H s) : ∀ {v : V} {d : PyData}, DpD X.K H v d → ∀ u : Value, RelV v u → ∃ as, Reads s.heap u d as ∧ sysModules ∉ as
  | _, _, .non, u, r => by cases r; exact ⟨_, .none, by simp⟩
  | _, _, .bl b, u, r => by cases r; exact ⟨_, .bool b, by simp⟩
  | _, _, .int i, u, r => by obtain ⟨t, rfl⟩ := r; exact ⟨_, .int i t, by simp⟩
  | _, _, .str x, u, r => by obtain ⟨t, rfl⟩ := r; exact ⟨_, .str x t, by simp⟩
  | _, _, .tup hs ha, u, r => by
    cases r
    obtain ⟨its, rv, ⟨o, ho, hc, n, hd⟩, _⟩ := I.tuple hs
    obtain ⟨as, hr, hn⟩ := DpDL.reads I ha its rv
    exact ⟨_, Reads.tuple ho hc hd hr, hn⟩
  | _, _, .dct e, u, r => by
    cases r
    obtain ⟨z, hs, vs, rk, hd⟩ := dk_of I.hok e
    refine ⟨_, PyProof.V.reads_dictOf (enc := kPy) (fun k key hk => key_reads (keyIs_rel hk)) hd (pairs_read _ vs rk), ?_⟩
    have hs := beq_eq_false_iff_ne.mp hs
    simp only [List.mem_singleton]
    exact fun z => hs z.symm
theorem DpDL.reads (I : Inv X pins σ H s) : ∀ {vs : List V} {ds : List PyData}, DpDL X.K H vs ds → ∀ us : List Value, Vals vs us → ∃ as, ReadsAll s.heap us ds as ∧ sysModules ∉ as
  | _, _, .nil, us, r => by cases r; exact ⟨_, .nil, by simp⟩
  | _, _, .cons h1 h2, us, r => by
    cases r with
    | cons r1 r2 =>
      obtain ⟨as, q1, n1⟩ := DpD.reads I h1 _ r1
      obtain ⟨bs, q2, n2⟩ := DpDL.reads I h2 _ r2
      exact ⟨_, .cons q1 q2, fun z => (List.mem_append.mp z).elim n1 n2⟩
end
end
mutual
/-- all numbers below 10 ^ 12 -/
def D.sml : D → Bool
  | .non => true
  | .bl _ => true
  | .int i => decide (i.natAbs < 10 ^ 12)
  | .str s => PyData.leavesShort 13 (.str s)
  | .tup ds => D.smlL ds
  | .lst ds => D.smlL ds
  | .scr ds => D.smlL ds
  | .dct kvs => (PyData.dict (kvs.map fun p => (kPy p.1, kPy p.2))).leavesShort 13 && (PyData.dict (kvs.map fun p => (kPy p.1, kPy p.2))).showable
  | .ref _ => false
  | .fn _ _ _ => false
  | .exc _ _ _ => false
def D.smlL : List D → Bool
  | [] => true
  | d :: r => d.sml && D.smlL r
end
mutual
/-- how many things -/
def D.blk : D → Nat
  | .str s => s.cps.size
  | .tup ds => D.blkL ds
  | .lst ds => D.blkL ds
  | .scr ds => D.blkL ds
  | .non => 0
  | .bl _ => 0
  | .int _ => 0
  | .dct kvs => (PyData.dict (kvs.map fun p => (kPy p.1, kPy p.2))).bulk
  | .ref _ => 0
  | .fn _ _ _ => 0
  | .exc _ _ _ => 0
def D.blkL : List D → Nat
  | [] => 0
  | d :: r => d.blk + 1 + D.blkL r
end
def D.rep (d : D) : Str := d.py.shown
def wFrz (i : Nat) : DE := fun env st Q => ∃ n ds, env[i]? = some (some (.ref n)) ∧ st[n]? = some (.lst ds) ∧ Q (.lst ds) (st.set n .dead)
theorem we_frz {X : Cx} {pos : Pos} {i : Nat} {x : Str} (hN : X.N[i]? = some x) (hv : Vis X.env.scope x) (hd : (x == ("__debug__" : Str)) = false := by decide) (hcd : (x == ("__classdict__" : Str)) = false := by decide) : WE X (.Name x pos) (wFrz i) := by
  refine ⟨fun e s Q Q' h ⟨n, ds, h1, h2, q⟩ => ⟨n, ds, h1, h2, h _ _ q⟩, PE_imp (pe_var hN hv hd hcd) fun σ H Q ⟨env, io, F, st, R, n, ds, e1, e2, q⟩ => ?_⟩
  obtain ⟨v, h1, h2⟩ := R.slot i _ e1
  refine ⟨v, h1, ?_⟩
  cases h2 with
  | @ref a _ h =>
    obtain ⟨xs, h3, h4, h5⟩ := R.at h e2
    have hF : F a = none := (R.cel n _ a e2 h).1
    have fr : ∀ b u, F b = some u → upd F a (.lst xs) b = some u := fun b u e => by
      rw [upd_ne (fun z => by subst z; rw [hF] at e; cases e)]; exact e
    have hmem := List.mem_of_getElem? h
    refine q _ io (upd F a (.lst xs)) H ⟨⟨[], by simp, fun _ h => by cases h⟩, fr, fun _ _ h _ _ => h, fun _ o h => ⟨o, h⟩, fun b u e => ?_⟩ ⟨fun b u e => ?_, by rw [List.length_set]; exact R.len, R.nd, R.there, fun m c b hm hb => ?_, fun q hq => let ⟨t1, t2, ps, t3, t4, t5⟩ := R.tab q hq; ⟨by rw [upd_ne (fun z => by rw [z] at t2; exact t2 hmem)]; exact t1, t2, ps, t3, t4, fun pos cv hc => let ⟨c, e1, e2⟩ := t5 pos cv hc; ⟨c, e1, fr _ _ e2⟩⟩⟩ (.lst upd_same (h4.mono (fun _ _ h => h) fr) h5)
    · by_cases z : b = a
      · subst z; exact .inr (.inr hmem)
      · rw [upd_ne z] at e; exact .inl e
    · by_cases z : b = a
      · subst z; rw [upd_same] at e; cases e; exact h3
      · rw [upd_ne z] at e; exact R.sub _ _ e
    · by_cases z : m = n
      · subst z
        have hl : m < st.length := by rw [← R.len]; exact (List.getElem?_eq_some_iff.mp h).1
        rw [List.getElem?_set_self hl] at hm
        cases hm
        trivial
      · rw [List.getElem?_set_ne (Ne.symm z)] at hm
        have ne : b ≠ a := fun e => by subst e; exact z (nodup_at R.nd hb h)
        have := R.cel m c b hm hb
        cases c with
        | lst ds => obtain ⟨q1, q2, vs, q3, q4⟩ := this; exact ⟨by rw [upd_ne ne]; exact q1, q2, vs, q3, q4.mono (fun _ _ h => h) fr⟩
        | dead => trivial
        | ins C fs => obtain ⟨q1, cc, dx, fv, qc, q3, q4⟩ := this; exact ⟨by rw [upd_ne ne]; exact q1, cc, dx, fv, qc, q3, Paired.mapP q4 fun _ _ z => ⟨z.1, z.2.mono (fun _ _ h => h) fr⟩⟩
        | dct b kvs => obtain ⟨q1, q2, u, q3, q4⟩ := this; exact ⟨by rw [upd_ne ne]; exact q1, q2, u, q3, q4⟩
theorem tup_mul_same (l : Addr) (items : Array Value) (n : Nat) (dd : Option Addr) (sl : Array (Option Value)) (x : Int) (u : Tok) (c0 : (decide (x < -(2 ^ 63)) || decide (x ≥ 2 ^ 63)) = false) (c1 : (items.isEmpty || x == 1) = true) :
    Meets (Builtin.«tuple.__mul__» ⟨[.ref l, .int x u], []⟩) (fun _ R s => s.heap.get? l = some { cls := .type "tuple", dict := dd, data := .seq items n, slots := sl } ∧ R (.ok (.ret (Value.ref l))) s) :=
  .of_wp fun prog w A R s h => by
    obtain ⟨hp, g, d, tk, os⟩ := s
    obtain ⟨hl, h⟩ := h
    have f1 := AutoSeq1.idx_int
    have hT : (⟨hp, g, d, tk, os⟩ : Shared).TypeIs (.ref l) "tuple" := ⟨_, hl, rfl⟩
    wp_walk using wpAny_loadPart' hl
    repeat (first
      | (refine wpAny_ite_false (decide_eq_false (by rw [c0]; exact Bool.false_ne_true)) ?_; wp_walk using wpAny_loadPart' hl)
      | (refine wpAny_ite_true (decide_eq_true c1) ?_; wp_walk using wpAny_loadPart' hl))
    exact ⟨_, rfl, h⟩
theorem tup_mul_none (l : Addr) (items : Array Value) (n : Nat) (dd : Option Addr) (sl : Array (Option Value)) (x : Int) (u : Tok) (c0 : (decide (x < -(2 ^ 63)) || decide (x ≥ 2 ^ 63)) = false) (c1 : (items.isEmpty || x == 1) = false) (c2 : (decide (x ≤ 0) || items.isEmpty) = true) :
    Meets (Builtin.«tuple.__mul__» ⟨[.ref l, .int x u], []⟩) (fun _ R s => s.heap.get? l = some { cls := .type "tuple", dict := dd, data := .seq items n, slots := sl } ∧
      R (.ok (.ret (Value.ref s.heap.objs.size))) { s with heap := s.heap.push { cls := Value.type "tuple", data := Data.seq #[] }, toks := s.toks }) :=
  .of_wp fun prog w A R s h => by
    obtain ⟨hp, g, d, tk, os⟩ := s
    obtain ⟨hl, h⟩ := h
    have f1 := AutoSeq1.idx_int
    wp_walk using wpAny_loadPart' hl
    repeat (first
      | (refine wpAny_ite_false (decide_eq_false (by rw [c0]; exact Bool.false_ne_true)) ?_; wp_walk using wpAny_loadPart' hl)
      | (refine wpAny_ite_false (decide_eq_false (by rw [c1]; exact Bool.false_ne_true)) ?_; wp_walk using wpAny_loadPart' hl)
      | (refine wpAny_ite_true (decide_eq_true c2) ?_; wp_walk using wpAny_loadPart' hl))
    exact ⟨_, rfl, h⟩
def rRep1 (K : PySem.W.Frag) : R2 := fun x y H Q => ∃ l k xs, x = .ref l ∧ y = .int k ∧ SqT K H l xs ∧ -(2 ^ 63) ≤ k ∧ k < 2 ^ 63 ∧ (((xs = [] ∨ k = 1) ∧ Q (.ref l) H) ∨ (xs ≠ [] ∧ k ≤ 0 ∧ XtK H Q []) ∨ (xs ≠ [] ∧ 2 ≤ k ∧ k ≤ 1000 ∧ xs.length ≤ 1000 ∧ XtK H Q (List.replicate k.toNat xs).flatten))
theorem op_rep1 {X : Cx} : OpR X (binaryOp .Mult) (rRep1 X.K) := by
  intro pins s σ H x y v u Q I rx ry h
  obtain ⟨l, k, xs, rfl, rfl, hT, k0, k1, h⟩ := h
  cases rx
  obtain ⟨t, rfl⟩ := ry
  obtain ⟨its, r, ⟨⟨cls, dd, data, sl⟩, ho, hc, n, hd⟩, hs⟩ := I.tuple hT
  simp only at hc hd
  subst hc hd
  have c0 : (decide (k < -(2 ^ 63)) || decide (k ≥ 2 ^ 63)) = false := by
    rw [decide_eq_false (by omega), decide_eq_false (by omega)] <;> rfl
  have emp : its.toArray.isEmpty = decide (xs = []) := by
    cases r with
    | nil => rfl
    | cons _ _ => rfl
  have road : ∀ {Q₁ : Value → Shared → Prop}, wpAny (model X.prog X.w) X.A (call (.builtin "tuple.__mul__") [.ref l, .int k t]) Q₁ X.xe s → wpAny (model X.prog X.w) X.A (binaryOp .Mult (.ref l) (.int k t)) Q₁ X.xe s := fun {Q₁} hq =>
    wpAny_binaryOp_repeat_ref (T := "tuple") (U := "int") (by decide) ⟨_, ho, rfl⟩ (fun s' => typeIs_int s' k t) noFill_tuple_mul F.fills_int_mul F.slot_int_rmul repeat_tuple F.slot_int_index.lookup
      (call_meets F.slot_int_rmul (typeIs_int s k t) F.entry_int_rmul (F.args_int_rmul_2 _ _) (int_rmul_tuple k t l its.toArray n dd sl) ⟨ho, rfl, ⟨_, ho, rfl⟩, hq⟩)
  rcases h with ⟨hk, q⟩ | ⟨hne, hk, q⟩ | ⟨hne, hk, hk2, hx, q⟩
  · refine road (call_meets F.slot_tuple_mul ⟨_, ho, rfl⟩ F.entry_tuple_mul (F.args_tuple_mul_2 _ _) (tup_mul_same l its.toArray n dd sl k t c0 ?_) ⟨ho, .ref l, H, I, rfl, q⟩)
    rw [emp]
    rcases hk with e | e
    · rw [decide_eq_true e]; rfl
    · subst e; exact Bool.or_true _
  · have e1 : (its.toArray.isEmpty || k == 1) = false := by
      rw [emp, decide_eq_false hne, Bool.false_or]
      exact beq_eq_false_iff_ne.mpr (by omega)
    refine road (call_meets F.slot_tuple_mul ⟨_, ho, rfl⟩ F.entry_tuple_mul (F.args_tuple_mul_2 _ _) (tup_mul_none l its.toArray n dd sl k t c0 e1 ?_) ⟨ho, ?_⟩)
    · rw [decide_eq_true hk]; rfl
    · exact new_tup (its := []) I (Nat.zero_le _) .nil q
  · have le := r.length
    have e0 : its.toArray.isEmpty = false := by rw [emp]; exact decide_eq_false hne
    have e1 : (its.toArray.isEmpty || k == 1) = false := by rw [e0, Bool.false_or]; exact beq_eq_false_iff_ne.mpr (by omega)
    have e2 : (decide (k ≤ 0) || its.toArray.isEmpty) = false := by rw [e0, Bool.or_false]; exact decide_eq_false (by omega)
    have mm : k.toNat * xs.length ≤ 1000 * 1000 := Nat.mul_le_mul (by omega) hx
    have sz : its.toArray.size = xs.length := by rw [List.size_toArray]; exact le.symm
    have ml : ((its.toArray.size : Nat) : Int) * k ≤ 1000000 := by
      rw [sz, show k = ((k.toNat : Nat) : Int) by omega, ← Int.natCast_mul, Nat.mul_comm]
      omega
    have fl : (List.replicate k.toNat its).flatten.length ≤ sizeLine := by rw [PyProof.Rows.lm_len_rep_flat, ← le, sizeLine_eq]; omega
    refine road (call_meets F.slot_tuple_mul ⟨_, ho, rfl⟩ F.entry_tuple_mul (F.args_tuple_mul_2 _ _) (tuple_mulW l its.toArray n dd sl k t c0 e1 e2 (by omega) (by unfold Builtin.Tuple.tupleTooMany; rw [sizeLine_eq]; exact decide_eq_false (by omega)) (by rw [size_rep, List.size_toArray]; exact fl)) ⟨ho, ?_⟩)
    rw [size_rep]
    exact new_tup I (by rw [PyProof.Rows.lm_len_rep_flat, sizeLine_eq]; omega) (r.rep k.toNat) q
def dMul : R2D := fun a b st Q => match rd st a, b with
  | .int i, .int j => CMul i j ∧ Q (.int (i * j)) st
  | .lst x, .int k => -(2 ^ 63) ≤ k ∧ k < 2 ^ 63 ∧ x.length * k.toNat ≤ sizeLine ∧ Q (.lst (List.replicate k.toNat x).flatten) st
  | .tup x, .int k => -(2 ^ 63) ≤ k ∧ k ≤ 1000 ∧ x.length ≤ 1000 ∧ Q (.tup (List.replicate k.toNat x).flatten) st
  | _, _ => False
/-- a list whose cell is one's own -/
def dMulM : R2D := fun a b st Q => ∃ x k, rd st a = .lst x ∧ b = .int k ∧ -(2 ^ 63) ≤ k ∧ k < 2 ^ 63 ∧ x.length * k.toNat ≤ sizeLine ∧ Q (.ref st.length) (st ++ [.lst (List.replicate k.toNat x).flatten])
def dAddM : R2D := fun a b st Q => ∃ x y, rd st a = .lst x ∧ rd st b = .lst y ∧ x.length + y.length ≤ sizeLine ∧ Q (.ref st.length) (st ++ [.lst (x ++ y)])
def rMulD (K : PySem.W.Frag) : R2 := fun x y H Q => rI CMul (fun i j => .int (i * j)) x y H Q ∨ rRep x y H Q ∨ rRep1 K x y H Q
theorem op_mulD {X : Cx} : OpR X (binaryOp .Mult) (rMulD X.K) := op_mul.or (op_rep.or op_rep1)
theorem flat_len {α : Type} (x : List α) : ∀ n : Nat, (List.replicate n x).flatten.length = x.length * n
  | 0 => by simp
  | n + 1 => by rw [List.replicate_succ, List.flatten_cons, List.length_append, flat_len x n, Nat.mul_succ, Nat.add_comm]
theorem flat_nil {α : Type} : ∀ n : Nat, (List.replicate n ([] : List α)).flatten = []
  | 0 => rfl
  | n + 1 => by rw [List.replicate_succ, List.flatten_cons, flat_nil n]; rfl
theorem z_mul {X : Cx} : Rz X.K (rMulD X.K) dMul where
  mo := fun a b s Q Q' h q => by
    unfold dMul at q ⊢
    split at q
    · exact ⟨q.1, h _ _ q.2⟩
    · exact ⟨q.1, q.2.1, q.2.2.1, h _ _ q.2.2.2⟩
    · exact ⟨q.1, q.2.1, q.2.2.1, h _ _ q.2.2.2⟩
    · exact q
  on := fun {H io F st x y a b Q} R n1 n2 q => by
    unfold dMul at q
    split at q
    · rename_i i j e1
      cases rd_int e1
      cases n1
      cases n2
      exact .inl ⟨_, _, rfl, rfl, q.1, kE_now R (.int _) q.2⟩
    · rename_i xs k e1
      obtain ⟨p, vs, rfl, h1, h2, h3⟩ := rd_lst R n1 e1
      cases n2
      exact .inr (.inl ⟨p, k, vs, rfl, rfl, h1, q.1, q.2.1, by rw [h2.length]; exact q.2.2.1, lay_lst R (h2.flat _) (by rw [flat_len]; exact q.2.2.1) q.2.2.2⟩)
    · rename_i xs k e1
      cases rd_tup e1
      cases n2
      cases n1 with
      | @tup p vs _ s r z =>
        obtain ⟨q1, q2, q3, q⟩ := q
        have hz : (List.replicate k.toNat xs).flatten.length ≤ sizeLine := by
          rw [flat_len, sizeLine_eq]
          have : xs.length * k.toNat ≤ 1000 * 1000 := Nat.mul_le_mul q3 (by omega)
          omega
        by_cases hx : xs = []
        · subst hx
          cases r
          rw [flat_nil] at q
          exact .inr (.inr ⟨p, k, [], rfl, rfl, SqT_mono R.sub s.t, q1, by omega, .inl ⟨.inl rfl, kE_now R (.tup s .nil z) q⟩⟩)
        · have hv : vs ≠ [] := fun e => hx (by subst e; cases r; rfl)
          by_cases h1 : k = 1
          · subst h1
            have e : (List.replicate (1 : Int).toNat xs).flatten = xs := by simp
            rw [e] at q
            exact .inr (.inr ⟨p, 1, vs, rfl, rfl, SqT_mono R.sub s.t, by omega, by omega, .inl ⟨.inr rfl, kE_now R (.tup s r z) q⟩⟩)
          · by_cases h0 : k ≤ 0
            · have e : k.toNat = 0 := by omega
              rw [e] at q
              exact .inr (.inr ⟨p, k, vs, rfl, rfl, SqT_mono R.sub s.t, by omega, by omega, .inr (.inl ⟨hv, h0, lay_tup R .nil (Nat.zero_le _) q⟩)⟩)
            · exact .inr (.inr ⟨p, k, vs, rfl, rfl, SqT_mono R.sub s.t, by omega, by omega, .inr (.inr ⟨hv, by omega, q2, by rw [r.length]; exact q3, lay_tup R (r.flat _) hz q⟩)⟩)
    · exact q.elim
theorem z_mulM {X : Cx} : Rz X.K (rMulD X.K) dMulM where
  mo := fun a b s Q Q' h ⟨x, k, e1, e2, h1, h2, h3, q⟩ => ⟨x, k, e1, e2, h1, h2, h3, h _ _ q⟩
  on := fun {H io F st x y a b Q} R n1 n2 ⟨xs, k, e1, e2, q1, q2, q3, q⟩ => by
    subst e2
    obtain ⟨p, vs, rfl, h1, h2, h3⟩ := rd_lst R n1 e1
    cases n2
    exact .inr (.inl ⟨p, k, vs, rfl, rfl, h1, q1, q2, by rw [h2.length]; exact q3, lay_cell R (h2.flat _) (by rw [flat_len]; exact q3) q⟩)
theorem z_addM {X : Cx} : Rz X.K (rAddD X.K) dAddM where
  mo := fun a b s Q Q' h ⟨x, k, e1, e2, h1, q⟩ => ⟨x, k, e1, e2, h1, h _ _ q⟩
  on := fun {H io F st x y a b Q} R n1 n2 ⟨xs, ys, e1, e2, q1, q⟩ => by
    obtain ⟨p1, xs, rfl, h1, r1, z1⟩ := rd_lst R n1 e1
    obtain ⟨p2, ys, rfl, h2, r2, z2⟩ := rd_lst R n2 e2
    exact .inr (.inr (.inl ⟨_, _, _, _, rfl, rfl, h1, h2, by rw [r1.length, r2.length]; exact q1, lay_cell R (r1.append r2) (by rw [List.length_append]; exact q1) q⟩))
end DL
namespace DL
open PySem PySem.Spec PyProof.Rows L2
variable [Bs]
theorem bb_len : bootBuiltins "len" = some (.builtin "len") := by decide +kernel
theorem bb_abs : bootBuiltins "abs" = some (.builtin "abs") := by decide +kernel
theorem bb_sum : bootBuiltins "sum" = some (.builtin "sum") := by decide +kernel
theorem bb_any : bootBuiltins "any" = some (.builtin "any") := by decide +kernel
theorem bb_all : bootBuiltins "all" = some (.builtin "all") := by decide +kernel
theorem bb_min : bootBuiltins "min" = some (.builtin "min") := by decide +kernel
theorem bb_max : bootBuiltins "max" = some (.builtin "max") := by decide +kernel
theorem bb_int : bootBuiltins "int" = some (.type "int") := by decide +kernel
theorem bb_bool : bootBuiltins "bool" = some (.type "bool") := by decide +kernel
theorem bb_tuple : bootBuiltins "tuple" = some (.type "tuple") := by decide +kernel
theorem bb_list : bootBuiltins "list" = some (.type "list") := by decide +kernel
theorem hu1 {k : Nat} {A : Around} (hr : Room k A) : A.units + 65 < cLine := by have := hr.un; omega
/-- a law's def, at the end -/
theorem law_end {K : PySem.W.Frag} {S : Spec} (hn : S.n = 1) (g : List Int → S.G) (ha : ∀ ns, S.args (g ns) = [.scr (ns.map .int)]) (hpre : ∀ ns : List Int, ns.length ≤ 63 → S.pre (g ns) []) (hpost : ∀ x st d st', S.post x st d st' → d = .bl true) (H : Hp) (a : Addr) (ns : List Int) (hl : ns.length ≤ 63) (hT : ∀ p ∈ tabCs K, H p.2 = some (.tbl #[])) (hS : SqL K H a (ns.map V.int)) :
    spOf K S [.ref a] H (fun v _ => v = .bl true) fun _ _ _ => False := by
  have den : ∀ ns : List Int, DenL K [] H (ns.map V.int) (ns.map D.int) := fun ns => by
    induction ns with
    | nil => exact .nil
    | cons n r ih => exact .cons (.int n) ih
  have hz : (ns.map D.int).length ≤ sizeLine := by rw [List.length_map, sizeLine_eq]; omega
  let F : Hp := fun b => match H b with
    | some (.tbl _) => none
    | o => o
  have fS : ∀ b o, F b = some o → H b = some o := fun b o e => by
    have e : (match H b with | some (.tbl _) => none | o => o) = some o := e
    split at e
    · cases e
    · exact e
  have fN : ∀ b o, H b = some o → (∀ ps, o ≠ .tbl ps) → F b = some o := fun b o e n => by
    show (match H b with | some (.tbl _) => none | o => o) = some o
    rw [e]
    cases o <;> first | rfl | exact absurd rfl (n _)
  have sq : SqL K F a (ns.map V.int) := by
    rcases hS with (h | ⟨o, h⟩) | h
    · exact .inl (.inl (fN _ _ h fun _ z => nomatch z))
    · exact .inl (.inr ⟨o, fN _ _ h fun _ z => nomatch z⟩)
    · exact .inr h
  have ht : ∀ p ∈ tabsOf K, F p.1 = none ∧ p.1 ∉ ([] : List Addr) ∧ ∃ ps, H p.1 = some (.tbl ps) ∧ TriplesOk ps.toList ∧ ∀ (pos : Pos) (cv : Value), codeAmong pos ps.toList = some cv → ∃ c, cv = .ref c ∧ F c = some (LamX.CodeO c p.2) := fun p hp => by
    obtain ⟨c, hc⟩ := tabs_cs hp
    have hH := hT _ hc
    refine ⟨?_, by simp, #[], hH, True.intro, fun pos cv h => ?_⟩
    · show (match H p.1 with | some (.tbl _) => none | o => o) = none
      have hH : H p.1 = some (.tbl #[]) := hH
      rw [hH]
    · have : codeAmong pos [] = some cv := h
      simp [codeAmong] at this
  have den : ∀ ns : List Int, DenL K [] F (ns.map V.int) (ns.map D.int) := fun ns => by
    induction ns with
    | nil => exact .nil
    | cons n r ih => exact .cons (.int n) ih
  refine ⟨g ns, [], F, [], by rw [ha, hn]; rfl, ⟨fS, rfl, List.nodup_nil, (fun _ h => nomatch h), (fun n c e h1 h2 => by simp at h1), ht⟩, by rw [ha]; exact .cons (.scr sq (den ns) hz) .nil, hpre ns hl, fun d st' h => ?_⟩
  · have e := hpost _ _ _ _ h
    subst e
    intro v io' F' H' s r n
    cases n
    rfl
end DL
namespace DL
open PySem PySem.Spec PyProof.Rows L2
variable [Bs]
theorem compL_inv {G : Sto → Prop} {t : Tg} {c : DT} {w : DE} {env : En} {Q : LK} {ds : List D} (I : Nat → Sto → List D → Prop)
    (step : ∀ i st acc d, I i st acc → ds[i]? = some d → ∀ R : Sto → List D → Prop, (∀ s a, I (i + 1) s a → R s a) → G st ∧ t.dg d env st fun e s => c e s fun b s1 => if b = true then w e s1 fun x s2 => R s2 (acc ++ [x]) else R s1 acc)
    (fin : ∀ st acc, I ds.length st acc → G st ∧ Q acc st) (st : Sto) (acc : List D) (h : I 0 st acc) : wCompL G t c w env ds st acc Q := by
  have key : ∀ (n i : Nat) (st : Sto) (acc : List D), i + n = ds.length → I i st acc → wCompL G t c w env (ds.drop i) st acc Q := fun n => by
    induction n with
    | zero =>
      intro i st acc e hI
      have e' : i = ds.length := by omega
      subst e'
      rw [List.drop_length]
      exact fin st acc hI
    | succ n ih =>
      intro i st acc e hI
      have hlt : i < ds.length := by omega
      rw [List.drop_eq_getElem_cons hlt]
      exact step i st acc _ hI (List.getElem?_eq_getElem hlt) (fun s a => wCompL G t c w env (ds.drop (i + 1)) s a Q) fun s a h => ih (i + 1) s a (by omega) h
  have := key ds.length 0 st acc (by omega) h
  rwa [List.drop_zero] at this
theorem forL_inv {G : Sto → Prop} {g : DG} {b : DS} {A : DEnds} {ds : List D} (I : Nat → En → Sto → Prop)
    (step : ∀ i env st d, I i env st → ds[i]? = some d → ∀ R : En → Sto → Prop, (∀ e s, I (i + 1) e s → R e s) → G st ∧ g d env st fun e s => b { nx := R, rt := A.rt, bk := A.nx, ct := R } e s)
    (fin : ∀ env st, I ds.length env st → G st ∧ A.nx env st) (env : En) (st : Sto) (h : I 0 env st) : wForL G g b A ds env st := by
  have key : ∀ (n i : Nat) (env : En) (st : Sto), i + n = ds.length → I i env st → wForL G g b A (ds.drop i) env st := fun n => by
    induction n with
    | zero =>
      intro i env st e hI
      have e' : i = ds.length := by omega
      subst e'
      rw [List.drop_length]
      exact fin env st hI
    | succ n ih =>
      intro i env st e hI
      have hlt : i < ds.length := by omega
      rw [List.drop_eq_getElem_cons hlt]
      exact step i env st _ hI (List.getElem?_eq_getElem hlt) (wForL G g b A (ds.drop (i + 1))) fun e s h => ih (i + 1) e s (by omega) h
  have := key ds.length 0 env st (by omega) h
  rwa [List.drop_zero] at this
/-- a comprehension that leaves the store, over encoded items -/
theorem compL_map {α : Type} {G : Sto → Prop} {t : Tg} {c : DT} {w : DE} {env : En} {Q : LK} {st : Sto} (enc : α → D) (f : α → Option D) (hG : G st) :
    ∀ (xs : List α) (acc : List D), (∀ x ∈ xs, ∀ R : Option D → Sto → Prop, R (f x) st → t.dg (enc x) env st fun e s => c e s fun b s1 => if b = true then w e s1 fun y s2 => R (some y) s2 else R none s1) →
    Q (acc ++ xs.filterMap f) st → wCompL G t c w env (xs.map enc) st acc Q
  | [], acc, _, q => ⟨hG, by simpa using q⟩
  | x :: xs, acc, step, q => by
    refine ⟨hG, step x List.mem_cons_self (fun o s => match o with | some y => wCompL G t c w env (xs.map enc) s (acc ++ [y]) Q | none => wCompL G t c w env (xs.map enc) s acc Q) ?_⟩
    cases e : f x with
    | some y =>
      refine compL_map enc f hG xs _ (fun z hz => step z (List.mem_cons_of_mem _ hz)) ?_
      rw [List.filterMap_cons, e] at q
      rwa [List.append_assoc]
    | none =>
      refine compL_map enc f hG xs _ (fun z hz => step z (List.mem_cons_of_mem _ hz)) ?_
      rw [List.filterMap_cons, e] at q
      exact q
theorem rangeD_at {lo : Int} {n i : Nat} {d : D} (h : (rangeD lo n)[i]? = some d) : i < n ∧ d = .int (lo + i) := by
  unfold rangeD at h
  rw [List.getElem?_map] at h
  cases e : (List.range n)[i]? with
  | none => rw [e] at h; cases h
  | some j =>
    rw [e] at h
    cases h
    obtain ⟨h1, h2⟩ := List.getElem?_eq_some_iff.mp e
    rw [List.length_range] at h1
    rw [List.getElem_range] at h2
    subst h2
    exact ⟨h1, rfl⟩
@[simp] theorem rangeD_len (lo : Int) (n : Nat) : (rangeD lo n).length = n := by simp [rangeD]
def rangeI (lo : Int) (n : Nat) : List Int := (List.range n).map fun (i : Nat) => lo + i
theorem rangeD_eq (lo : Int) (n : Nat) : rangeD lo n = (rangeI lo n).map D.int := by simp [rangeD, rangeI]
theorem mem_rangeI {lo x : Int} {n : Nat} : x ∈ rangeI lo n ↔ lo ≤ x ∧ x < lo + n := by
  unfold rangeI
  rw [List.mem_map]
  constructor
  · rintro ⟨i, hi, rfl⟩
    rw [List.mem_range] at hi
    omega
  · rintro ⟨h1, h2⟩
    exact ⟨(x - lo).toNat, List.mem_range.mpr (by omega), by omega⟩
@[simp] theorem rangeI_len (lo : Int) (n : Nat) : (rangeI lo n).length = n := by simp [rangeI]
@[simp] theorem rd_int' (st : Sto) (i : Int) : rd st (.int i) = .int i := rfl
@[simp] theorem rd_bl' (st : Sto) (i : Bool) : rd st (.bl i) = .bl i := rfl
@[simp] theorem rd_str' (st : Sto) (i : Str) : rd st (.str i) = .str i := rfl
@[simp] theorem rd_tup' (st : Sto) (i : List D) : rd st (.tup i) = .tup i := rfl
@[simp] theorem rd_lst' (st : Sto) (i : List D) : rd st (.lst i) = .lst i := rfl
@[simp] theorem rd_scr' (st : Sto) (i : List D) : rd st (.scr i) = .scr i := rfl
@[simp] theorem rd_non' (st : Sto) : rd st .non = .non := rfl
theorem rd_ref' {st : Sto} {n : Nat} {ds : List D} (h : st[n]? = some (.lst ds)) : rd st (.ref n) = .lst ds := by
  unfold rd; simp only [h]
theorem atI_of {α : Type} {xs : List α} {i : Int} {x : α} (h0 : 0 ≤ i) (h : xs[i.toNat]? = some x) : atI xs i = some x := by
  have hl := (List.getElem?_eq_some_iff.mp h).1
  unfold atI ixN
  rw [if_pos h0, if_pos (by omega)]
  exact h
theorem atI_map {α β : Type} {f : α → β} {xs : List α} {i : Int} {x : α} (h : atI xs i = some x) : atI (xs.map f) i = some (f x) := by
  unfold atI at h ⊢
  rw [List.length_map]
  cases e : ixN xs.length i with
  | none => rw [e] at h; cases h
  | some j =>
    rw [e] at h
    show (xs.map f)[j]? = _
    rw [List.getElem?_map, show xs[j]? = some x from h]
    rfl
end DL
namespace DL
open PySem PySem.Spec PyProof.Rows L2
variable [Bs]
section
variable {C : Int → Int → Prop} {g : Int → Int → D} {i j : Int} {st : Sto} {Q : DK} {env : En} {a b : D} {ds es : List D}
theorem v_dI : dI C g (.int i) (.int j) st Q = (C i j ∧ Q (g i j) st) := propext ⟨fun ⟨_, _, e1, e2, c, q⟩ => by cases e1; cases e2; exact ⟨c, q⟩, fun ⟨c, q⟩ => ⟨_, _, rfl, rfl, c, q⟩⟩
theorem v_sub : dSub (.int i) (.int j) st Q = Q (.int (i - j)) st := by unfold dSub; rw [v_dI]; simp
theorem v_mod : dMod (.int i) (.int j) st Q = (0 < j ∧ Q (.int (i % j)) st) := v_dI
theorem v_fdiv : dFdiv (.int i) (.int j) st Q = ((0 < j ∧ j < 2 ^ 62) ∧ Q (.int (i / j)) st) := v_dI
theorem v_pow : dPow (.int i) (.int j) st Q = ((0 ≤ j ∧ j ≤ 1000000 ∧ i.natAbs < 2 ^ 64) ∧ Q (.int (i ^ j.toNat)) st) := v_dI
theorem v_iadd : dI T2 (fun i j => .int (i + j)) (.int i) (.int j) st Q = Q (.int (i + j)) st := by rw [v_dI]; simp
theorem v_add : dAdd (.int i) (.int j) st Q = Q (.int (i + j)) st := rfl
theorem v_addT : dAdd (.tup ds) (.tup es) st Q = (ds.length + es.length ≤ sizeLine ∧ Q (.tup (ds ++ es)) st) := rfl
theorem v_addL : dAdd (.lst ds) (.lst es) st Q = (ds.length + es.length ≤ sizeLine ∧ Q (.lst (ds ++ es)) st) := rfl
theorem v_mul : dMul (.int i) (.int j) st Q = (CMul i j ∧ Q (.int (i * j)) st) := rfl
theorem v_lt : dLt (.int i) (.int j) st Q = Q (.bl (decide (i < j))) st := rfl
theorem v_le : dLe (.int i) (.int j) st Q = Q (.bl (decide (i ≤ j))) st := rfl
theorem v_gt : dGt (.int i) (.int j) st Q = Q (.bl (decide (j < i))) st := rfl
theorem v_ge : dGe (.int i) (.int j) st Q = Q (.bl (decide (j ≤ i))) st := rfl
theorem v_eqO {f : Bool → Bool} (h : ∀ x, a ≠ .str x) : dEqB f a b st Q = dEqO f a b st Q := propext ⟨fun q => by rcases q with ⟨x, _, e, _⟩ | q; exact absurd e (h x); exact q, .inr⟩
theorem v_eqi {f : Bool → Bool} : dEqB f (.int i) (.int j) st Q = Q (.bl (f (i == j))) st := by
  rw [v_eqO (a := .int i) (fun _ h => nomatch h)]
  unfold dEqO; simp [D.ok, D.dep, D.eqv]
theorem v_ixT : dIx (.tup ds) (.int i) st Q = ∃ d, atI ds i = some d ∧ Q d st := propext ⟨fun ⟨_, e, q⟩ => by cases e; exact q, fun q => ⟨_, rfl, q⟩⟩
theorem v_ixL : dIx (.lst ds) (.int i) st Q = ∃ d, atI ds i = some d ∧ Q d st := propext ⟨fun ⟨_, e, q⟩ => by cases e; exact q, fun q => ⟨_, rfl, q⟩⟩
theorem v_ixS : dIx (.scr ds) (.int i) st Q = ∃ d, atI ds i = some d ∧ Q d st := propext ⟨fun ⟨_, e, q⟩ => by cases e; exact q, fun q => ⟨_, rfl, q⟩⟩
theorem v_var {k : Nat} {d : D} (h : env[k]? = some (some d)) : wVar k env st Q = Q d st := propext ⟨fun ⟨e, h2, q⟩ => by rw [h] at h2; cases h2; exact q, fun q => ⟨_, h, q⟩⟩
theorem v_var0 {d : D} : wVar 0 (some d :: env) st Q = Q d st := v_var rfl
theorem v_varS {k : Nat} {x : Option D} : wVar (k + 1) (x :: env) st Q = wVar k env st Q := propext ⟨fun ⟨e, h2, q⟩ => ⟨e, by simpa using h2, q⟩, fun ⟨e, h2, q⟩ => ⟨e, by simpa using h2, q⟩⟩
theorem v_len {n : Nat} (h : lenD (rd st a) = some n) : bLen [a] st Q = Q (.int (n : Nat)) st := propext ⟨fun ⟨_, _, e, h2, q⟩ => by cases e; rw [h] at h2; cases h2; exact q, fun q => ⟨_, _, rfl, h, q⟩⟩
theorem v_lenT : bLen [.tup ds] st Q = Q (.int ds.length) st := v_len rfl
theorem v_lenL : bLen [.lst ds] st Q = Q (.int ds.length) st := v_len rfl
theorem v_lenS : bLen [.scr ds] st Q = Q (.int ds.length) st := v_len rfl
theorem v_abs : bAbs [.int i] st Q = Q (.int (if i < 0 then -i else i)) st := propext ⟨fun ⟨_, e, q⟩ => by cases e; exact q, fun q => ⟨_, rfl, q⟩⟩
theorem v_min2 : bMin2 [.int i, .int j] st Q = Q (.int (if j < i then j else i)) st := propext ⟨fun ⟨_, _, e, q⟩ => by cases e; exact q, fun q => ⟨_, _, rfl, q⟩⟩
theorem v_max2 : bMax2 [.int i, .int j] st Q = Q (.int (if j > i then j else i)) st := propext ⟨fun ⟨_, _, e, q⟩ => by cases e; exact q, fun q => ⟨_, _, rfl, q⟩⟩
theorem v_intI : bInt [.int i] st Q = Q (.int i) st := propext ⟨fun ⟨_, e, q⟩ => by cases e; exact q, fun q => ⟨_, rfl, q⟩⟩
theorem v_intB {c : Bool} : bInt [.bl c] st Q = Q (.int (if c then 1 else 0)) st := propext ⟨fun ⟨_, e, q⟩ => by cases e; exact q, fun q => ⟨_, rfl, q⟩⟩
theorem v_tupL (h : rd st a = .lst ds) : bTuple [a] st Q = Q (.tup ds) st := propext ⟨fun ⟨_, _, e, h2, q⟩ => by cases e; rw [h] at h2; rcases h2 with h2 | h2 <;> cases h2; exact q, fun q => ⟨_, _, rfl, .inl h, q⟩⟩
theorem v_tupl : bTuple [.lst ds] st Q = Q (.tup ds) st := v_tupL rfl
theorem v_tupT : bTuple [.tup ds] st Q = Q (.tup ds) st := propext ⟨fun ⟨_, _, e, h2, q⟩ => by cases e; rcases h2 with h2 | h2 <;> cases h2; exact q, fun q => ⟨_, _, rfl, .inr rfl, q⟩⟩
theorem v_any {bs : List Bool} : bAny [.lst (bs.map .bl)] st Q = Q (.bl (bs.any id)) st := propext ⟨fun ⟨_, _, _, e, h2, h3, q⟩ => by cases e; cases h2; rw [bools_map] at h3; cases h3; exact q, fun q => ⟨_, _, _, rfl, rfl, bools_map _, q⟩⟩
theorem v_all {bs : List Bool} : bAll [.lst (bs.map .bl)] st Q = Q (.bl (bs.all id)) st := propext ⟨fun ⟨_, _, _, e, h2, h3, q⟩ => by cases e; cases h2; rw [bools_map] at h3; cases h3; exact q, fun q => ⟨_, _, _, rfl, rfl, bools_map _, q⟩⟩
theorem v_sum {ns : List Int} : bSum [.lst (ns.map .int)] st Q = Q (.int ns.sum) st := propext ⟨fun ⟨_, _, _, e, h2, h3, _, q⟩ => by cases e; cases h2; rw [ints_map] at h3; cases h3; exact q _ rfl, fun q => ⟨_, _, _, rfl, rfl, ints_map _, trivial, fun m hm => by cases hm; exact q⟩⟩
theorem v_bl {x : Bool} {P : Bool → Prop} : (∃ b, D.bl x = .bl b ∧ P b) = P x := propext ⟨fun ⟨_, e, q⟩ => by cases e; exact q, fun q => ⟨_, rfl, q⟩⟩
theorem v_in {x : Int} {P : Int → Prop} : (∃ b, D.int x = .int b ∧ P b) = P x := propext ⟨fun ⟨_, e, q⟩ => by cases e; exact q, fun q => ⟨_, rfl, q⟩⟩
theorem v_some {α : Type} {x : α} {P : α → Prop} : (∃ b, some x = some b ∧ P b) = P x := propext ⟨fun ⟨_, e, q⟩ => by cases e; exact q, fun q => ⟨_, rfl, q⟩⟩
theorem v_gTp {n : Nat} {gs : DGs} {Q : En → Sto → Prop} : gTp n gs (.tup ds) env st Q = (ds.length = n ∧ gs ds env st Q) := propext ⟨fun ⟨_, e, q⟩ => by cases e; exact q, fun q => ⟨_, rfl, q⟩⟩
theorem v_gCn {h : DG} {gs : DGs} {d : D} {Q : En → Sto → Prop} : gCn h gs (d :: ds) env st Q = h d env st fun e s => gs ds e s Q := propext ⟨fun ⟨_, _, e, q⟩ => by cases e; exact q, fun q => ⟨_, _, rfl, q⟩⟩
theorem v_gNl {Q : En → Sto → Prop} : gNl [] env st Q = Q env st := propext ⟨fun ⟨_, q⟩ => q, fun q => ⟨rfl, q⟩⟩
theorem v_newT : newL true ds st Q = Q (.ref st.length) (st ++ [.lst ds]) := rfl
theorem v_newF : newL false ds st Q = Q (.lst ds) st := rfl
theorem v_app {n : Nat} {d : D} (h : st[n]? = some (.lst ds)) : mAppend (.ref n) [d] st Q = (ds.length < sizeLine ∧ Q .non (st.set n (.lst (ds ++ [d])))) := propext ⟨fun ⟨_, _, _, e1, e2, e3, q⟩ => by cases e1; cases e2; rw [h] at e3; cases e3; exact q, fun q => ⟨_, _, _, rfl, rfl, h, q⟩⟩
theorem get_last {α : Type} (st : List α) (c : α) : (st ++ [c])[st.length]? = some c := by simp
theorem set_last {α : Type} (st : List α) (c e : α) : (st ++ [c]).set st.length e = st ++ [e] := by
  rw [List.set_append_right _ _ (Nat.le_refl _), Nat.sub_self]; rfl
theorem at0 {α : Type} {x : α} {xs : List α} : atI (x :: xs) 0 = some x := atI_of (by decide) rfl
theorem at1 {α : Type} {x y : α} {xs : List α} : atI (x :: y :: xs) 1 = some y := atI_of (by decide) rfl
theorem at2 {α : Type} {x y z : α} {xs : List α} : atI (x :: y :: z :: xs) 2 = some z := atI_of (by decide) rfl
theorem at3 {α : Type} {x y z u : α} {xs : List α} : atI (x :: y :: z :: u :: xs) 3 = some u := atI_of (by decide) rfl
theorem at4 {α : Type} {x y z u v : α} {xs : List α} : atI (x :: y :: z :: u :: v :: xs) 4 = some v := atI_of (by decide) rfl
end
theorem v_rg1 {a : DE} {env : En} {st : Sto} {R : GK} : iRange1 (wCons a wNil) env st R = a env st fun d s => ∃ j, d = .int j ∧ (-(2 ^ 62) ≤ j ∧ j < 2 ^ 62) ∧ R (rangeD 0 j.toNat) (fun _ => True) s := by
  unfold iRange1 wCons wNil
  congr 1
  funext d s
  exact propext ⟨fun ⟨j, e, h1, h2, q⟩ => by cases e; exact ⟨_, rfl, ⟨h1, h2⟩, q⟩, fun ⟨j, e, h, q⟩ => by cases e; exact ⟨_, rfl, h.1, h.2, q⟩⟩
theorem v_rg2 {a b : DE} {env : En} {st : Sto} {R : GK} : iRange2 (wCons a (wCons b wNil)) env st R = a env st fun d s => b env s fun e s => ∃ i, d = .int i ∧ ∃ j, e = .int j ∧ (-(2 ^ 62) ≤ i ∧ i < 2 ^ 62 ∧ -(2 ^ 62) ≤ j ∧ j < 2 ^ 62) ∧ R (rangeD i (j - i).toNat) (fun _ => True) s := by
  unfold iRange2 wCons wNil
  congr 1
  funext d s
  congr 1
  funext e s
  exact propext ⟨fun ⟨i, j, e, h, q⟩ => by cases e; exact ⟨_, rfl, _, rfl, h, q⟩, fun ⟨i, e, j, e2, h, q⟩ => by cases e; cases e2; exact ⟨_, _, rfl, h, q⟩⟩
theorem forL_foldN {α σ : Type} {G : Sto → Prop} {g : DG} {b : DS} {A : DEnds} (enc : α → D) (f : σ → α → σ) (Rp : Nat → σ → En → Sto → Prop) (N : Nat) :
    ∀ (xs : List α) (i : Nat) (s0 : σ) (env : En) (st : Sto), i + xs.length = N → (∀ i s x e st, i < N → x ∈ xs → Rp i s e st → ∀ R : En → Sto → Prop, (∀ e' st', Rp (i + 1) (f s x) e' st' → R e' st') → G st ∧ g (enc x) e st fun e s => b { nx := R, rt := A.rt, bk := A.nx, ct := R } e s) →
    (∀ e st, Rp N (xs.foldl f s0) e st → G st ∧ A.nx e st) → Rp i s0 env st → wForL G g b A (xs.map enc) env st
  | [], i, _, env, st, hN, _, fin, h => fin env st (by rw [List.length_nil] at hN; rw [← hN]; exact h)
  | x :: xs, i, s0, env, st, hN, step, fin, h => by
    rw [List.length_cons] at hN
    refine step i s0 x env st (by omega) List.mem_cons_self h (wForL G g b A (xs.map enc)) fun e' st' h' => ?_
    exact forL_foldN enc f Rp N xs (i + 1) (f s0 x) e' st' (by omega) (fun j s y e st hj hy => step j s y e st hj (List.mem_cons_of_mem _ hy)) fin h'
/-- a loop as a fold -/
theorem forL_fold {α σ : Type} {G : Sto → Prop} {g : DG} {b : DS} {A : DEnds} (enc : α → D) (f : σ → α → σ) (Rp : Nat → σ → En → Sto → Prop) (xs : List α) (s0 : σ) (env : En) (st : Sto)
    (step : ∀ i s x e st, i < xs.length → x ∈ xs → Rp i s e st → ∀ R : En → Sto → Prop, (∀ e' st', Rp (i + 1) (f s x) e' st' → R e' st') → G st ∧ g (enc x) e st fun e s => b { nx := R, rt := A.rt, bk := A.nx, ct := R } e s)
    (fin : ∀ e st, Rp xs.length (xs.foldl f s0) e st → G st ∧ A.nx e st) (h : Rp 0 s0 env st) : wForL G g b A (xs.map enc) env st :=
  forL_foldN enc f Rp xs.length xs 0 s0 env st (Nat.zero_add _) step fin h
end DL
namespace DL
open PySem PySem.Spec PyProof.Rows L2
variable [Bs]
theorem pyL_at : ∀ (ds : List D) (i : Nat), (D.pyL ds)[i]? = (ds[i]?).map D.py
  | [], i => by simp [D.pyL]
  | d :: r, 0 => by simp [D.pyL]
  | d :: r, i + 1 => by simp only [D.pyL, List.getElem?_cons_succ]; exact pyL_at r i
theorem okL_at {ds : List D} (h : D.okL ds = true) {i : Nat} {d : D} (e : ds[i]? = some d) : d.ok = true := by
  induction ds generalizing i with
  | nil => simp at e
  | cons x r ih =>
    simp only [D.okL, Bool.and_eq_true] at h
    cases i with
    | zero => simp at e; subst e; exact h.1
    | succ i => exact ih h.2 (by simpa using e)
def mIndex : RMD := fun d xs st Q => ∃ ds x j z, rd st d = .lst ds ∧ xs = [x] ∧ D.okL ds = true ∧ D.depL ds ≤ 60 ∧ (rd st x).ok = true ∧ (rd st x).dep ≤ 60 ∧ ds[j]? = some z ∧ z.eqv (rd st x) = true ∧
  (∀ (m : Nat) z', m < j → ds[m]? = some z' → z'.eqv (rd st x) = false) ∧ Q (.int (j : Nat)) st
theorem z_index {K : PySem.W.Frag} : RzM K (rIndexD K) mIndex where
  mo := fun _ _ _ _ _ h ⟨ds, x, j, z, e1, e2, h1, h2, h3, h4, h5, h6, h7, q⟩ => ⟨ds, x, j, z, e1, e2, h1, h2, h3, h4, h5, h6, h7, h _ _ q⟩
  on := fun {H io F st v vs d xs Q} R n1 n2 ⟨ds, x, j, z, e1, e2, h1, h2, h3, h4, h5, h6, h7, q⟩ => by
    subst e2
    obtain ⟨y, rfl, ny⟩ := n2.one
    have hd := rd_dp R n1 (by rw [e1]; simpa only [D.ok] using h1)
    rw [e1] at hd
    simp only [D.py] at hd
    obtain ⟨a, xs', rfl, _, _, _⟩ := rd_lst R n1 e1
    refine ⟨a, y, (rd st x).py, D.pyL ds, j, z.py, rfl, rfl, hd, rd_dp R ny h3, ?_, ?_, ?_, ?_, ?_, kE_now R (.int _) q⟩
    · have e : PyData.depth (.list (D.pyL ds)) = D.dep (.lst ds) := by rw [← py_dep]; simp only [D.py]
      simp only [SeqAt.shaped, Bool.and_eq_true, decide_eq_true_eq]
      refine ⟨by simpa only [PyData.canLay0] using pyL_ok ds h1, ?_⟩
      rw [e]
      simp only [D.dep]
      omega
    · simp only [SeqAt.shaped, Bool.and_eq_true, decide_eq_true_eq]
      exact ⟨py_ok _ h3, by rw [py_dep]; omega⟩
    · rw [pyL_at, h5]; rfl
    · rw [py_eqv z _ (okL_at h1 h5) h3]; exact h6
    · intro m z' hm hz
      rw [pyL_at] at hz
      cases e : ds[m]? with
      | none => rw [e] at hz; cases hz
      | some u =>
        rw [e] at hz
        cases hz
        rw [py_eqv u _ (okL_at h1 e) h3]
        exact h7 m u hm e
def wFrzA (i : Nat) : DE := fun env st Q => (∃ ds, env[i]? = some (some (.lst ds)) ∧ Q (.lst ds) st) ∨ wFrz i env st Q
theorem we_frzA {X : Cx} {pos : Pos} {i : Nat} {x : Str} (hN : X.N[i]? = some x) (hv : Vis X.env.scope x) (hd : (x == ("__debug__" : Str)) = false := by decide) (hcd : (x == ("__classdict__" : Str)) = false := by decide) : WE X (.Name x pos) (wFrzA i) := by
  have h1 := we_var hN hv hd hcd (pos := pos)
  have h2 := we_frz hN hv hd hcd (pos := pos)
  refine ⟨fun e s Q Q' h q => ?_, ⟨fun p s σ H Q I q => ?_⟩⟩
  · rcases q with ⟨ds, e1, q⟩ | q
    · exact .inl ⟨ds, e1, h _ _ q⟩
    · exact .inr (h2.mo _ _ _ _ h q)
  · obtain ⟨env, io, F, st, R, q⟩ := q
    rcases q with ⟨ds, e1, q⟩ | q
    · exact h1.pe.run p s σ H Q I ⟨env, io, F, st, R, _, e1, q⟩
    · exact h2.pe.run p s σ H Q I ⟨env, io, F, st, R, q⟩
theorem zipD_len (ds es : List D) : (zipD ds es).length = min ds.length es.length := by unfold zipD; rw [List.length_zipWith]
section
variable {K : PySem.W.Frag} {io : List Addr} {F H : Hp} {a b : Addr} {xs ys : List V} {ds es : List D}
theorem zipD_at {i : Nat} (hi : i < (zipD ds es).length) : ∃ d e, ds[i]? = some d ∧ es[i]? = some e ∧ (zipD ds es)[i]? = some (.tup [d, e]) := by
  rw [zipD_len] at hi
  have h1 : i < ds.length := by omega
  have h2 : i < es.length := by omega
  refine ⟨ds[i], es[i], List.getElem?_eq_getElem h1, List.getElem?_eq_getElem h2, ?_⟩
  unfold zipD
  rw [List.getElem?_zipWith, List.getElem?_eq_getElem h1, List.getElem?_eq_getElem h2]
theorem walkD_zipT (s1 : SqT K F a xs) (r1 : DenL K io F xs ds) (s2 : SqT K F b ys) (r2 : DenL K io F ys es) : WalkD K (ItzX (SqT K) (SqT K) a b) H io F (zipD ds es) (fun _ => True) where
  go := fun i t R _ hi => by
    obtain ⟨d, e, h1, h2, _⟩ := zipD_at hi
    obtain ⟨v, e1, _⟩ := (t.denL r1).get h1
    obtain ⟨w, e2, _⟩ := (t.denL r2).get h2
    exact ⟨xs, ys, v, w, SqT_mono R.sub (SqT_mono t.fr s1), SqT_mono R.sub (SqT_mono t.fr s2), e1, e2⟩
  stop := fun t R _ => by
    refine ⟨xs, ys, SqT_mono R.sub (SqT_mono t.fr s1), SqT_mono R.sub (SqT_mono t.fr s2), ?_⟩
    rw [zipD_len, r1.length, r2.length]
    exact ⟨by omega, by omega, by omega⟩
  yld := fun {H2 io2 F2 st2} i x H3 t R _ hi y => by
    obtain ⟨d, e, h1, h2, h3⟩ := zipD_at hi
    obtain ⟨v, e1, n1⟩ := (t.denL r1).get h1
    obtain ⟨w, e2, n2⟩ := (t.denL r2).get h2
    obtain ⟨T, u, u', o, q1, hT, ho, q2, hu, hu'⟩ := y
    subst q1
    subst q2
    have p1 := hu xs (SqT_mono R.sub (SqT_mono t.fr s1))
    have p2 := hu' ys (SqT_mono R.sub (SqT_mono t.fr s2))
    rw [e1] at p1
    rw [e2] at p2
    cases p1
    cases p2
    obtain ⟨F3, s3, R3, n3⟩ := lay_pair R hT ho n1 n2
    exact ⟨F3, _, s3, R3, h3, n3⟩
theorem walkD_zipL (s1 : F a = some (.lst xs)) (r1 : DenL K io F xs ds) (s2 : F b = some (.lst ys)) (r2 : DenL K io F ys es) : WalkD K (ItzX (SqL K) (SqL K) a b) H io F (zipD ds es) (fun _ => True) where
  go := fun i t R _ hi => by
    obtain ⟨d, e, h1, h2, _⟩ := zipD_at hi
    obtain ⟨v, e1, _⟩ := (t.denL r1).get h1
    obtain ⟨w, e2, _⟩ := (t.denL r2).get h2
    exact ⟨xs, ys, v, w, SqL.of (R.sub _ _ (t.fr _ _ s1)), SqL.of (R.sub _ _ (t.fr _ _ s2)), e1, e2⟩
  stop := fun t R _ => by
    refine ⟨xs, ys, SqL.of (R.sub _ _ (t.fr _ _ s1)), SqL.of (R.sub _ _ (t.fr _ _ s2)), ?_⟩
    rw [zipD_len, r1.length, r2.length]
    exact ⟨by omega, by omega, by omega⟩
  yld := fun {H2 io2 F2 st2} i x H3 t R _ hi y => by
    obtain ⟨d, e, h1, h2, h3⟩ := zipD_at hi
    obtain ⟨v, e1, n1⟩ := (t.denL r1).get h1
    obtain ⟨w, e2, n2⟩ := (t.denL r2).get h2
    obtain ⟨T, u, u', o, q1, hT, ho, q2, hu, hu'⟩ := y
    subst q1
    subst q2
    have p1 := hu xs (SqL.of (R.sub _ _ (t.fr _ _ s1)))
    have p2 := hu' ys (SqL.of (R.sub _ _ (t.fr _ _ s2)))
    rw [e1] at p1
    rw [e2] at p2
    cases p1
    cases p2
    obtain ⟨F3, s3, R3, n3⟩ := lay_pair R hT ho n1 n2
    exact ⟨F3, _, s3, R3, h3, n3⟩
theorem walkD_zipLT (s1 : F a = some (.lst xs)) (r1 : DenL K io F xs ds) (s2 : SqT K F b ys) (r2 : DenL K io F ys es) : WalkD K (ItzX (SqL K) (SqT K) a b) H io F (zipD ds es) (fun _ => True) where
  go := fun i t R _ hi => by
    obtain ⟨d, e, h1, h2, _⟩ := zipD_at hi
    obtain ⟨v, e1, _⟩ := (t.denL r1).get h1
    obtain ⟨w, e2, _⟩ := (t.denL r2).get h2
    exact ⟨xs, ys, v, w, SqL.of (R.sub _ _ (t.fr _ _ s1)), SqT_mono R.sub (SqT_mono t.fr s2), e1, e2⟩
  stop := fun t R _ => by
    refine ⟨xs, ys, SqL.of (R.sub _ _ (t.fr _ _ s1)), SqT_mono R.sub (SqT_mono t.fr s2), ?_⟩
    rw [zipD_len, r1.length, r2.length]
    exact ⟨by omega, by omega, by omega⟩
  yld := fun {H2 io2 F2 st2} i x H3 t R _ hi y => by
    obtain ⟨d, e, h1, h2, h3⟩ := zipD_at hi
    obtain ⟨v, e1, n1⟩ := (t.denL r1).get h1
    obtain ⟨w, e2, n2⟩ := (t.denL r2).get h2
    obtain ⟨T, u, u', o, q1, hT, ho, q2, hu, hu'⟩ := y
    subst q1
    subst q2
    have p1 := hu xs (SqL.of (R.sub _ _ (t.fr _ _ s1)))
    have p2 := hu' ys (SqT_mono R.sub (SqT_mono t.fr s2))
    rw [e1] at p1
    rw [e2] at p2
    cases p1
    cases p2
    obtain ⟨F3, s3, R3, n3⟩ := lay_pair R hT ho n1 n2
    exact ⟨F3, _, s3, R3, h3, n3⟩
theorem walkD_zipTL (s1 : SqT K F a xs) (r1 : DenL K io F xs ds) (s2 : F b = some (.lst ys)) (r2 : DenL K io F ys es) : WalkD K (ItzX (SqT K) (SqL K) a b) H io F (zipD ds es) (fun _ => True) where
  go := fun i t R _ hi => by
    obtain ⟨d, e, h1, h2, _⟩ := zipD_at hi
    obtain ⟨v, e1, _⟩ := (t.denL r1).get h1
    obtain ⟨w, e2, _⟩ := (t.denL r2).get h2
    exact ⟨xs, ys, v, w, SqT_mono R.sub (SqT_mono t.fr s1), SqL.of (R.sub _ _ (t.fr _ _ s2)), e1, e2⟩
  stop := fun t R _ => by
    refine ⟨xs, ys, SqT_mono R.sub (SqT_mono t.fr s1), SqL.of (R.sub _ _ (t.fr _ _ s2)), ?_⟩
    rw [zipD_len, r1.length, r2.length]
    exact ⟨by omega, by omega, by omega⟩
  yld := fun {H2 io2 F2 st2} i x H3 t R _ hi y => by
    obtain ⟨d, e, h1, h2, h3⟩ := zipD_at hi
    obtain ⟨v, e1, n1⟩ := (t.denL r1).get h1
    obtain ⟨w, e2, n2⟩ := (t.denL r2).get h2
    obtain ⟨T, u, u', o, q1, hT, ho, q2, hu, hu'⟩ := y
    subst q1
    subst q2
    have p1 := hu xs (SqT_mono R.sub (SqT_mono t.fr s1))
    have p2 := hu' ys (SqL.of (R.sub _ _ (t.fr _ _ s2)))
    rw [e1] at p1
    rw [e2] at p2
    cases p1
    cases p2
    obtain ⟨F3, s3, R3, n3⟩ := lay_pair R hT ho n1 n2
    exact ⟨F3, _, s3, R3, h3, n3⟩
end
def zipI (a b : D) (s : Sto) (R : GK) : Prop := match a, b with
  | .tup xs, .tup ys => R (zipD xs ys) (fun _ => True) s
  | .lst xs, .lst ys => R (zipD xs ys) (fun _ => True) s
  | .lst xs, .tup ys => R (zipD xs ys) (fun _ => True) s
  | .tup xs, .lst ys => R (zipD xs ys) (fun _ => True) s
  | _, _ => False
theorem zipI_mo {a b : D} {s : Sto} {R R' : GK} (h : ∀ ds G s, R ds G s → R' ds G s) (q : zipI a b s R) : zipI a b s R' := by
  unfold zipI at q ⊢
  split at q
  · exact h _ _ _ q
  · exact h _ _ _ q
  · exact h _ _ _ q
  · exact h _ _ _ q
  · exact q
def iZip (wa wb : DE) : DI := fun env st R => wa env st fun a s1 => wb env s1 fun b s2 => zipI a b s2 R
theorem wi_zip {X : Cx} {p pos tpos : Pos} {e e2 : Expr} {we we2 : DE} {elts : List Expr} {kk : Nat} (hg : Gl X "zip") (hm : X.mg "zip" = none) (he : WE X e we) (he2 : WE X e2 we2) (ha : starEach [e, e2] X.env = (false, eval e X.env) :: starEach [e2] X.env := by rfl) (hs : starEach [e2] X.env = (false, eval e2 X.env) :: starEach [] X.env := by rfl)
    (hpl : (backTo pos (starEach [e2] X.env)).any (·.1) = false := by rfl) :
    WI X (.Tuple elts kk tpos) (.Call (.Name "zip" p) [e, e2] [] pos) (iZip we we2) := by
  refine ⟨fun _ _ _ _ h q => he.mo _ _ _ _ (fun _ _ q => he2.mo _ _ _ _ (fun _ _ q => zipI_mo (fun _ _ _ q => h _ _ _ q) q) q) q, PI_imp (pi_zipX hg hm (pa_cons he.pe (pa_cons he2.pe pa_nil hs) ha) ha hpl) fun σ H R ⟨env, io, F, st, Rl, q⟩ => ?_⟩
  refine tE_use he.mo Rl q fun d s1 v io1 F1 H1 q1 t1 R1 n1 => ?_
  refine tE_use he2.mo R1 q1 fun d2 s2 v2 io2 F2 H2 q2 t2 R2 n2 => ?_
  have n1' := t2.den n1
  unfold zipI at q2
  split at q2
  · cases n1' with
    | tup s r z =>
      cases n2 with
      | tup s' r' z' => exact ⟨_, _, _, _, rfl, .inr (.inl ⟨SqT_mono R2.sub s.t, SqT_mono R2.sub s'.t, q2 _ _ _ _ (t1.trans t2) R2.toRelH (walkD_zipT s.t r s'.t r')⟩)⟩
  · cases n1' with
    | lst s r z =>
      cases n2 with
      | lst s' r' z' => exact ⟨_, _, _, _, rfl, .inl ⟨SqL.of (R2.sub _ _ s), SqL.of (R2.sub _ _ s'), q2 _ _ _ _ (t1.trans t2) R2.toRelH (walkD_zipL s r s' r')⟩⟩
  · cases n1' with
    | lst s r z =>
      cases n2 with
      | tup s' r' z' => exact ⟨_, _, _, _, rfl, .inr (.inr (.inl ⟨SqL.of (R2.sub _ _ s), SqT_mono R2.sub s'.t, q2 _ _ _ _ (t1.trans t2) R2.toRelH (walkD_zipLT s r s'.t r')⟩))⟩
  · cases n1' with
    | tup s r z =>
      cases n2 with
      | lst s' r' z' => exact ⟨_, _, _, _, rfl, .inr (.inr (.inr ⟨SqT_mono R2.sub s.t, SqL.of (R2.sub _ _ s'), q2 _ _ _ _ (t1.trans t2) R2.toRelH (walkD_zipTL s.t r s' r')⟩))⟩
  · exact q2.elim
theorem zipI_tup {xs ys : List D} {s : Sto} {R : GK} : zipI (.tup xs) (.tup ys) s R = R (zipD xs ys) (fun _ => True) s := rfl
theorem zipI_lt {xs ys : List D} {s : Sto} {R : GK} : zipI (.lst xs) (.tup ys) s R = R (zipD xs ys) (fun _ => True) s := rfl
theorem zipI_tl {xs ys : List D} {s : Sto} {R : GK} : zipI (.tup xs) (.lst ys) s R = R (zipD xs ys) (fun _ => True) s := rfl
theorem zipI_lst {xs ys : List D} {s : Sto} {R : GK} : zipI (.lst xs) (.lst ys) s R = R (zipD xs ys) (fun _ => True) s := rfl
theorem zip_map {α β : Type} (f : α → D) (g : β → D) (xs : List α) (ys : List β) : zipD (xs.map f) (ys.map g) = (xs.zip ys).map fun x => .tup [f x.1, g x.2] := by
  unfold zipD
  rw [List.zipWith_map, List.zip, List.map_zipWith]
end DL
namespace DL
open PySem PySem.Spec PyProof.Rows L2
variable [Bs]
def rgD (a b : Int) : List D := (List.range (b - a).toNat).map fun i => D.int (a + (i : Nat))
def wRgL1 (m : Bool) (wa : DE) : DE := fun env st Q => wa env st fun d s => ∃ b, d = .int b ∧ RgOk 0 b ∧ newL m (rgD 0 b) s Q
def wRgL2 (m : Bool) (wa wb : DE) : DE := fun env st Q => wa env st fun d s => wb env s fun d2 s2 => ∃ a b, d = .int a ∧ d2 = .int b ∧ RgOk a b ∧ newL m (rgD a b) s2 Q
def wRgT1 (wa : DE) : DE := fun env st Q => wa env st fun d s => ∃ b, d = .int b ∧ RgOk 0 b ∧ Q (.tup (rgD 0 b)) s
def wRgT2 (wa wb : DE) : DE := fun env st Q => wa env st fun d s => wb env s fun d2 s2 => ∃ a b, d = .int a ∧ d2 = .int b ∧ RgOk a b ∧ Q (.tup (rgD a b)) s2
def repS (x : Str) (n : Int) : Str := ⟨(List.replicate n.toNat x.cps).foldl (· ++ ·) #[]⟩
def dMulS : R2D := fun a b st Q => ∃ z n, a = .str z ∧ b = .int n ∧ 2 ≤ n ∧ n ≤ 1000000 ∧ z.length ≠ 0 ∧ z.length * n.toNat ≤ sizeLine ∧ Q (.str (repS z n)) st
theorem v_mulS {x : Str} {k : Int} {st : Sto} {Q : DK} : dMulS (.str x) (.int k) st Q = (2 ≤ k ∧ k ≤ 1000000 ∧ x.length ≠ 0 ∧ x.length * k.toNat ≤ sizeLine ∧ Q (.str (repS x k)) st) :=
  propext ⟨fun ⟨_, _, e1, e2, h⟩ => by cases e1; cases e2; exact h, fun h => ⟨_, _, rfl, rfl, h⟩⟩
theorem v_rgx1 {n : Int} {P : Int → Prop} : (∃ b, D.int n = .int b ∧ P b) = P n := propext ⟨fun ⟨_, e, h⟩ => by cases e; exact h, fun h => ⟨_, rfl, h⟩⟩
theorem v_rgx2 {m n : Int} {P : Int → Int → Prop} : (∃ a b, D.int m = .int a ∧ D.int n = .int b ∧ P a b) = P m n := propext ⟨fun ⟨_, _, e, e2, h⟩ => by cases e; cases e2; exact h, fun h => ⟨_, _, rfl, rfl, h⟩⟩
section
variable {prog : Program} {w : World} {A : Around} {E : Value → Shared → Prop} {s : Shared}
theorem places_rev (n : Nat) : Builtin.Slice.slicePlaces ((n : Int) - 1) (-1) (-1) = n := by
  unfold Builtin.Slice.slicePlaces
  rw [if_neg (by decide : ¬ ((-1 : Int) > 0))]
  by_cases h : (n : Int) - 1 > -1
  · rw [if_pos h, show (n : Int) - 1 - -1 - 1 = (n : Int) - 1 by omega, show (- (-1) : Int) = 1 from rfl, Int.ediv_one]
    omega
  · rw [if_neg h]
    have : n = 0 := by omega
    subst this; rfl
theorem pick_rev (xs : Array Value) : ((List.range xs.size).filterMap fun (m : Nat) => xs[(((xs.size : Int) - 1) + (m : Int) * (-1)).toNat]?).toArray = xs.toList.reverse.toArray := by
  congr 1
  apply List.ext_getElem?
  intro i
  have key : ∀ k : Nat, k ≤ xs.size → (List.range k).filterMap (fun (m : Nat) => xs[(((xs.size : Int) - 1) + (m : Int) * (-1)).toNat]?) = xs.toList.reverse.take k := by
    intro k
    induction k with
    | zero => intro _; simp
    | succ k ih =>
      intro hk
      have e : (((xs.size : Int) - 1) + (k : Int) * (-1)).toNat = xs.size - 1 - k := by omega
      have hx : xs[xs.size - 1 - k]? = some xs[xs.size - 1 - k] := Array.getElem?_eq_getElem (by omega)
      rw [List.range_succ, List.filterMap_append, ih (by omega), List.take_add_one]
      congr 1
      rw [List.filterMap_cons, List.filterMap_nil, e, hx, List.getElem?_reverse (by rw [Array.length_toList]; omega), Array.length_toList, Array.getElem?_toList, hx]
      rfl
  rw [key xs.size (Nat.le_refl _), List.take_of_length_le (by rw [List.length_reverse, Array.length_toList]; omega)]
theorem sliceApplied_rev {sl : Addr} {vl vu vs : Value} {n : Nat} {Q : Int × Int × Nat → Shared → Prop} (hs : s.heap.IsSliceOf sl vl vu vs) (pl : IsPart vl none) (pu : IsPart vu none) (ps : IsPart vs (some (-1)))
    (h : Q ((n : Int) - 1, -1, n) s) : wpAny (model prog w) A (Builtin.Slice.sliceApplied (.ref sl) (pure (n : Int))) Q E s := by
  obtain ⟨os, hos, hcs, hds⟩ := id hs
  unfold Builtin.Slice.sliceApplied Builtin.Slice.sliceFields
  refine wpAny_bind (wpAny_bind (wpAny_field hos hds (x := vl) rfl (wpAny_bind (wpAny_field hos hds (x := vu) rfl (wpAny_bind (wpAny_field hos hds (x := vs) rfl (wpAny_pure ?_)))))))
  refine wpAny_bind (HT.slicePart_ ps ?_)
  show wpAny _ _ (if ((-1 : Int) == 0) = true then _ else _) _ _ s
  rw [if_neg (by decide)]
  refine wpAny_bind (HT.slicePart_ pl (wpAny_bind (HT.slicePart_ pu (wpAny_bind (wpAny_pure ?_)))))
  show wpAny _ _ (pure (((n : Int) - 1), (-1 : Int), Builtin.Slice.slicePlaces ((n : Int) - 1) (-1) (-1))) _ _ s
  rw [places_rev]
  exact wpAny_pure h
theorem getItem_tuple_rev {t sl : Addr} {items : Array Value} {vl vu vs : Value} {Q : Value → Shared → Prop} (ht : IsTup s.heap t items) (hs : s.heap.IsSliceOf sl vl vu vs) (pl : IsPart vl none) (pu : IsPart vu none) (ps : IsPart vs (some (-1)))
    (h : Q (.ref s.heap.objs.size) { s with heap := s.heap.push { cls := .type "tuple", data := .seq items.toList.reverse.toArray } }) (hsz : items.size ≤ sizeLine) : wpAny (model prog w) A (getItem (.ref t) (.ref sl)) Q E s := by
  have htake : sizeOk (.seq items.toList.reverse.toArray) := by
    show items.toList.reverse.toArray.size ≤ sizeLine
    rw [List.size_toArray, List.length_reverse, Array.length_toList]
    exact hsz
  obtain ⟨os, hos, hcs, hds⟩ := id hs
  have hTs : s.TypeIs (.ref sl) "slice" := ⟨os, hos, hcs⟩
  unfold getItem
  try with_reducible refine wpAny_holding ?_
  first | refine wpAny_bind (wpAny_pure ?_) | skip
  refine wpAny_bind (wpAny_sequenceKey ht.typeIs (by decide) ?_)
  refine wpAny_bind (wpAny_callSpecial?_slot (name := Str.ofString "__getitem__") ht.typeIs PyProof.Rows.slot_tuple_getitem
    (wpAny_call_entry PyProof.Rows.slot_tuple_getitem ht.typeIs entry_tuple_getitem ?_ (args_tuple_getitem _ _)))
  show wpAny _ _ (Builtin.Tuple.tupleItemsOf (.ref t) >>= _) _ _ s
  refine wpAny_bind (PyProof.Rows.tupleItemsOf_ ht ?_)
  refine wpAny_bind (wpAny_typeOf hTs ?_)
  rw [if_pos (by decide)]
  refine wpAny_bind (sliceApplied_rev hs pl pu ps ?_)
  have hno : ¬ ((((items.size : Int) - 1) == 0 && (-1 : Int) == 1 && items.size == items.size) = true) := by simp
  show wpAny _ _ (if (((items.size : Int) - 1) == 0 && (-1 : Int) == 1 && items.size == items.size) = true then _ else _) _ _ s
  rw [if_neg hno, pick_rev]
  first
    | exact wpAny_bind (m := Builtin.Tuple.tupleExact _) (wpAny_newObj_type (wpAny_pure ⟨_, rfl, wpAny_pure h⟩) htake)
    | exact wpAny_bind (m := Builtin.Tuple.tupleExact _) (wpAny_newObj_type (wpAny_bind (wpAny_pure (wpAny_pure ⟨_, rfl, wpAny_pure h⟩))) htake)
    | exact wpAny_bind (wpAny_bind (m := Builtin.Tuple.tupleExact _) (wpAny_newObj_type (wpAny_pure (wpAny_pure ⟨_, rfl, wpAny_pure h⟩)) htake))
    | exact wpAny_bind (wpAny_bind (m := Builtin.Tuple.tupleExact _) (wpAny_newObj_type (wpAny_pure ⟨_, rfl, wpAny_pure h⟩) htake))
end
def tRevA (K : PySem.W.Frag) (te : TE) : TE := fun σ H Q => te σ H fun x H1 => ∃ a xs, x = .ref a ∧ ((SqL K H1 a xs ∧ ∀ p, H1 p = none → Q (.ref p) (upd H1 p (.lst xs.reverse))) ∨ (SqT K H1 a xs ∧ XtK H1 Q xs.reverse))
theorem pe_revA {X : Cx} {e : Expr} {te : TE} {k : Nat} {p1 p2 p3 pos : Pos} (he : PE X e te) : PE X (.Subscript e (.Slice none none (some (.UnaryOp .USub (.Constant (.int 1) k p1) p2)) p3) pos) (tRevA X.K te) := by
  refine ⟨fun pins s σ H Q I h => ?_⟩
  refine Subscript_ (thn (he.run pins s σ H _ I h) fun v s1 ⟨x, H1, I1, r1, q1⟩ => ?_)
  obtain ⟨a, xs, ex, hx⟩ := q1
  subst ex
  cases r1
  have hst : PO X (some (.UnaryOp .USub (.Constant (.int 1) k p1) p2)) (tPart (tUn (rU fun i => .int (-i)) (tC (.int 1)))) := po_some (pe_un un_neg pe_int)
  refine wpAny_Slice (thn (po_none.run pins s1 σ H1 (fun o H2 => o = none ∧ H2 = H1) I1 ⟨rfl, rfl⟩) fun vl s2 ⟨l, H2, I2, pl, el, e2⟩ => ?_)
  subst el e2
  refine thn (po_none.run pins s2 σ H2 (fun o H3 => o = none ∧ H3 = H2) I2 ⟨rfl, rfl⟩) fun vu s3 ⟨u, H3, I3, pu, eu, e3⟩ => ?_
  subst eu e3
  refine thn (hst.run pins s3 σ H3 (fun o H4 => o = some (-1) ∧ H4 = H3) I3 ⟨1, rfl, -1, rfl, rfl, rfl⟩) fun vs s4 ⟨o, H4, I4, ps, eo, e4⟩ => ?_
  subst eo e4
  have I5 : Inv X pins σ H4 { s4 with heap := s4.heap.push { cls := .type "slice", data := .fields #[vl, vu, vs] } } := I4.kept (t' := s4.toks) fun b ob q => Heap.get?_push_of_some _ q
  show wpAny (model X.prog X.w) X.A (subscriptTail e (.Slice none none (some (.UnaryOp .USub (.Constant (.int 1) k p1) p2)) p3) (.ref a) (.ref s4.heap.objs.size)) (EP X pins σ Q) X.xe { s4 with heap := s4.heap.push { cls := .type "slice", data := .fields #[vl, vu, vs] } }
  rcases hx with ⟨hx, q⟩ | ⟨hx, q⟩
  · obtain ⟨its, r, ht, hz⟩ := I5.list hx
    have hlen := r.length
    refine tail_any (ops := [.ref a, .ref s4.heap.objs.size]) ht.isList.typeIs (PySem.slot_list_getitem.lookup) ?_ (by with_unfolding_all rfl)
    refine wpAny_getItem_list_slice ht.isList (Heap.IsSliceOf.new _ vl vu vs) pl pu ps (by decide) ?_ (by rw [List.size_toArray]; omega)
    rw [PySem.W.krv_pick]
    refine ⟨.ref _, _, I5.laid (t' := s4.toks) (o := .lst xs.reverse) (fun b ob q => Heap.get?_push_of_some _ q) (Nat.le_refl _) ?_, rfl, q _ (I5.hok.fresh (Nat.le_refl _))⟩
    exact ⟨by rw [List.length_reverse]; exact hz, _, 0, r.reverse, Heap.get?_push_size _ rfl⟩
  · obtain ⟨its, r, ht, hz⟩ := I5.tuple hx
    have hlen := r.length
    refine tail_any (ops := [.ref a, .ref s4.heap.objs.size]) ht.typeIs (PyProof.Rows.slot_tuple_getitem.lookup) ?_ (by with_unfolding_all rfl)
    refine getItem_tuple_rev ht (Heap.IsSliceOf.new _ vl vu vs) pl pu ps ?_ (by rw [List.size_toArray]; omega)
    exact new_tup I5 (by rw [List.length_reverse]; exact hz) r.reverse q
def dRev (m : Bool) (a : D) (s : Sto) (Q : DK) : Prop := match rd s a with
  | .lst ds => newL m ds.reverse s Q
  | .tup ds => Q (.tup ds.reverse) s
  | _ => False
def wRevA (m : Bool) (wa : DE) : DE := fun env st Q => wa env st fun a s => dRev m a s Q
theorem we_revA {X : Cx} {a : Expr} {wa : DE} {pos : Pos} {m : Bool} {k : Nat} {p1 p2 p3 : Pos} (ha : WE X a wa) : WE X (.Subscript a (.Slice none none (some (.UnaryOp .USub (.Constant (.int 1) k p1) p2)) p3) pos) (wRevA m wa) := by
  refine ⟨fun _ _ _ _ h q => ha.mo _ _ _ _ (fun _ _ q => ?_) q, PE_imp (pe_revA ha.pe) fun σ H Q ⟨env, io, F, st, R, q⟩ => ?_⟩
  · unfold dRev at q ⊢
    split at q
    · exact newL_mo h q
    · exact h _ _ q
    · exact q
  refine tE_use ha.mo R q fun d s1 v io1 F1 H1 q1 t1 R1 n1 => ?_
  unfold dRev at q1
  split at q1
  · rename_i ds e
    obtain ⟨p, xs, rfl, h1, h2, h3⟩ := rd_lst R1.toRelH n1 e
    exact ⟨p, xs, rfl, .inl ⟨SqL.of h1, lay_new R1.toRelH h2.rev (by rw [List.length_reverse]; exact h3) (newL_mo (fun _ _ => kE_later t1) q1)⟩⟩
  · rename_i ds e
    cases rd_tup e
    cases n1 with
    | @tup p vs _ s r z =>
      exact ⟨p, vs, rfl, .inr ⟨SqT_mono R1.sub s.t, lay_tup R1.toRelH r.rev (by rw [List.length_reverse]; exact z) (kE_later t1 q1)⟩⟩
  · exact q1.elim
theorem v_revT {m : Bool} {ds : List D} {st : Sto} {Q : DK} : dRev m (.tup ds) st Q = Q (.tup ds.reverse) st := rfl
theorem v_revL {m : Bool} {ds : List D} {st : Sto} {Q : DK} : dRev m (.lst ds) st Q = newL m ds.reverse st Q := rfl
end DL
namespace DL
open PySem PySem.Spec PyProof.Rows L2
variable [Bs]
theorem PlainL.isList {h : Heap} {a : Addr} {its : Array Value} (p : PlainL h a its) : h.IsList a its := by
  obtain ⟨o, n, e, h1, h2, h3⟩ := p
  exact ⟨o, e, h1, n, h3⟩
def dEqE (f : Bool → Bool) : R2D := fun a b st Q => ∃ ds, rd st a = .lst ds ∧ rd st b = .lst [] ∧ Q (.bl (f ds.isEmpty)) st
theorem v_eqE {f : Bool → Bool} {ds : List D} {st : Sto} {Q : DK} : dEqE f (.lst ds) (.lst []) st Q = Q (.bl (f ds.isEmpty)) st :=
  propext ⟨fun ⟨_, e1, _, q⟩ => by cases e1; exact q, fun q => ⟨_, rfl, rfl, q⟩⟩
end DL
namespace DL
open PySem PySem.Spec PyProof.Rows L2
variable [Bs]
def IsKey (h : Heap) (v : Value) (x : Int) : Prop := ∃ a o t y n, v = .ref a ∧ h.get? a = some o ∧ o.cls = .type "tuple" ∧ o.data = .seq #[.int x t, y] n
theorem IsKey.keeps {h h' : Heap} {v : Value} {x : Int} (p : IsKey h v x) (k : ∀ b o, h.get? b = some o → o.cls = .type "tuple" → h'.get? b = some o) : IsKey h' v x := by
  obtain ⟨a, o, t, u, n, e, ho, hc, hd⟩ := p
  exact ⟨a, o, t, u, n, e, k _ _ ho hc, hc, hd⟩
end DL
namespace DL
open PySem PySem.Spec PyProof.Rows L2
variable [Bs]
theorem cells_no : ∀ (names : List (Str × NameKind)) (h : Heap) (n : Nat) (acc : List (Str × Addr)), names.filter (fun y => y.2 == .cell) = [] → cellsFrom n names acc = acc ∧ pushCells h names = h
  | [], _, _, _, _ => ⟨rfl, rfl⟩
  | (x, k) :: r, h, n, acc, e => by
    unfold cellsFrom pushCells
    cases q : k == NameKind.cell with
    | true => simp [List.filter_cons, q] at e
    | false =>
      simp only [Bool.false_eq_true, if_false]
      exact cells_no r h n acc (by simpa [List.filter_cons, q] using e)
theorem cells_one {p : Str} : ∀ (names : List (Str × NameKind)) (h : Heap) (n : Nat) (acc : List (Str × Addr)), names.filter (fun y => y.2 == .cell) = [(p, .cell)] → cellsFrom n names acc = (p, n) :: acc ∧ pushCells h names = h.push { cls := .type "cell", data := .cell none }
  | [], _, _, _, e => by simp at e
  | (x, k) :: r, h, n, acc, e => by
    unfold cellsFrom pushCells
    cases q : k == NameKind.cell with
    | true =>
      rw [List.filter_cons] at e
      simp only [q, if_true, List.cons.injEq, Prod.mk.injEq] at e
      obtain ⟨⟨rfl, _⟩, e⟩ := e
      simp only [if_true]
      exact cells_no r _ _ _ e
    | false =>
      simp only [Bool.false_eq_true, if_false]
      exact cells_one r h n acc (by simpa [List.filter_cons, q] using e)
/-- one parameter p, no other name of its own: captured ones and globals -/
structure LamP (sc scope : Scope) (p : Str) : Prop where
  kind : scope.kind = .function
  co : scope.isCoroutine = false
  gen : scope.isGenerator = false
  par : (scope.names.lookup p = some .local ∧ scope.names.filter (fun y => y.2 == .cell) = []) ∨ (scope.names.lookup p = some .cell ∧ scope.names.filter (fun y => y.2 == .cell) = [(p, .cell)])
  own : ∀ y ∈ scope.names, y.2 = .local ∨ y.2 = .cell → y.1 = p
  free : ∀ y ∈ scope.names, y.2 = .free → y.1 ≠ p ∧ (sc.names.lookup y.1 = some .cell ∨ sc.names.lookup y.1 = some .free)
def lamPB (sc scope : Scope) (p : Str) : Bool :=
  decide (scope.kind = .function) && !scope.isCoroutine && !scope.isGenerator && ((decide (scope.names.lookup p = some .local) && decide (scope.names.filter (fun y => y.2 == .cell) = [])) || (decide (scope.names.lookup p = some .cell) && decide (scope.names.filter (fun y => y.2 == .cell) = [(p, .cell)]))) &&
  (scope.names.all fun y => !(decide (y.2 = .local) || decide (y.2 = .cell)) || decide (y.1 = p)) && (scope.names.all fun y => !decide (y.2 = .free) || (!decide (y.1 = p) && (decide (sc.names.lookup y.1 = some .cell) || decide (sc.names.lookup y.1 = some .free))))
theorem lamP_by {sc scope : Scope} {p : Str} (h : lamPB sc scope p = true) : LamP sc scope p := by
  unfold lamPB at h
  simp only [Bool.and_eq_true, Bool.or_eq_true, Bool.not_eq_true', decide_eq_true_eq, List.all_eq_true] at h
  obtain ⟨⟨⟨⟨⟨h1, h2⟩, h3⟩, h4⟩, h5⟩, h6⟩ := h
  refine ⟨h1, h2, h3, h4, fun y hy k => ?_, fun y hy k => ?_⟩
  · rcases h5 y hy with z | z
    · rcases k with k | k <;> simp [k] at z
    · exact z
  · rcases h6 y hy with z | z
    · simp [k] at z
    · exact ⟨by simpa using z.1, z.2⟩
abbrev lamE (X : Cx) (scope : Scope) (L f c' : Addr) : Env := PySem.W.envX (X.env.qual ++ "<lambda>") scope L f (.ref c') (cellsFrom (L + 1) scope.names (cloFrom X.env.cells scope.names []))
/-- the context of the lambda's body -/
def lamC (X : Cx) (A : Around) (outer : List Env) (s : Shared) (H : Hp) (scope : Scope) (f c' : Addr) : Cx where
  prog := X.prog
  w := X.w
  K := X.K
  mg := X.mg
  base := X.base
  A := A.deeper (lamE X scope s.heap.objs.size f c')
  N := X.N
  s_0 := s
  H_0 := H
  env := lamE X scope s.heap.objs.size f c'
  outer := outer
  stack := lamE X scope s.heap.objs.size f c' :: outer
  ex := []
  fn := fun _ => false
  calm := true
  pn := []
  xe := fun _ _ => False
section
variable {M : Model} {A : Around} {E : Value → Shared → Prop} {s : Shared}
/-- what a lambda's frame shows at first -/
structure LamAt (s : Shared) (scope : Scope) (clo : List (Str × Addr)) (p : Str) (u : Value) (h' : Heap) : Prop where
  kp : ∀ b o, s.heap.get? b = some o → h'.get? b = some o
  ns : ∃ m, h'.Ns s.heap.objs.size m ∧ (scope.names.lookup p = some .local → m p = some u)
  cl : ∀ y c, (cellsFrom (s.heap.objs.size + 1) scope.names clo).lookup y = some c → (clo.lookup y = some c ∧ (y = p → scope.names.lookup p = some .local)) ∨ (y = p ∧ c = s.heap.objs.size + 1 ∧ h'.IsCell c (some u))
  ce : scope.names.lookup p = some .cell → (cellsFrom (s.heap.objs.size + 1) scope.names clo).lookup p = some (s.heap.objs.size + 1) ∧ h'.IsCell (s.heap.objs.size + 1) (some u)
  up : ∀ y c, y ≠ p → clo.lookup y = some c → (cellsFrom (s.heap.objs.size + 1) scope.names clo).lookup y = some c
theorem new_lam {sc scope : Scope} {clo : List (Str × Addr)} {p : Str} {u : Value} {qual : Str} {f c' : Addr} {Q : Env → Shared → Prop} (L : LamP sc scope p)
    (hQ : ∀ h' tk, LamAt s scope clo p u h' → Q (PySem.W.envX qual scope s.heap.objs.size f (.ref c') (cellsFrom (s.heap.objs.size + 1) scope.names clo)) { s with heap := h', toks := tk }) :
    wpAny M A (newFunctionEnv scope mainGlobals clo [(p, u)] (qual ++ ".<locals>.") (some f) (.ref c') none builtinsNs) Q E s := by
  rcases L.par with ⟨hl, hn⟩ | ⟨hl, hn⟩
  · have e := (cells_no scope.names s.heap (s.heap.objs.size + 1) clo hn).1
    refine wpAny_newFunctionEnv (fun y hy z => ?_) (fun y hy => ?_) (fun h' hns hsb => ?_) L.kind
    · have : y ∈ scope.names.filter (fun y => y.2 == .cell) := List.mem_filter.mpr ⟨hy, by rw [z]; rfl⟩
      rw [hn] at this
      cases this
    · simp at hy
      subst hy
      exact hl
    · have := hQ h' (s.toks + [(p, u)].length) ⟨fun b o e => hsb.extBut b o (Nat.ne_of_lt (Heap.lt_size e)) (Heap.get?_push_of_some _ e), ⟨_, hns, fun _ => by simp⟩, fun y c q => by rw [e] at q; exact .inl ⟨q, fun _ => hl⟩, fun q => by (rw [hl] at q; cases q), fun y c _ q => by rw [e]; exact q⟩
      rw [e] at this
      exact this
  · have e := fun n => (cells_one scope.names s.heap n clo hn).1
    simp only [newFunctionEnv, Option.isSome_none, Bool.false_eq_true, if_false]
    refine wpAny_bind (wpAny_alloc ?_)
    refine wpAny_bind (wpAny_layCells _ (fun name kind cells => by cases hkc : kind == NameKind.cell <;> simp [hkc]) _ _ _ _ ?_)
    rw [show ({ s with heap := s.heap.push { cls := .type "frame", data := .dict #[] } } : Shared).heap.objs.size = s.heap.objs.size + 1 from Heap.size_push ..]
    rw [e, (cells_one scope.names _ (s.heap.objs.size + 1) clo hn).2]
    have kindP : (newEnv scope s.heap.objs.size mainGlobals ((p, s.heap.objs.size + 1) :: clo) (qual ++ ".<locals>.") (some f) (.ref c') none builtinsNs).kindOf p = some .cell := hl
    have look : (newEnv scope s.heap.objs.size mainGlobals ((p, s.heap.objs.size + 1) :: clo) (qual ++ ".<locals>.") (some f) (.ref c') none builtinsNs).cells.lookup p = some (s.heap.objs.size + 1) := by
      show ((p, s.heap.objs.size + 1) :: clo).lookup p = _
      rw [List.lookup_cons]
      simp
    have cell0 : ((s.heap.push { cls := .type "frame", data := .dict #[] }).push { cls := .type "cell", data := .cell none }).IsCell (s.heap.objs.size + 1) none := by
      refine ⟨{ cls := .type "cell", data := .cell none }, ?_, rfl⟩
      have := Heap.get?_push_size (s.heap.push { cls := .type "frame", data := .dict #[] }) (o := { cls := .type "cell", data := .cell none }) rfl
      rw [Heap.size_push] at this
      exact this
    refine wpAny_bind ?_
    rw [List.forIn_cons]
    refine wpAny_bind (wpAny_bind (wpAny_storeName_cell (env := newEnv scope s.heap.objs.size mainGlobals ((p, s.heap.objs.size + 1) :: clo) (qual ++ ".<locals>.") (some f) (.ref c') none builtinsNs) L.kind kindP look cell0 fun h' hc hs => wpAny_pure ?_))
    simp only [List.forIn_nil]
    refine wpAny_pure (wpAny_pure ?_)
    have ne : s.heap.objs.size ≠ s.heap.objs.size + 1 := by omega
    have kp : ∀ b o, s.heap.get? b = some o → h'.get? b = some o := fun b o q => hs.extBut b o (Nat.ne_of_lt (Nat.lt_succ_of_lt (Heap.lt_size q))) (Heap.get?_push_of_some _ (Heap.get?_push_of_some _ q))
    have := hQ h' s.toks ⟨kp, ⟨_, ((Heap.Ns.new s.heap (.type "frame")).keeps (fun b o q => Heap.get?_push_of_some _ q)).sameBut hs ne, fun q => by (rw [hl] at q; cases q)⟩, fun y c q => ?_, fun _ => ?_, fun y c h q => ?_⟩
    · rw [e] at this
      exact this
    · rw [e, List.lookup_cons] at q
      cases hb : y == p with
      | true =>
        rw [hb] at q
        cases q
        exact .inr ⟨beq_iff_eq.mp hb, rfl, hc⟩
      | false =>
        rw [hb] at q
        exact .inl ⟨q, fun z => by simp [z] at hb⟩
    · rw [e]
      exact ⟨look, hc⟩
    · rw [e, List.lookup_cons]
      cases hb : y == p with
      | true => exact absurd (beq_iff_eq.mp hb) h
      | false => exact q
end
section
variable {X : Cx} {pins : List (Addr × Obj)} {σ : L2.St} {H HZ : Hp} {s s1 : Shared}
theorem LamP.has {scope : Scope} {p : Str} (L : LamP X.env.scope scope p) (ok : X.Ok) : ∀ y ∈ scope.names, y.2 = .free → ∃ c, X.env.cells.lookup y.1 = some c := fun y hy e => by
  rcases (L.free y hy e).2 with k | k
  · exact ok.has _ (.inl k)
  · exact ok.has _ (.inr k)
/-- the lambda's body may start -/
theorem lam_inv {A : Around} {outer : List Env} {scope : Scope} {f c' : Addr} {p : Str} {ip : Nat} {u : Value} {v : V} {h₁ : Heap} {tk : Nat} (I : Inv X pins σ H s) (L : LamP X.env.scope scope p) (e0 : Env0 X.prog X.w X.K X.mg X.base A outer s1 HZ) (hd : A.handled = none)
    (un : Un (frs X.stack) [] H HZ s.heap s1.heap) (hN : X.N[ip]? = some p) (hnd : X.N.Nodup) (rv : L2.RelV v u) (x : LamAt s1 scope (cloFrom X.env.cells scope.names []) p u h₁) :
    Inv (lamC X A outer s1 HZ scope f c') [] (σ.set ip (some v)) HZ { s1 with heap := h₁, toks := tk } := by
  have hfree := L.has I.ok
  have own_free : ∀ {y}, scope.names.lookup y = some .free → y ≠ p ∧ (X.env.scope.names.lookup y = some .cell ∨ X.env.scope.names.lookup y = some .free) := fun {y} k => L.free (y, .free) (PySem.mem_of_lookup k) rfl
  have cm : ∀ {y c}, (cloFrom X.env.cells scope.names []).lookup y = some c → y ≠ p ∧ X.env.cells.lookup y = some c := fun {y c} e => by
    rcases cloFrom_mem (PySem.mem_of_lookup e) with hm | ⟨h1, h2⟩
    · cases hm
    · obtain ⟨c1, hc⟩ := hfree _ h1 rfl
      refine ⟨(L.free _ h1 rfl).1, ?_⟩
      have hc : X.env.cells.lookup y = some c1 := hc
      rw [h2, hc]
      rfl
  have look : ∀ {y}, scope.names.lookup y = some .free → ∃ c, (cloFrom X.env.cells scope.names []).lookup y = some c := fun {y} hl => mem_lookup (cloFrom_has (cells := X.env.cells) (acc := []) (PySem.mem_of_lookup hl))
  have cellK : ∀ {c : Addr} {v : Option Value}, H c = none → s.heap.IsCell c v → s1.heap.IsCell c v := fun {c v} n ⟨o, ho, hd⟩ => by
    obtain ⟨sl, q⟩ := un.any ho n (by simp)
    exact ⟨_, q, hd⟩
  have cellL : ∀ {c : Addr} {v : Option Value}, s1.heap.IsCell c v → h₁.IsCell c v ∧ c ≠ s1.heap.objs.size + 1 := fun {c v} ⟨o, ho, hd⟩ => ⟨⟨o, x.kp _ _ ho, hd⟩, Nat.ne_of_lt (Nat.lt_succ_of_lt (Heap.lt_size ho))⟩
  -- the cells of the lambda's frame
  have cs : ∀ {y c}, (cellsFrom (s1.heap.objs.size + 1) scope.names (cloFrom X.env.cells scope.names [])).lookup y = some c → (y ≠ p ∧ X.env.cells.lookup y = some c ∧ c ≠ s1.heap.objs.size + 1) ∨ (y = p ∧ c = s1.heap.objs.size + 1 ∧ h₁.IsCell c (some u)) := fun {y c} e => by
    rcases x.cl y c e with ⟨q, _⟩ | q
    · obtain ⟨q1, q2⟩ := cm q
      obtain ⟨w', hw⟩ := I.cell y c q2
      exact .inl ⟨q1, q2, (cellL (cellK (I.freeC y c q2) hw)).2⟩
    · exact .inr q
  have noA : ∀ b : Addr, b ∉ (lamC X A outer s1 HZ scope f c').ex := fun b z => absurd (show b ∈ ([] : List Addr) from z) (by simp)
  obtain ⟨m, hns, hmp⟩ := x.ns
  refine ⟨⟨e0.mod, L.kind, rfl, rfl, Nat.le_refl _, fun y z c e1 e2 => ?_, fun y hy => ?_, fun y c z _ => ?_, fun _ => hd, Around.frames_deeper e0.frames, .inr ⟨rfl, rfl⟩, fun b z => absurd z (noA b), e0.bs, e0.bsz, fun b _ _ => noA b,
      fun b z => absurd z (noA b), e0.funs, e0.frf⟩,
    rfl, e0.bare, Un.kept x.kp, ⟨m, hns, fun i y w e1 e2 e3 => ?_⟩, fun y c e => ?_, e0.hok.fresh (Nat.le_refl _), fun y c e => ?_, fun q hq => absurd (show q ∈ ([] : List (Addr × Obj)) ++ [] from hq) (by simp), e0.hok.kept x.kp, by rw [List.length_set]; exact I.len⟩
  · rcases cs e1 with ⟨n1, c1, d1⟩ | ⟨n1, c1, _⟩ <;> rcases cs e2 with ⟨n2, c2, d2⟩ | ⟨n2, c2, _⟩
    · exact I.ok.inj y z c c1 c2
    · exact absurd c2 d1
    · exact absurd c1 d2
    · rw [n1, n2]
  · have hy : scope.names.lookup y = some .cell ∨ scope.names.lookup y = some .free := hy
    rcases hy with hy | hy
    · obtain rfl : y = p := L.own (y, .cell) (PySem.mem_of_lookup hy) (.inr rfl)
      exact ⟨_, (x.ce hy).1⟩
    · obtain ⟨c, hc⟩ := look hy
      exact ⟨c, x.up y c (own_free hy).1 hc⟩
  · have z : false = true := z
    cases z
  · have e3 : Vis scope y := e3
    have e1 : X.N[i]? = some y := e1
    by_cases hi : ip = i
    · subst hi
      rw [hN] at e1
      cases e1
      have hlen : ip < σ.length := by rw [I.len]; exact (List.getElem?_eq_some_iff.mp hN).1
      rw [List.getElem?_set_self hlen] at e2
      cases e2
      refine ⟨u, rv, ?_⟩
      rcases e3 with k | k | k
      · exact .inl ⟨k, hmp k⟩
      · obtain ⟨q1, q2⟩ := x.ce k
        exact .inr ⟨.inl k, _, q1, q2⟩
      · exact absurd rfl (own_free k).1
    · rw [List.getElem?_set_ne hi] at e2
      have ny : y ≠ p := fun z => by
        subst z
        exact hi ((List.getElem?_inj (List.getElem?_eq_some_iff.mp hN).1 hnd).mp (hN.trans e1.symm))
      rcases e3 with k | k | k
      · exact absurd (L.own (y, .local) (PySem.mem_of_lookup k) (.inl rfl)) ny
      · exact absurd (L.own (y, .cell) (PySem.mem_of_lookup k) (.inr rfl)) ny
      · obtain ⟨m0, hn0, hl⟩ := I.loc
        have hvis : Vis X.env.scope y := (own_free k).2.elim (fun k => .inr (.inl k)) (fun k => .inr (.inr k))
        obtain ⟨w', r, q⟩ := hl i y w e1 e2 hvis
        obtain ⟨c2, h2⟩ := look k
        refine ⟨w', r, .inr ⟨.inr k, c2, x.up y c2 ny h2, ?_⟩⟩
        have c1 := (cm h2).2
        rcases q with ⟨k', _⟩ | ⟨_, c3, e', z⟩
        · have k' : X.env.scope.names.lookup y = some .local := k'
          rcases (own_free k).2 with k2 | k2 <;> rw [k2] at k' <;> cases k'
        · rw [c1] at e'
          cases e'
          exact (cellL (cellK (I.freeC y _ c1) z)).1
  · rcases cs e with ⟨n1, c1, _⟩ | ⟨n1, c1, d1⟩
    · obtain ⟨w', z⟩ := I.cell y c c1
      exact ⟨w', (cellL (cellK (I.freeC y c c1) z)).1⟩
    · exact ⟨_, d1⟩
  · rcases cs e with ⟨n1, c1, _⟩ | ⟨n1, c1, d1⟩
    · obtain ⟨w', o, ho, hd⟩ := I.cell y c c1
      exact un.free c o ho (I.freeC y c c1) (by simp)
    · rw [c1]
      exact e0.hok.fresh (Nat.le_succ _)
end
/-- a call of what a parameter holds; x: the lambda; L: what it does -/
def wLam (i : Nat) (x : D) (L : List D → Sto → DK → Prop) (wa : DA) : DE := fun env st Q => env[i]? = some (some x) ∧ wa env st fun ds s => L ds s Q
def MoL (L : List D → Sto → DK → Prop) : Prop := ∀ ds s (Q Q' : DK), (∀ d s, Q d s → Q' d s) → L ds s Q → L ds s Q'
theorem moLam {i : Nat} {x : D} {L : List D → Sto → DK → Prop} {wa : DA} (m : MoL L) (ma : MoA wa) : MoE (wLam i x L wa) := fun _ _ _ _ h ⟨e, q⟩ => ⟨e, ma _ _ _ _ (fun _ _ q => m _ _ _ _ h q) q⟩
/-- what a lambda of the parameter ip does: its body in its maker's names -/
def lamL (env : En) (ip : Nat) (wl : DE) : List D → Sto → DK → Prop := fun ds st Q => ∃ y, ds = [y] ∧ ∃ Q0 : DK, (∀ d s, Q0 d s → Q d s) ∧ wl (env.set ip (some y)) st Q0
theorem moL {env : En} {ip : Nat} {wl : DE} : MoL (lamL env ip wl) := fun _ _ _ _ h ⟨y, e, Q0, l, q⟩ => ⟨y, e, Q0, fun d s z => h _ _ (l d s z), q⟩
section
variable {X : Cx} {pins : List (Addr × Obj)} {σ : L2.St} {H : Hp} {s : Shared}
theorem we_lam1 {Ng : List Str} {qg : Str} {sg : Scope} {g f c' : Addr} {cdg pm ctv : Value} {params : Arguments} {body : Expr} {scope : Scope} {k i ip : Nat} {a p : Str} {EE : XK} {env : En} {io0 : List Addr} {F0 : Hp} {st0 : Sto} {wl : DE} {wa : DA} {e : Expr} {es : List Expr} {p1 p2 : Pos}
    (I : Inv X pins σ H s) (L : LamP X.env.scope scope p) (hf : s.heap.get? f = some (PySem.W.kla_obj "<lambda>" (X.env.qual ++ "<lambda>") params body scope (cloFrom X.env.cells scope.names []) pm c' ctv)) (hfn : H f = none) (hfr : f ∉ frs X.stack)
    (Rm : ∃ B0 : Bs, @Rel B0 X.K σ H env io0 F0 st0) (hco : F0 c' = some (LamX.CodeO c' (X.env.qual ++ "<lambda>")))
    (hbind : ∀ u, bindArgs (PySem.W.kla_fn "<lambda>" (X.env.qual ++ "<lambda>") params body scope (cloFrom X.env.cells scope.names []) pm (.ref c') ctv) ⟨[u], []⟩ = pure [(p, u)])
    (hr : Room (k + 1) (X.A.deeper (envOfC qg sg s.heap.objs.size g cdg))) (hgd : X.A.guards = some [])
    (hNp : X.N[ip]? = some p) (hnd : X.N.Nodup)
    (hbody : ∀ (A : Around) (outer : List Env) (s1 : Shared) (H1 : Hp), Room k (A.deeper (lamE X scope s1.heap.objs.size f c')) → A.guards = some [] → WE (lamC X A outer s1 H1 scope f c') body wl)
    (hN : Ng[i]? = some a) (hv : Vis sg a) (ha : WA (cxOf CX0 X.prog X.w X.K X.mg X.base Ng qg sg g cdg X.A X.stack s H EE).nox (e :: es) wa)
    (hd : (a == ("__debug__" : Str)) = false := by decide) (hcd : (a == ("__classdict__" : Str)) = false := by decide)
    (he : starEach (e :: es) (cxOf CX0 X.prog X.w X.K X.mg X.base Ng qg sg g cdg X.A X.stack s H EE).nox.env = (false, eval e (cxOf CX0 X.prog X.w X.K X.mg X.base Ng qg sg g cdg X.A X.stack s H EE).nox.env) :: starEach es (cxOf CX0 X.prog X.w X.K X.mg X.base Ng qg sg g cdg X.A X.stack s H EE).nox.env := by rfl)
    (hpl : (backTo p2 (starEach es (cxOf CX0 X.prog X.w X.K X.mg X.base Ng qg sg g cdg X.A X.stack s H EE).nox.env)).any (·.1) = false := by rfl) :
    WE (cxOf CX0 X.prog X.w X.K X.mg X.base Ng qg sg g cdg X.A X.stack s H EE).nox (.Call (.Name a p1) (e :: es) [] p2) (wLam i (.fn f io0 F0) (lamL env ip wl) wa) := by
  refine ⟨moLam moL ha.mo, ⟨fun pinsZ sZ σZ HZ Q IZ ⟨envZ, io, F, st, R, hx, q⟩ => ?_⟩⟩
  obtain ⟨vx, hs, dx⟩ := R.slot i _ hx
  cases dx with
  | fn hi hF =>
    refine wpAny_Call_Name_kw (thn ((pe_var (pos := p1) (i := i) hN hv hd hcd).run pinsZ sZ σZ HZ (fun v H1 => v = .ref f ∧ H1 = HZ) IZ ⟨.ref f, hs, rfl, rfl⟩) fun u1 s1 ⟨v1, H1, I1, r1, q1⟩ => ?_)
    obtain ⟨rfl, rfl⟩ := q1
    obtain rfl : u1 = Value.ref f := r1
    have at_ : ∀ {pinsZ : List (Addr × Obj)} {σZ : L2.St} {HZ : Hp} {s1 : Shared}, Inv (cxOf CX0 X.prog X.w X.K X.mg X.base Ng qg sg g cdg X.A X.stack s H EE).nox pinsZ σZ HZ s1 → s1.heap.get? f = some (PySem.W.kla_obj "<lambda>" (X.env.qual ++ "<lambda>") params body scope (cloFrom X.env.cells scope.names []) pm c' ctv) := fun IZ =>
      IZ.base.keep f _ hf hfn hfr (fun z => nomatch (show f ∈ ([] : List Addr) from z))
    refine PySem.W.callWith_F ⟨_, _, _, _, at_ I1⟩ (thn (ha.pe.run p2 pinsZ s1 σZ H1 (fun vs H2 => ∃ ds st2 io2 F2, lamL env ip wl ds st2 (kE X.K H1 io F Q) ∧ Stp H1 io F H2 io2 F2 ∧ Rel X.K σZ H2 envZ io2 F2 st2 ∧ DenL X.K io2 F2 vs ds) I1
      (tA_use ha.mo R q fun ds st2 vs io2 F2 H2 q2 t2 R2 n2 => ⟨ds, st2, io2, F2, q2, t2, R2, n2⟩)) fun us s2 ⟨vs, H2, I2, r2, ds, st2, io2, F2, q2, t2, R2, n2⟩ => ⟨⟨_, _, _, _, at_ I2⟩, ?_⟩) he hpl
    obtain ⟨y, rfl, Q0, le, q2⟩ := q2
    cases n2 with
    | @cons v vr _ _ ny nr =>
    cases nr
    cases r2 with
    | @cons _ u _ ur ry rr =>
    cases rr
    have un : Un (frs X.stack) [] H H2 s.heap s2.heap := I2.base
    have c2 : H2 c' = some (LamX.CodeO c' (X.env.qual ++ "<lambda>")) := R2.sub _ _ (t2.fr _ _ (hF _ _ hco))
    obtain ⟨⟨oc, vs, t, hoc, hdc, hvc⟩, _, _⟩ := I2.hok c' _ c2
    have hgd' : (X.A.deeper (envOfC qg sg s.heap.objs.size g cdg)).guards = some [] := hgd
    have rc : codeAny (model X.prog X.w) (X.A.deeper (envOfC qg sg s.heap.objs.size g cdg)) (.call (.ref f) ⟨[u], []⟩) (CR CX0 (envOfC qg sg s.heap.objs.size g cdg :: X.stack) X.prog X.w H2 s2 Q E0) s2 := by
      refine PySem.W.kla_callFunE hr.depth (at_ I2) rfl L.co L.gen rfl ⟨c', oc, vs, t, rfl, hoc, hdc, hvc⟩ ?_
      rw [hbind u]
      refine wpAny_pure (new_lam (qual := X.env.qual ++ "<lambda>") L fun h' tk la => ⟨I2.nolimit.keeps la.kp, ?_⟩)
      have J : Inv (lamC X (X.A.deeper (envOfC qg sg s.heap.objs.size g cdg)) (envOfC qg sg s.heap.objs.size g cdg :: X.stack) s2 H2 scope f c') [] (σ.set ip (some v)) H2 { s2 with heap := h', toks := tk } :=
        lam_inv I L I2.env0 hr.hd un hNp hnd ry la
      have B := hbody (X.A.deeper (envOfC qg sg s.heap.objs.size g cdg)) (envOfC qg sg s.heap.objs.size g cdg :: X.stack) s2 H2 (hr.deeper _) hgd'
      have Rl : Rel X.K (σ.set ip (some v)) H2 (env.set ip (some y)) io2 F2 st2 := by
        obtain ⟨sl0, slot0⟩ : σ.length = env.length ∧ ∀ (i : Nat) d, env[i]? = some (some d) → ∃ v, σ[i]? = some (some v) ∧ Den X.K io0 F0 v d := by
          obtain ⟨B0, Rm⟩ := Rm
          exact ⟨Rm.sl, Rm.slot⟩
        refine Rel.set { R2.toRelH with sl := sl0, bs := R2.bs, slot := fun j d e => ?_ } ny
        obtain ⟨w, h1, h2⟩ := slot0 j d e
        exact ⟨w, h1, h2.mono (fun n b e => t2.ix _ _ (hi n b e)) fun b o e => t2.fr _ _ (hF b o e)⟩
      refine PySem.W.kla_codeExpr (wpAny_mono (B.pe.run [] _ _ H2 Q J ⟨_, io2, F2, st2, Rl, B.mo _ _ _ _ (fun d s h => kE_later t2 (le d s h)) q2⟩) (fun w s' hq => ?_) fun _ _ hq => hq.elim)
      obtain ⟨w', H', J', rw', q'⟩ := hq
      exact ⟨w', H', J'.os, J'.bare, J'.base, J'.hok, rw', q'⟩
    refine wpAny_call (codeAny_mono rc fun r s' hq => ?_)
    match r, hq with
    | .error e, hq => exact hq.elim
    | .ok (.ret u), hq => exact I2.after hq
    | .ok .next, hq => exact hq.elim
    | .ok .brk, hq => exact hq.elim
    | .ok .cont, hq => exact hq.elim
/-- the lambda is made -/
theorem lam_make {io : List Addr} {F : Hp} {st : Sto} {c P : Addr} {params : Arguments} {body : Expr} {scope : Scope} {pos : Pos} {E : Value → Shared → Prop} {Q : Value → Shared → Prop} (I : Inv X pins σ H s) (R : RelH X.K H io F st)
    (TB : LamX.TabB X.base X.mg c P) (hcode : X.env.code = .ref c) (hm : (P, X.env.qual ++ "<lambda>") ∈ tabsOf X.K) (hu : ∀ p ∈ tabsOf X.K, p.1 = P → p.2 = X.env.qual ++ "<lambda>") (hdef : defaultsOf params X.env = ([], []))
    (hfree : ∀ y ∈ scope.names, y.2 = .free → ∃ c, X.env.cells.lookup y.1 = some c)
    (h : ∀ (f c' : Addr) (pm ctv : Value) (H1 F1 : Hp) (s' : Shared), Inv X pins σ H1 s' → Stp H io F H1 io F1 → RelH X.K H1 io F1 st →
      s'.heap.get? f = some (PySem.W.kla_obj "<lambda>" (X.env.qual ++ "<lambda>") params body scope (cloFrom X.env.cells scope.names []) pm c' ctv) → H1 f = none → f ∉ frs X.stack → F1 c' = some (LamX.CodeO c' (X.env.qual ++ "<lambda>")) → Q (.ref f) s') :
    wpAny (model X.prog X.w) X.A (eval (.Lambda params body scope pos) X.env) Q E s := by
  obtain ⟨hFP, hPio, ps, hP, ht, ha⟩ := R.tab _ hm
  refine PySem.W.kla_eval hdef ?_
  have hP' : s.heap.get? P = some { cls := .none, data := .fields ps } := I.hok P _ hP
  have nofr : ∀ f, s.heap.objs.size ≤ f → f ∉ frs X.stack := fun f hf z => by
    rcases List.mem_cons.mp (I.stkSub _ z) with e | e
    · exact Nat.lt_irrefl _ (Nat.lt_of_lt_of_le (e ▸ I.lt) hf)
    · exact I.nofs hf e
  cases hc : codeAmong pos ps.toList with
  | some cv =>
    obtain ⟨c', rfl, hco⟩ := ha pos cv hc
    refine PySem.W.kla_makeFunctionHit (mg := X.mg) (c := c) (P := P) (ps := ps) (closure_ok hfree) I.ok.glob (I.mod.glob.keeps I.bk) hcode (TB.code.keeps I.bk) hP' ht hc (TB.bm.keeps I.bk) fun ctv h' tk hx hsz => ?_
    exact h h'.objs.size c' _ ctv H F _ (I.kept fun b o e => Heap.get?_push_of_some _ (hx b o e)) Stp.refl R (Heap.get?_push_size _ rfl) (I.hok.fresh hsz) (nofr _ hsz) hco
  | none =>
    refine PySem.W.kla_makeFunction (mg := X.mg) (c := c) (P := P) (ps := ps) (closure_ok hfree) I.ok.glob (I.mod.glob.keeps I.bk) hcode (TB.code.keeps I.bk) hP' ht hc TB.gP (TB.bm.keeps I.bk) fun c' ctv h' tk hx hge hlt hrec htb => ?_
    obtain ⟨c2, oc, vs, t, e2, hoc, hdc, hvc⟩ := hrec
    cases e2
    have nC : H c' = none := I.hok.fresh hge
    have nF : F c' = none := R.notF nC
    have nP : P ≠ c' := ne_of_none hP nC
    let o1 : HO := .tbl (ps ++ #[rawInt pos.line, rawInt pos.col, .ref c'])
    let o2 : HO := LamX.CodeO c' (X.env.qual ++ "<lambda>")
    have I1 := LamX.inv_table (q := X.env.qual ++ "<lambda>") (t' := tk) (more := #[rawInt pos.line, rawInt pos.col, .ref c']) (h' := h'.push (PySem.W.kla_obj "<lambda>" (X.env.qual ++ "<lambda>") params body scope (cloFrom X.env.cells scope.names []) ((X.mg "__name__").getD .none) c' ctv)) I hP
      (fun b o hb e => Heap.get?_push_of_some _ (hx b o hb e)) (Heap.get?_push_of_some _ htb) hge ⟨oc, vs, t, Heap.get?_push_of_some _ hoc, hdc, hvc⟩
    have atO : ∀ b, b ≠ P → b ≠ c' → upd (upd H P o1) c' o2 b = H b := fun b h1 h2 => by rw [upd_ne h2, upd_ne h1]
    have atP : upd (upd H P o1) c' o2 P = some o1 := by rw [upd_ne nP, upd_same]
    have atC : upd (upd H P o1) c' o2 c' = some o2 := upd_same
    have fO : ∀ b o, F b = some o → upd F c' o2 b = some o := fun b o e => by rw [upd_ne (ne_of_none e nF)]; exact e
    have dom : ∀ b o, H b = some o → ∃ o', upd (upd H P o1) c' o2 b = some o' := fun b o e => by
      by_cases hb : b = P
      · rw [hb]; exact ⟨_, atP⟩
      · exact ⟨o, by rw [atO b hb (ne_of_none e nC)]; exact e⟩
    have S1 : Stp H io F (upd (upd H P o1) c' o2) io (upd F c' o2) := by
      refine ⟨⟨[], by simp, fun _ h => by cases h⟩, fO, fun a o e hn _ => ?_, dom, fun a o e => ?_⟩
      · rw [atO a (fun z => by rw [z, hP] at e; cases e; exact hn _ rfl) (ne_of_none e nC)]
        exact e
      · by_cases z : a = c'
        · rw [z]; exact .inr (.inl nC)
        · rw [upd_ne z] at e; exact .inl e
    have R1 : RelH X.K (upd (upd H P o1) c' o2) io (upd F c' o2) st := by
      refine ⟨fun a o e => ?_, R.len, R.nd, fun a hi => ?_, fun n d a h1 h2 => ?_, fun p hp => ?_⟩
      · by_cases z : a = c'
        · rw [z] at e ⊢
          rw [upd_same] at e
          rw [atC]; exact e
        · rw [upd_ne z] at e
          rw [atO a (fun z2 => by rw [z2, hFP] at e; cases e) z]
          exact R.sub _ _ e
      · obtain ⟨o, e⟩ := R.there a hi
        exact dom a o e
      · have hi := List.mem_of_getElem? h2
        have n1 : a ≠ P := fun z => hPio (z ▸ hi)
        have n2 : a ≠ c' := fun z => R.notIo nC (z ▸ hi)
        exact (R.cel n d a h1 h2).next S1 (atO a n1 n2) fun e => by rw [upd_ne n2]; exact e
      · by_cases hb : p.1 = P
        · rw [hu p hp hb, hb]
          refine ⟨by rw [upd_ne nP]; exact hFP, hPio, _, atP, ?_, fun p' cv hcv => ?_⟩
          · show TriplesOk (ps ++ #[rawInt pos.line, rawInt pos.col, .ref c']).toList
            rw [Array.toList_append]
            exact PySem.TriplesOk_snoc _ _ _ _ ht
          · have hcv : codeAmong p' (ps.toList ++ [rawInt pos.line, rawInt pos.col, .ref c']) = some cv := by rw [← Array.toList_append (ys := #[rawInt pos.line, rawInt pos.col, .ref c'])]; exact hcv
            rcases LamX.among_app _ ht hcv with z | z
            · obtain ⟨c0, e1, e2⟩ := ha p' cv z
              exact ⟨c0, e1, fO _ _ e2⟩
            · exact ⟨c', z, upd_same⟩
        · obtain ⟨t1, t2, ps', t3, t4, t5⟩ := R.tab p hp
          have n2 : p.1 ≠ c' := ne_of_none t3 nC
          refine ⟨by rw [upd_ne n2]; exact t1, t2, ps', by rw [atO _ hb n2]; exact t3, t4, fun pos cv hc => ?_⟩
          obtain ⟨c0, e1, e2⟩ := t5 pos cv hc
          exact ⟨c0, e1, fO _ _ e2⟩
    have hsz : s.heap.objs.size ≤ h'.objs.size := Nat.le_trans hge (Nat.le_of_lt hlt)
    refine h h'.objs.size c' _ ctv _ _ _ I1 S1 R1 (Heap.get?_push_size _ rfl) ?_ (nofr _ hsz) upd_same
    rw [atO _ (Nat.ne_of_gt (Nat.lt_of_lt_of_le (Heap.lt_size hP') hsz)) (Nat.ne_of_gt hlt)]
    exact I.hok.fresh hsz
end
/-- a call of the parameter a, read as the lambda y that does L -/
structure LamRule (Z : Cx) (a : Str) (y : D) (L : List D → Sto → DK → Prop) : Prop where
  go : ∀ {e : Expr} {es : List Expr} {wa : DA} {p1 p2 : Pos}, WA Z (e :: es) wa → (starEach (e :: es) Z.env = (false, eval e Z.env) :: starEach es Z.env) → ((backTo p2 (starEach es Z.env)).any (·.1) = false) → WE Z (.Call (.Name a p1) (e :: es) [] p2) (wLam 1 y L wa)
/-- g(e, lambda p: ..); wp: the text of g, in terms of the lambda and of what it does -/
def wWith (Ng : List Str) (ip : Nat) (wp : D → (List D → Sto → DK → Prop) → DS) (we wl : DE) : DE := fun env st Q => we env st fun d s1 => ∃ Q0 : DK, (∀ d s, Q0 d s → Q d s) ∧ ∀ a io0 F0, wp (.fn a io0 F0) (lamL env ip wl) (bodyEnds (popEnds s1.length s1 Q0)) (startE Ng [d, .fn a io0 F0]) s1
section
variable {X : Cx}
theorem we_with {x a pa p : Str} {sd : Stmt} {g c P : Addr} {fd : FuncData} {Ng : List Str} {k ip : Nat} {wp : D → (List D → Sto → DK → Prop) → DS} {we wl : DE} {e : Expr} {params : Arguments} {body : Expr} {scope : Scope} {p0 lpos pos : Pos}
    (F : Fun X.K x x sd g fd) (Sg : FnScope Ng [pa, a] (defScope sd)) (hb : Binds X.K fd [pa, a] []) (hr : Room (k + 2) X.A) (hgd : X.A.guards = some []) (hg : Gl X x) (hm : X.mg x = some (.ref g)) (hNa : Ng[1]? = some a) (hva : Vis (defScope sd) a)
    (he : WE X e we) (TB : LamX.TabB X.base X.mg c P) (hcode : X.env.code = .ref c) (hmT : (P, X.env.qual ++ "<lambda>") ∈ tabsOf X.K) (hu : ∀ p ∈ tabsOf X.K, p.1 = P → p.2 = X.env.qual ++ "<lambda>")
    (L : LamP X.env.scope scope p) (hNp : X.N[ip]? = some p) (hnd : X.N.Nodup) (hdef : defaultsOf params X.env = ([], []))
    (hbind : ∀ (q : Str) (cl : List (Str × Addr)) (pm cv ctv u : Value), bindArgs (PySem.W.kla_fn "<lambda>" q params body scope cl pm cv ctv) ⟨[u], []⟩ = pure [(p, u)])
    (hbody : ∀ [Bs] (A : Around) (outer : List Env) (s1 : Shared) (H1 : Hp) (f c' : Addr), Room k (A.deeper (lamE X scope s1.heap.objs.size f c')) → A.guards = some [] → WE (lamC X A outer s1 H1 scope f c') body wl)
    (txt : ∀ [Bs] (cdv : Value) (A : Around) (outer : List Env) (s : Shared) (H : Hp) (E : XK) (y : D) (L : List D → Sto → DK → Prop), Room (k + 1) (A.deeper (envOfC x (defScope sd) s.heap.objs.size g cdv)) → A.guards = some [] →
      LamRule (cxOf CX0 X.prog X.w X.K X.mg X.base Ng x (defScope sd) g cdv A outer s H E).nox a y L →
      WB (cxOf CX0 X.prog X.w X.K X.mg X.base Ng x (defScope sd) g cdv A outer s H E).nox (defBody sd) (wp y L))
    (hdb : (x == ("__debug__" : Str)) = false := by decide) (hd : (a == ("__debug__" : Str)) = false := by decide) (hcd : (a == ("__classdict__" : Str)) = false := by decide)
    (hst : starEach (e :: [.Lambda params body scope lpos]) X.env = (false, eval e X.env) :: starEach [.Lambda params body scope lpos] X.env := by rfl) :
    WE X (.Call (.Name x p0) [e, .Lambda params body scope lpos] [] pos) (wWith Ng ip wp we wl) := by
  refine ⟨fun _ _ _ _ h q => he.mo _ _ _ _ (fun _ _ ⟨Q0, l, q⟩ => ⟨Q0, fun d s z => h _ _ (l d s z), q⟩) q, ⟨fun pins s σ H Q I ⟨env, io, Fz, st, R, q⟩ => ?_⟩⟩
  refine wpAny_Call_Name_kw (ld_glob I hg hm ?_ hdb)
  refine PySem.W.callWith_K (h₀ := X.base) I.ok.mod.kin F.kp ?_ hst (by rfl)
  rw [hst]
  show wpAny _ _ (spliced ((false, eval e X.env) :: backTo pos (starEach [.Lambda params body scope lpos] X.env))) _ _ s
  refine Calls.spliced_cons (thn (he.pe.run pins s σ H (fun v H1 => ∃ d st1 io1 F1, (∃ Q0 : DK, (∀ d s, Q0 d s → kE X.K H io Fz Q d s) ∧ ∀ a io0 F0, wp (.fn a io0 F0) (lamL env ip wl) (bodyEnds (popEnds st1.length st1 Q0)) (startE Ng [d, .fn a io0 F0]) st1) ∧ Stp H io Fz H1 io1 F1 ∧ Rel X.K σ H1 env io1 F1 st1 ∧ Den X.K io1 F1 v d) I
    (tE_use he.mo R q fun d st1 v io1 F1 H1 q1 t1 R1 n1 => ⟨d, st1, io1, F1, q1, t1, R1, n1⟩)) fun u1 s1 ⟨v1, H1, I1, r1, d, st1, io1, F1, q1, t1, R1, n1⟩ => ?_)
  show wpAny _ _ (spliced ((false, eval (.Lambda params body scope lpos) X.env) :: backTo pos (starEach [] X.env))) _ _ s1
  refine Calls.spliced_cons (lam_make I1 R1.toRelH TB hcode hmT hu hdef (fun y hy e => I1.ok.has _ (L.free y hy e).2) fun f c' pm' ctv H2 F2 s2 I2 t2 R2 hf hfn hfr hco => ?_)
  refine Calls.spliced_nil ⟨I2.kIn, ?_⟩
  obtain ⟨oc, od, kV, doc, pm, an, cdv, ct, osl, rfl, lk, hcd'⟩ := F.ex
  obtain ⟨Q0, le, q1⟩ := q1
  have rc : codeAny (model X.prog X.w) X.A (.call (.ref g) ⟨[u1, .ref f], []⟩) (CR CX0 X.stack X.prog X.w H2 s2 Q E0) s2 := by
    refine LamX.run_ofS (N := Ng) (ps := [pa, a]) (us := [u1, .ref f]) (vs := [v1, .ref f]) lk hcd' Sg hr I2.env0 (hb s2 [u1, .ref f] I2.kIn rfl) (.cons r1 (.cons rfl .nil)) rfl fun hr' => ?_
    have Rm := R1.next t2 R2
    letI B0 : Bs := ‹Bs›
    letI : Bs := ⟨H2, io1, F2⟩
    have B := txt cdv X.A X.stack s2 H2 E0 (.fn f io1 F2) (lamL env ip wl) hr' hgd ⟨fun {e es wa p1 p2} ha h1 h2 =>
      we_lam1 I2 L hf hfn hfr ⟨B0, Rm⟩ hco (fun u => hbind _ _ _ _ _ u) hr' hgd hNp hnd (fun A outer s1 H1 => hbody A outer s1 H1 f c') hNa hva ha hd hcd h1 h2⟩
    refine ⟨_, B.pe.nox, startE Ng [d, .fn f io1 F2], io1, F2, st1, start_rel R2 (.cons (t2.den n1) (.cons (.fn (fun _ _ h => h) fun _ _ h => h) .nil)), B.mo (bodyEnds (popEnds st1.length st1 Q0)) _ _ _ ?_ (q1 f io1 F2)⟩
    have fin : ∀ {d : D} {s : Sto} {v : V} {io' : List Addr} {F' H' : Hp}, popEnds st1.length st1 Q0 d s → Stp H2 io1 F2 H' io' F' → RelH X.K H' io' F' s → Den X.K io' F' v d → Q v H' := fun {d s v io' F' H'} h t R' nd => by
      obtain ⟨stx, ex, rfl, hl, hd, hb, h⟩ := h
      obtain ⟨R3, t3⟩ := pop_rel R2 t R' hl hb
      refine le d stx h v io1 F' H' (t1.trans (t2.trans t3)) R3 (nd.cut (fun n a h e => ?_) (by rw [R2.len]; exact hd))
      obtain ⟨more, em, hm⟩ := t.ext
      rw [em, List.getElem?_append_left h] at e
      exact e
    refine ⟨fun e s h => ?_, fun d s h => ?_, fun e s h => h.elim, fun e s h => h.elim⟩
    · exact fun σ' io' F' H' t R' => fin h t R'.toRelH .non
    · exact fun v io' F' H' t R' n => fin h t R' n
  refine wpAny_call (codeAny_mono rc fun r s' hq => ?_)
  match r, hq with
  | .error e, hq => exact hq.elim
  | .ok (.ret u), hq => exact I2.after hq
  | .ok .next, hq => exact hq.elim
  | .ok .brk, hq => exact hq.elim
  | .ok .cont, hq => exact hq.elim
end
/-- no two tables at one place -/
def tabsOkB (K : PySem.W.Frag) : Bool := (tabsOf K).all fun p => (tabsOf K).all fun q => !(p.1 == q.1) || decide (p.2 = q.2)
theorem tab_mem {K : PySem.W.Frag} {q : Str} {c P : Addr} (hw : q ∈ lamNames) (ht : PySem.W.tabIn K q = some (c, P)) : (P, lamQ q) ∈ tabsOf K ∧ (c, P) ∈ tabCs K :=
  ⟨List.mem_filterMap.mpr ⟨q, hw, by rw [ht]; rfl⟩, List.mem_filterMap.mpr ⟨q, hw, ht⟩⟩
theorem tab_one {K : PySem.W.Frag} {P : Addr} {z : Str} (u : tabsOkB K = true) (h : (P, z) ∈ tabsOf K) : ∀ p ∈ tabsOf K, p.1 = P → p.2 = z := fun p hp e => by
  unfold tabsOkB at u
  have := List.all_eq_true.mp (List.all_eq_true.mp u p hp) _ h
  simpa [e] using this
theorem tab_code {K : PySem.W.Frag} {q : Str} {f : Addr} {oc : Value} {od : Option Addr} {fd : FuncData} {sl : Array (Option Value)} (a : PySem.W.nsIn K mainGlobals q = some (some (.ref f))) (l : K.lookup f = some ⟨oc, od, .func fd, sl⟩) (e : (PySem.W.tabIn K q).isSome = true) :
    ∃ c P, fd.code = .ref c ∧ PySem.W.tabIn K q = some (c, P) := by
  obtain ⟨⟨c, P⟩, h⟩ := Option.isSome_iff_exists.mp e
  refine ⟨c, P, ?_, h⟩
  unfold PySem.W.tabIn at h
  simp only [a, l] at h
  split at h
  · rename_i c2 hc
    split at h
    · split at h
      · cases h; exact hc
      · cases h
    · cases h
  · cases h
section
variable {P : Program} {w : World} {K : PySem.W.Frag} {mg : Str → Option Value} {base : Heap}
omit [Bs] in
/-- a def that makes a lambda: its body learns its code -/
theorem fn_okC {x qual : Str} {st : Stmt} {f : Addr} {fd : FuncData} {N ps : List Str} {k : Nat} {S : Spec} {wb : DS} (F : Fun K x qual st f fd) (sc : FnScope N ps (defScope st)) (hn : S.n = ps.length)
    (body : ∀ [Bs] (cdv : Value) (A : Around) (outer : List Env) (s : Shared) (H : Hp) (E : XK), fd.code = cdv → Room k (A.deeper (envOfC qual (defScope st) s.heap.objs.size f cdv)) → A.guards = some [] → WB (cxOf CX0 P w K mg base N qual (defScope st) f cdv A outer s H E).nox (defBody st) wb)
    (vc : ∀ g sto, (S.args g).length = S.n → S.pre g sto → wb (bodyEnds (S.post g sto)) (startE N (S.args g)) sto) : FnG P w K mg base CX0 (k + 1) f fd ps (spOf K S) := by
  refine fnG_of F sc (fun vs H Q E ⟨g, io, Fz, sto, z, R, n, p, q⟩ => by rw [n.length, z, hn]) (fun cdv A outer s H vs Q E hc hr hgd ⟨g, io, Fz, sto, z, R, n, p, q⟩ => ?_)
  letI : Bs := ⟨H, io, Fz⟩
  have B := body cdv A outer s H E hc hr hgd
  refine ⟨_, B.pe.nox, startE N (S.args g), io, Fz, sto, start_rel R n, B.mo (bodyEnds (S.post g sto)) _ _ _ ?_ (vc g sto z p)⟩
  exact ⟨fun e s h => fun σ' io' F' H' t R' => q .non s h .non io' F' H' t R'.toRelH .non, fun d s h => q d s h, fun e s h => h.elim, fun e s h => h.elim⟩
end
section
variable {X : Cx}
theorem we_withT {q x a pa p : Str} {sd : Stmt} {g : Addr} {fd fq : FuncData} {Ng : List Str} {k ip : Nat} {wp : D → (List D → Sto → DK → Prop) → DS} {we wl : DE} {e : Expr} {params : Arguments} {body : Expr} {scope : Scope} {p0 lpos pos : Pos}
    (hw : q ∈ lamNames) (t : ∃ c P, fq.code = .ref c ∧ PySem.W.tabIn X.K q = some (c, P)) (hq : X.env.qual ++ "<lambda>" = lamQ q) (hc : fq.code = X.env.code) (u : tabsOkB X.K = true) (TB : ∀ p ∈ tabCs X.K, LamX.TabB X.base X.mg p.1 p.2)
    (F : Fun X.K x x sd g fd) (Sg : FnScope Ng [pa, a] (defScope sd)) (hb : Binds X.K fd [pa, a] []) (hr : Room (k + 2) X.A) (hgd : X.A.guards = some []) (hg : Gl X x) (hm : X.mg x = some (.ref g)) (hNa : Ng[1]? = some a) (hva : Vis (defScope sd) a)
    (he : WE X e we) (L : LamP X.env.scope scope p) (hNp : X.N[ip]? = some p) (hnd : X.N.Nodup) (hdef : defaultsOf params X.env = ([], []))
    (hbind : ∀ (q : Str) (cl : List (Str × Addr)) (pm cv ctv u : Value), bindArgs (PySem.W.kla_fn "<lambda>" q params body scope cl pm cv ctv) ⟨[u], []⟩ = pure [(p, u)])
    (hbody : ∀ [Bs] (A : Around) (outer : List Env) (s1 : Shared) (H1 : Hp) (f c' : Addr), Room k (A.deeper (lamE X scope s1.heap.objs.size f c')) → A.guards = some [] → WE (lamC X A outer s1 H1 scope f c') body wl)
    (txt : ∀ [Bs] (cdv : Value) (A : Around) (outer : List Env) (s : Shared) (H : Hp) (E : XK) (y : D) (L : List D → Sto → DK → Prop), Room (k + 1) (A.deeper (envOfC x (defScope sd) s.heap.objs.size g cdv)) → A.guards = some [] →
      LamRule (cxOf CX0 X.prog X.w X.K X.mg X.base Ng x (defScope sd) g cdv A outer s H E).nox a y L →
      WB (cxOf CX0 X.prog X.w X.K X.mg X.base Ng x (defScope sd) g cdv A outer s H E).nox (defBody sd) (wp y L))
    (hdb : (x == ("__debug__" : Str)) = false := by decide) (hd : (a == ("__debug__" : Str)) = false := by decide) (hcd : (a == ("__classdict__" : Str)) = false := by decide)
    (hst : starEach (e :: [.Lambda params body scope lpos]) X.env = (false, eval e X.env) :: starEach [.Lambda params body scope lpos] X.env := by rfl) :
    WE X (.Call (.Name x p0) [e, .Lambda params body scope lpos] [] pos) (wWith Ng ip wp we wl) := by
  refine ⟨fun _ _ _ _ h q => he.mo _ _ _ _ (fun _ _ ⟨Q0, l, q⟩ => ⟨Q0, fun d s z => h _ _ (l d s z), q⟩) q, ?_⟩
  obtain ⟨c, Pt, e1, e2⟩ := t
  obtain ⟨m1, m2⟩ := tab_mem hw e2
  exact (we_with (k := k) F Sg hb hr hgd hg hm hNa hva he (TB _ m2) (hc.symm.trans e1) (by rw [hq]; exact m1) (by rw [hq]; exact tab_one u m1) L hNp hnd hdef hbind hbody txt hdb hd hcd hst).pe
end
theorem we_gtupE {X : Cx} {pos : Pos} {x : Str} {ds : List D} (hg : Gl X x) (h : ∃ a, X.mg x = some (.ref a) ∧ ∀ io F, Den X.K io F (.ref a) (.tup ds)) (hd : (x == ("__debug__" : Str)) = false := by decide) : WE X (.Name x pos) (wC (.tup ds)) := by
  obtain ⟨a, h1, h2⟩ := h
  exact we_gtup hg h1 h2 hd
theorem gtup_den {K : PySem.W.Frag} {a : Addr} {sl : Array (Option Value)} {its : Array Value} {n : Nat} (xs : List V) (ds : List D) (l : K.lookup a = some ⟨.type "tuple", none, .seq its n, sl⟩) (hv : Vals xs its.toList) (hd : ∀ io F, DenL K io F xs ds) (z : its.size ≤ sizeLine) (z2 : ds.length ≤ sizeLine) :
    ∀ io F, Den K io F (.ref a) (.tup ds) := fun io F => .tup (.inr ⟨_, its, n, l, rfl, rfl, z, hv, rfl⟩) (hd io F) z2
end DL
namespace DL
open PySem PySem.Spec PyProof.Rows L2
theorem fnG_none {P : Program} {w : World} {K : PySem.W.Frag} {mg : Str → Option Value} {base : Heap} {CX : CXT} {k : Nat} {f : Addr} {fd : FuncData} {ps : List Str} {S : Spec} (h : ∀ g st, ¬S.pre g st) : FnG P w K mg base CX k f fd ps (spOf K S) :=
  ⟨fun _ _ _ _ ⟨g, _, _, st, _, _, _, p, _⟩ => absurd p (h g st), fun _ _ _ _ _ _ _ _ _ _ _ _ _ _ ⟨g, _, _, st, _, _, _, p, _⟩ => absurd p (h g st)⟩
variable [Bs]
end DL
namespace PySem.AutoSeq1
end PySem.AutoSeq1
namespace L2
open PySem PySem.Spec PyProof.Rows
end L2
namespace DL
open PySem PySem.Spec PyProof.Rows L2
/-- no wish looks on from here -/
instance (priority := low) : Bs := ⟨fun _ => none, [], fun _ => none⟩
def dInts (ns : List Int) : D := .tup (ns.map .int)
structure Wk where
  len : Int
  ahead : List Int
  able : List Int
def Wk.d (w : Wk) : D := .tup [.int w.len, dInts w.ahead, dInts w.able]
structure Ws where
  work : Int
  kind : Int
  day : Int
  weight : Int
  rank : Int
def Ws.d (w : Ws) : D := .tup [.int w.work, .int w.kind, .int w.day, .int w.weight, .int w.rank]
structure Sy where
  days : Int
  hands : List (List Int)
  works : List Wk
  wishes : List Ws
def Sy.d (s : Sy) : D := .tup [.int s.days, .tup (s.hands.map dInts), .tup (s.works.map Wk.d), .tup (s.wishes.map Ws.d)]
section
variable {st : Sto} {Q : DK} {env : En} {s : Sy} {w : Wk} {u : Ws} {ns : List Int}
theorem sy_ix0 : dIx s.d (.int 0) st Q = Q (.int s.days) st := by unfold Sy.d; rw [v_ixT]; simp only [at0, v_some]
theorem sy_ix1 : dIx s.d (.int 1) st Q = Q (.tup (s.hands.map dInts)) st := by unfold Sy.d; rw [v_ixT]; simp only [at1, v_some]
theorem sy_ix2 : dIx s.d (.int 2) st Q = Q (.tup (s.works.map Wk.d)) st := by unfold Sy.d; rw [v_ixT]; simp only [at2, v_some]
theorem sy_ix3 : dIx s.d (.int 3) st Q = Q (.tup (s.wishes.map Ws.d)) st := by unfold Sy.d; rw [v_ixT]; simp only [at3, v_some]
theorem sy_sl3 : dSl false s.d none (some 3) st Q = Q (.tup [.int s.days, .tup (s.hands.map dInts), .tup (s.works.map Wk.d)]) st := rfl
theorem sy_tp {gs : DGs} {Q : En → Sto → Prop} : gTp 4 gs s.d env st Q = gs [.int s.days, .tup (s.hands.map dInts), .tup (s.works.map Wk.d), .tup (s.wishes.map Ws.d)] env st Q := by unfold Sy.d; rw [v_gTp]; simp
theorem wk_ix0 : dIx w.d (.int 0) st Q = Q (.int w.len) st := by unfold Wk.d; rw [v_ixT]; simp only [at0, v_some]
theorem wk_ix1 : dIx w.d (.int 1) st Q = Q (dInts w.ahead) st := by unfold Wk.d; rw [v_ixT]; simp only [at1, v_some]
theorem wk_ix2 : dIx w.d (.int 2) st Q = Q (dInts w.able) st := by unfold Wk.d; rw [v_ixT]; simp only [at2, v_some]
theorem wk_tp {gs : DGs} {Q : En → Sto → Prop} : gTp 3 gs w.d env st Q = gs [.int w.len, dInts w.ahead, dInts w.able] env st Q := by unfold Wk.d; rw [v_gTp]; simp
theorem ws_tp {gs : DGs} {Q : En → Sto → Prop} : gTp 5 gs u.d env st Q = gs [.int u.work, .int u.kind, .int u.day, .int u.weight, .int u.rank] env st Q := by unfold Ws.d; rw [v_gTp]; simp
theorem ns_seq {R : GK} : seqI (dInts ns) st R = R (ns.map .int) (fun _ => True) st := rfl
theorem ns_len : bLen [dInts ns] st Q = Q (.int ns.length) st := by unfold dInts; rw [v_lenT, List.length_map]
theorem ns_ix {i : Int} : dIx (dInts ns) (.int i) st Q = ∃ d, atI (ns.map D.int) i = some d ∧ Q d st := v_ixT
theorem ns_rd : rd st (dInts ns) = dInts ns := rfl
theorem sy_rd : rd st s.d = s.d := rfl
theorem wk_rd : rd st w.d = w.d := rfl
theorem ws_rd : rd st u.d = u.d := rfl
end
section
variable {st : Sto} {Q : DK} {env : En} {ds : List D} {f : Bool → Bool} {c0 c1 : Cel} {i : Int}
theorem seqI_tup {R : GK} : seqI (.tup ds) st R = R ds (fun _ => True) st := rfl
theorem seqI_lst {R : GK} : seqI (.lst ds) st R = R ds (fun _ => True) st := rfl
theorem seqI_scr {R : GK} : seqI (.scr ds) st R = R ds (fun _ => True) st := rfl
theorem seqJ_tup {R : GK} : seqJ (.tup ds) st R = R ds (fun _ => True) st := rfl
theorem seqJ_lst {R : GK} : seqJ (.lst ds) st R = R ds (fun _ => True) st := rfl
theorem okL_ints : ∀ ns : List Int, D.okL (ns.map .int) = true
  | [] => rfl
  | _ :: r => by rw [List.map_cons]; simp only [D.okL, D.ok, okL_ints r, Bool.and_self]
theorem isE_eqvL : ∀ ds : List D, D.eqvL ds [] = ds.isEmpty
  | [] => by simp only [D.eqvL]; rfl
  | _ :: _ => by simp only [D.eqvL]; rfl
theorem v_eqN {a : D} (h : rd st a = .lst ds) : dEqB f a (.lst []) st Q = (D.okL ds = true ∧ Q (.bl (f ds.isEmpty)) st) := by
  rw [v_eqO (fun x e => by subst e; cases h)]
  unfold dEqO
  simp only [h, rd_lst', D.ok, D.okL, D.dep, D.depL, D.eqv, isE_eqvL, true_and]
  apply propext
  constructor
  · exact fun ⟨h1, _, q⟩ => ⟨h1, q⟩
  · exact fun ⟨h1, q⟩ => ⟨h1, by omega, q⟩
theorem v_eqNl : dEqB f (.lst ds) (.lst []) st Q = (D.okL ds = true ∧ Q (.bl (f ds.isEmpty)) st) := v_eqN rfl
theorem v_eqNt : dEqB f (.tup ds) (.tup []) st Q = (D.okL ds = true ∧ Q (.bl (f ds.isEmpty)) st) := by
  rw [v_eqO (a := .tup ds) (fun _ h => nomatch h)]
  unfold dEqO
  simp only [rd_tup', D.ok, D.okL, D.dep, D.depL, D.eqv, isE_eqvL, true_and]
  apply propext
  constructor
  · exact fun ⟨h1, _, q⟩ => ⟨h1, q⟩
  · exact fun ⟨h1, q⟩ => ⟨h1, by omega, q⟩
theorem rd_r0 : rd (.lst ds :: st) (.ref 0) = .lst ds := rfl
theorem rd_r1 : rd (c0 :: .lst ds :: st) (.ref 1) = .lst ds := rfl
theorem rd_r2 : rd (c0 :: c1 :: .lst ds :: st) (.ref 2) = .lst ds := rfl
theorem v_ixR {a : D} (h : rd st a = .lst ds) : dIx a (.int i) st Q = ∃ d, atI ds i = some d ∧ Q d st := propext ⟨fun ⟨_, e, q⟩ => by cases e; rw [h] at q; exact q, fun q => ⟨_, rfl, by rw [h]; exact q⟩⟩
theorem v_lenR {a : D} (h : rd st a = .lst ds) : bLen [a] st Q = Q (.int ds.length) st := v_len (by rw [h]; rfl)
theorem v_ix0 : dIx (.ref 0) (.int i) (.lst ds :: st) Q = ∃ d, atI ds i = some d ∧ Q d (.lst ds :: st) := v_ixR rfl
theorem v_ix1 : dIx (.ref 1) (.int i) (c0 :: .lst ds :: st) Q = ∃ d, atI ds i = some d ∧ Q d (c0 :: .lst ds :: st) := v_ixR rfl
theorem v_ix2 : dIx (.ref 2) (.int i) (c0 :: c1 :: .lst ds :: st) Q = ∃ d, atI ds i = some d ∧ Q d (c0 :: c1 :: .lst ds :: st) := v_ixR rfl
theorem v_eq0 : dEqB f (.ref 0) (.lst []) (.lst ds :: st) Q = (D.okL ds = true ∧ Q (.bl (f ds.isEmpty)) (.lst ds :: st)) := v_eqN rfl
theorem v_len0 : bLen [.ref 0] (.lst ds :: st) Q = Q (.int ds.length) (.lst ds :: st) := v_lenR rfl
theorem v_len1 : bLen [.ref 1] (c0 :: .lst ds :: st) Q = Q (.int ds.length) (c0 :: .lst ds :: st) := v_lenR rfl
theorem v_app0 {d : D} : mAppend (.ref 0) [d] (.lst ds :: st) Q = (ds.length < sizeLine ∧ Q .non (.lst (ds ++ [d]) :: st)) := v_app rfl
theorem v_app1 {d : D} : mAppend (.ref 1) [d] (c0 :: .lst ds :: st) Q = (ds.length < sizeLine ∧ Q .non (c0 :: .lst (ds ++ [d]) :: st)) := v_app rfl
theorem v_ex0 : (∃ x, D.lst ds = .lst x) = True := by simp
end
/-- increasing numbers below n -/
def Row (n : Int) (r : List Int) : Prop := r.Pairwise (· < ·) ∧ ∀ x ∈ r, 0 ≤ x ∧ x < n
structure Wk.Ok (w : Wk) (i hands length : Int) : Prop where
  len : 1 ≤ w.len ∧ w.len ≤ length
  ahead : Row i w.ahead
  able : Row hands w.able
  any : w.able ≠ []
structure Ws.Ok (w : Ws) (works days : Int) : Prop where
  work : 0 ≤ w.work ∧ w.work < works
  kind : 0 ≤ w.kind ∧ w.kind ≤ 1
  day : 0 ≤ w.day ∧ w.day ≤ days
  weight : 1 ≤ w.weight ∧ w.weight ≤ 100
  rank : 0 ≤ w.rank ∧ w.rank ≤ 3
structure Sy.Ok (s : Sy) (days hands works length wishes : Int) : Prop where
  days : 1 ≤ s.days ∧ s.days ≤ days
  hands : 1 ≤ s.hands.length ∧ s.hands.length ≤ hands
  rows : ∀ r ∈ s.hands, Row s.days r
  works : s.works.length ≤ works
  work : ∀ (i : Nat) (w : Wk), s.works[i]? = some w → w.Ok i s.hands.length length
  wishes : s.wishes.length ≤ wishes
  wish : ∀ w ∈ s.wishes, w.Ok s.works.length s.days
theorem Row.len {n : Int} : ∀ {r : List Int}, Row n r → (r.length : Int) ≤ max n 0 := by
  have key : ∀ (r : List Int) (lo : Int), r.Pairwise (· < ·) → (∀ x ∈ r, lo ≤ x ∧ x < n) → (r.length : Int) ≤ max (n - lo) 0 := fun r => by
    induction r with
    | nil => intro lo _ _; simp only [List.length_nil]; omega
    | cons a t ih =>
      intro lo hp hb
      rw [List.pairwise_cons] at hp
      have ha := hb a List.mem_cons_self
      have := ih (a + 1) hp.2 fun x hx => ⟨by have := hp.1 x hx; omega, (hb x (List.mem_cons_of_mem _ hx)).2⟩
      rw [List.length_cons]
      omega
  intro r h
  have := key r 0 h.1 h.2
  omega
structure FitN (k n : Nat) (d : D) : Prop where
  ok : d.ok = true
  sml : d.sml = true
  blk : d.blk ≤ n
  dep : d.dep ≤ k
theorem FitN.mono {k n k' n' : Nat} {d : D} (h : FitN k n d) (hk : k ≤ k') (hn : n ≤ n') : FitN k' n' d := ⟨h.ok, h.sml, Nat.le_trans h.blk hn, Nat.le_trans h.dep hk⟩
def Dk (B : Int) (rest st : Sto) : Prop := ∃ (ds cs : List Int) (t : Int), st = .lst (ds.map .int) :: .lst (cs.map .int) :: .lst [.ref 0, .ref 1, .int t] :: rest ∧
  (∀ x ∈ ds, 0 ≤ x ∧ x < 2147483629) ∧ (∀ x ∈ cs, 0 ≤ x ∧ x < 2147483629) ∧ cs ≠ [] ∧ ds.length ≤ 2000 ∧ cs.length ≤ 2000 ∧ 0 ≤ t ∧ t ≤ B
theorem Dk.mono {B B' : Int} {rest st : Sto} (h : Dk B rest st) (hb : B ≤ B') : Dk B' rest st := by
  obtain ⟨ds, cs, t, e, h1, h2, h3, h4, h5, h6, h7⟩ := h
  exact ⟨ds, cs, t, e, h1, h2, h3, h4, h5, h6, by omega⟩
end DL
namespace DL.M
open PySem PySem.Spec PyProof.Rows L2
local macro_rules
  | `(tactic| simp? only [$as,*] $[$loc]?) => `(tactic| simp only [$as,*, v_eqE, wComp, wipeE, wFor, wIsi, iEnum, iZip, zipI_tup, zipI_lst, zipI_lt, zipI_tl, seqJ_tup, seqJ_lst, v_app0, v_app1, v_eqNl, v_eqNt, rd_r0, rd_r1, rd_r2, v_ix0, v_ix1, v_ix2, v_eq0, v_len0, v_len1, v_ex0, v_mulS, wRevA, v_revT, v_revL, wRgL1, wRgL2, wRgT1, wRgT2, v_rgx1, v_rgx2, sy_ix0, sy_ix1, sy_ix2, sy_ix3, sy_sl3, sy_tp, wk_ix0, wk_ix1, wk_ix2, wk_tp, ws_tp, ns_seq, ns_len, ns_ix, ns_rd, sy_rd, wk_rd, ws_rd, wSeq, wAsg, wRet, wIf, wDrop, wOp, wCons, wNil, wTup, wLst, wCB, wCall, wTest, wAnd, wOr, wNot, wNotV, wAndV, wOrV, wChain, wNeg, wC, wM, wSl, oNo, oPart, iSeq, seqI_tup, seqI_lst, seqI_scr, v_rg1, v_rg2, gNm, v_gTp, v_gCn, v_gNl, v_var0, v_varS, v_sub, v_mod, v_fdiv, v_pow, v_iadd, v_add, v_addT, v_addL, v_mul, v_lt, v_le, v_gt, v_ge, v_eqi, v_ixT, v_ixL, v_ixS, v_lenT, v_lenL, v_lenS, v_abs, v_min2, v_max2, v_intI, v_intB, v_tupl, v_tupT, v_bl, v_in, v_some, v_newT, v_newF, startE, rd_int', rd_bl', rd_str', rd_tup', rd_lst', rd_scr', rd_non', at0, at1, at2, at3, at4, List.map_cons, List.map_nil, List.length_cons, List.length_nil, List.length_map, List.replicate_succ, List.replicate_zero, Nat.reduceSub, Nat.reduceAdd, List.cons_append, List.nil_append, List.set_cons_zero, List.set_cons_succ, List.getElem?_cons_zero, List.getElem?_cons_succ, Bool.not_true, Bool.not_false, if_true, if_false, Bool.false_eq_true, reduceCtorEq, true_and, and_true, bodyEnds, Nat.zero_add, decide_eq_true_eq] $[$loc]?)
  | `(tactic| simp?! only [$as,*] $[$loc]?) => `(tactic| simp only [$as,*, v_eqE, wComp, wipeE, wFor, wIsi, iEnum, iZip, zipI_tup, zipI_lst, zipI_lt, zipI_tl, seqJ_tup, seqJ_lst, v_app0, v_app1, v_eqNl, v_eqNt, rd_r0, rd_r1, rd_r2, v_ix0, v_ix1, v_ix2, v_eq0, v_len0, v_len1, v_ex0, v_mulS, wRevA, v_revT, v_revL, wRgL1, wRgL2, wRgT1, wRgT2, v_rgx1, v_rgx2, sy_ix0, sy_ix1, sy_ix2, sy_ix3, sy_sl3, sy_tp, wk_ix0, wk_ix1, wk_ix2, wk_tp, ws_tp, ns_seq, ns_len, ns_ix, ns_rd, sy_rd, wk_rd, ws_rd, wAsg, wRet, wIf, wDrop, wOp, wCons, wNil, wTup, wLst, wCB, wCall, wTest, wAnd, wOr, wNot, wNotV, wAndV, wOrV, wChain, wNeg, wC, wM, wSl, oNo, oPart, iSeq, seqI_tup, seqI_lst, seqI_scr, v_rg1, v_rg2, gNm, v_gTp, v_gCn, v_gNl, v_var0, v_varS, v_sub, v_mod, v_fdiv, v_pow, v_iadd, v_add, v_addT, v_addL, v_mul, v_lt, v_le, v_gt, v_ge, v_eqi, v_ixT, v_ixL, v_ixS, v_lenT, v_lenL, v_lenS, v_abs, v_min2, v_max2, v_intI, v_intB, v_tupl, v_tupT, v_bl, v_in, v_some, v_newT, v_newF, startE, rd_int', rd_bl', rd_str', rd_tup', rd_lst', rd_scr', rd_non', at0, at1, at2, at3, at4, List.map_cons, List.map_nil, List.length_cons, List.length_nil, List.length_map, List.replicate_succ, List.replicate_zero, Nat.reduceSub, Nat.reduceAdd, List.cons_append, List.nil_append, List.set_cons_zero, List.set_cons_succ, List.getElem?_cons_zero, List.getElem?_cons_succ, Bool.not_true, Bool.not_false, if_true, if_false, Bool.false_eq_true, reduceCtorEq, true_and, and_true, bodyEnds, Nat.zero_add, decide_eq_true_eq] $[$loc]?)
def w_f_law_deck_1 : DT := wAnd (wTest (wOp dGe (wVar 3) (wOp dPow (wC (.int 10)) (wC (.int 18))))) (wTest (wOp dLt (wCB bLen (wCons (wVar 1) (wNil))) (wC (.int 900))))
def w_f_law_deck_2 : DS := wSeq (wDrop (wM mAppend (wVar 1) (wCons (wOp dMod (wVar 3) (wC (.int 2147483629))) (wNil)))) (wAsg (wOp dFdiv (wVar 3) (wC (.int 2147483629))) (gNm 3))
def w_f_law_deck_3 : DS := wSeq (wAsg (wCB bAbs (wCons (wVar 3) (wNil))) (gNm 3)) (wSeq (wDrop (wM mAppend (wVar 2) (wCons (wOp dMod (wVar 3) (wC (.int 2147483629))) (wNil)))) (wWhile w_f_law_deck_1 w_f_law_deck_2))
def w_f_law_deck : DS := wSeq (wAsg (wLst true (wNil)) (gNm 1)) (wSeq (wAsg (wLst true (wCons (wCB bLen (wCons (wVar 0) (wNil))) (wNil))) (gNm 2)) (wSeq (wFor (iSeq (wSl false (wVar 0) oNo (oPart (wC (.int 60))))) (gNm 3) w_f_law_deck_3) (wRet (wLst true (wCons (wVar 1) (wCons (wVar 2) (wCons (wC (.int 0)) (wNil))))))))
def S_f_law_deck : DL.Spec := ⟨1, List Int, fun ns => [.scr (ns.map .int)], fun ns st => ns.length ≤ 63 ∧ st = [], fun _ _ d st' => d = .ref 2 ∧ Dk 0 [] st'⟩
def goodM (ns : List Int) : Prop := ∀ x ∈ ns, 0 ≤ x ∧ x < 2147483629
theorem goodM.snoc {ns : List Int} {x : Int} (h : goodM ns) (h0 : 0 ≤ x) (h1 : x < 2147483629) : goodM (ns ++ [x]) := fun y hy => by
  rcases List.mem_append.mp hy with z | z
  · exact h y z
  · simp at z; subst z; exact ⟨h0, h1⟩
theorem cut60 (ns : List Int) : cutL (ns.map D.int) none (some 60) = (ns.take 60).map D.int := by
  have e1 : HT.sIx (ns.map D.int).length 0 none = 0 := rfl
  have e2 : HT.sIx (ns.map D.int).length (ns.map D.int).length (some 60) = min 60 ns.length := by rw [List.length_map]; exact HT.sIx_nat ns.length ns.length 60
  unfold cutL
  rw [e1, e2, List.drop_zero, Nat.sub_zero, List.map_take]
  rcases Nat.le_total 60 ns.length with h | h
  · rw [Nat.min_eq_left h]
  · rw [Nat.min_eq_right h, List.take_of_length_le (by rw [List.length_map]; omega), List.take_of_length_le (by rw [List.length_map]; omega)]
theorem vc_f_law_deck : ∀ g sto, (S_f_law_deck.args g).length = S_f_law_deck.n → S_f_law_deck.pre g sto → w_f_law_deck (bodyEnds (S_f_law_deck.post g sto)) (startE ["_law_script", "_law_digits", "_law_cells", "_law_cell"] (S_f_law_deck.args g)) sto := by
  rintro (ns : List Int) sto _ ⟨hl, rfl⟩
  have z3 : 3 ≤ sizeLine := by decide
  simp? only [w_f_law_deck, S_f_law_deck, wFor, dSl]
  refine ⟨Nat.zero_le _, by omega, ?_⟩
  have ec : cutL (ns.map D.int) none (some 60) = (ns.take 60).map D.int := cut60 ns
  rw [ec]
  refine forL_inv (fun i e s => ∃ x3 ds cs, e = [some (.scr (ns.map .int)), some (.ref 0), some (.ref 1), x3] ∧ s = [.lst (ds.map .int), .lst (cs.map .int)] ∧ goodM ds ∧ goodM cs ∧ ds.length ≤ 900 ∧ cs.length = i + 1) ?_ ?_ _ _ ?_
  · rintro i env st d ⟨x3, ds, cs, rfl, rfl, gd, gc, ld, lc⟩ hd R hR
    refine ⟨trivial, ?_⟩
    obtain ⟨hi, hd⟩ := List.getElem?_eq_some_iff.mp hd
    rw [List.getElem_map] at hd
    subst hd
    generalize (ns.take 60)[i]'_ = c0
    simp only [w_f_law_deck_3, v_eqE, wComp, wipeE, wFor, wIsi, iEnum, iZip, zipI_tup, zipI_lst, zipI_lt, zipI_tl, seqJ_tup, seqJ_lst, v_app0, v_app1, v_eqNl, v_eqNt, rd_r0, rd_r1, rd_r2, v_ix0, v_ix1, v_ix2, v_eq0, v_len0, v_len1, v_ex0, v_mulS, wRevA, v_revT, v_revL, wRgL1, wRgL2, wRgT1, wRgT2, v_rgx1, v_rgx2, sy_ix0, sy_ix1, sy_ix2, sy_ix3, sy_sl3, sy_tp, wk_ix0, wk_ix1, wk_ix2, wk_tp, ws_tp, ns_seq, ns_len, ns_ix, ns_rd, sy_rd, wk_rd, ws_rd, wSeq, wAsg, wRet, wIf, wDrop, wOp, wCons, wNil, wTup, wLst, wCB, wCall, wTest, wAnd, wOr, wNot, wNotV, wAndV, wOrV, wChain, wNeg, wC, wM, wSl, oNo, oPart, iSeq, seqI_tup, seqI_lst, seqI_scr, v_rg1, v_rg2, gNm, v_gTp, v_gCn, v_gNl, v_var0, v_varS, v_sub, v_mod, v_fdiv, v_pow, v_iadd, v_add, v_addT, v_addL, v_mul, v_lt, v_le, v_gt, v_ge, v_eqi, v_ixT, v_ixL, v_ixS, v_lenT, v_lenL, v_lenS, v_abs, v_min2, v_max2, v_intI, v_intB, v_tupl, v_tupT, v_bl, v_in, v_some, v_newT, v_newF, startE, rd_int', rd_bl', rd_str', rd_tup', rd_lst', rd_scr', rd_non', at0, at1, at2, at3, at4, List.map_cons, List.map_nil, List.length_cons, List.length_nil, List.length_map, List.replicate_succ, List.replicate_zero, Nat.reduceSub, Nat.reduceAdd, List.cons_append, List.nil_append, List.set_cons_zero, List.set_cons_succ, List.getElem?_cons_zero, List.getElem?_cons_succ, Bool.not_true, Bool.not_false, if_true, if_false, Bool.false_eq_true, reduceCtorEq, true_and, and_true, bodyEnds, Nat.zero_add, decide_eq_true_eq, wM, rd_r1, v_ex0, v_abs, v_app1, List.length_map]
    have hi' := hi
    rw [List.length_map, List.length_take] at hi'
    refine ⟨by decide, by rw [lc, sizeLine_eq]; omega, ?_⟩
    have hc : 0 ≤ (if c0 < 0 then -c0 else c0) := by split <;> omega
    generalize (if c0 < 0 then -c0 else c0) = c at hc
    obtain ⟨k, hk⟩ : ∃ k, k = c % 2147483629 := ⟨_, rfl⟩
    rw [← hk]
    have hm : 0 ≤ k ∧ k < 2147483629 := by omega
    refine ⟨fun m e s => ∃ c ds, m = Int.toNat c ∧ 0 ≤ c ∧ e = [some (.scr (ns.map .int)), some (.ref 0), some (.ref 1), some (.int c)] ∧ s = [.lst (ds.map .int), .lst ((cs ++ [k]).map .int)] ∧ goodM ds ∧ ds.length ≤ 900, ?_, ?_⟩
    · exact ⟨_, c, ds, rfl, hc, rfl, by simp, gd, ld⟩
    · rintro m e s ⟨c, ds, rfl, hc, rfl, rfl, gd, ld⟩
      simp? only [w_f_law_deck_1]
      refine ⟨by decide, ?_⟩
      by_cases hg : (10 : Int) ^ (18 : Int).toNat ≤ c
      · by_cases hl : (ds.length : Int) < 900
        · simp only [hg, hl, decide_true, v_eqE, wComp, wipeE, wFor, wIsi, iEnum, iZip, zipI_tup, zipI_lst, zipI_lt, zipI_tl, seqJ_tup, seqJ_lst, v_app0, v_app1, v_eqNl, v_eqNt, rd_r0, rd_r1, rd_r2, v_ix0, v_ix1, v_ix2, v_eq0, v_len0, v_len1, v_ex0, v_mulS, wRevA, v_revT, v_revL, wRgL1, wRgL2, wRgT1, wRgT2, v_rgx1, v_rgx2, sy_ix0, sy_ix1, sy_ix2, sy_ix3, sy_sl3, sy_tp, wk_ix0, wk_ix1, wk_ix2, wk_tp, ws_tp, ns_seq, ns_len, ns_ix, ns_rd, sy_rd, wk_rd, ws_rd, wSeq, wAsg, wRet, wIf, wDrop, wOp, wCons, wNil, wTup, wLst, wCB, wCall, wTest, wAnd, wOr, wNot, wNotV, wAndV, wOrV, wChain, wNeg, wC, wM, wSl, oNo, oPart, iSeq, seqI_tup, seqI_lst, seqI_scr, v_rg1, v_rg2, gNm, v_gTp, v_gCn, v_gNl, v_var0, v_varS, v_sub, v_mod, v_fdiv, v_pow, v_iadd, v_add, v_addT, v_addL, v_mul, v_lt, v_le, v_gt, v_ge, v_eqi, v_ixT, v_ixL, v_ixS, v_lenT, v_lenL, v_lenS, v_abs, v_min2, v_max2, v_intI, v_intB, v_tupl, v_tupT, v_bl, v_in, v_some, v_newT, v_newF, startE, rd_int', rd_bl', rd_str', rd_tup', rd_lst', rd_scr', rd_non', at0, at1, at2, at3, at4, List.map_cons, List.map_nil, List.length_cons, List.length_nil, List.length_map, List.replicate_succ, List.replicate_zero, Nat.reduceSub, Nat.reduceAdd, List.cons_append, List.nil_append, List.set_cons_zero, List.set_cons_succ, List.getElem?_cons_zero, List.getElem?_cons_succ, Bool.not_true, Bool.not_false, if_true, if_false, Bool.false_eq_true, reduceCtorEq, true_and, and_true, bodyEnds, Nat.zero_add, decide_eq_true_eq, w_f_law_deck_2, wM]
          refine ⟨by decide, by rw [sizeLine_eq]; omega, ⟨by decide, by decide⟩, _, ?_, c / 2147483629, ds ++ [c % 2147483629], rfl, by omega, rfl, by simp, gd.snoc (by omega) (by omega), by simp; omega⟩
          have : (10 : Int) ^ (18 : Int).toNat = 1000000000000000000 := by decide
          omega
        · simp? only [hg, hl, decide_true, decide_false]
          exact hR _ _ ⟨_, ds, cs ++ [k], rfl, rfl, gd, gc.snoc hm.1 hm.2, ld, by simp; omega⟩
      · simp? only [hg, decide_false]
        exact hR _ _ ⟨_, ds, cs ++ [k], rfl, rfl, gd, gc.snoc hm.1 hm.2, ld, by simp; omega⟩
  · rintro env st ⟨x3, ds, cs, rfl, rfl, gd, gc, ld, lc⟩
    refine ⟨trivial, ?_⟩
    simp? only [true_and]
    refine ⟨z3, ds, cs, 0, rfl, gd, gc, ?_, by omega, ?_, by decide, by decide⟩
    · intro e; rw [e] at lc; simp at lc
    · rw [List.length_map, List.length_take] at lc; omega
  · refine ⟨none, [], [((ns.length : Nat) : Int)], rfl, rfl, fun _ h => (nomatch h), ?_, by simp, rfl⟩
    intro x hx
    rw [List.mem_singleton] at hx
    rw [hx]
    omega
theorem v_pop0 {rest : Sto} {Q : DK} {x : D} {ds : List D} : mPopAt (.ref 0) [.int 0] (.lst (x :: ds) :: rest) Q = Q x (.lst ds :: rest) := by
  have e0 : ixN (x :: ds).length 0 = some 0 := by simp [ixN]
  apply propext
  constructor
  · rintro ⟨n, es, i, k, y, e1, e2, e3, _, _, e4, e5, q⟩
    cases e1
    cases e2
    cases e3
    rw [e0] at e4
    cases e4
    cases e5
    exact q
  · exact fun q => ⟨0, x :: ds, 0, 0, x, rfl, rfl, rfl, by decide, by decide, e0, rfl, q⟩
theorem v_gset2 {rest : Sto} {c0 c1 : Cel} {x y z d : D} {env : En} {Q : En → Sto → Prop} : gSet (wVar 0) (wC (.int 2)) d (some (.ref 2) :: env) (c0 :: c1 :: .lst [x, y, z] :: rest) Q = Q (some (.ref 2) :: env) (c0 :: c1 :: .lst [x, y, d] :: rest) := by
  apply propext
  constructor
  · rintro ⟨o, e0, n, es, i, k, e1, e2, e3, e4, q⟩
    cases e0
    cases e1
    cases e2
    cases e3
    cases e4
    exact q
  · exact fun q => ⟨_, rfl, 2, _, 2, 2, rfl, rfl, rfl, rfl, q⟩
def w_f_law_next : DS := wSeq (wIf (wTest (wOp dNe (wOp dIx (wVar 0) (wC (.int 0))) (wLst false (wNil)))) (wRet (wM mPopAt (wOp dIx (wVar 0) (wC (.int 0))) (wCons (wC (.int 0)) (wNil)))) ((fun D env st => D.nx env st))) (wSeq (wAsg (wOp dIx (wVar 0) (wC (.int 2))) (gNm 1)) (wSeq (wAsg (wOp dAdd (wVar 1) (wC (.int 1))) (gSet (wVar 0) (wC (.int 2)))) (wSeq (wAsg (wTup (wCons (wC (.int 48271)) (wCons (wC (.int 69621)) (wCons (wC (.int 16807)) (wCons (wC (.int 39373)) (wCons (wC (.int 30323)) (wCons (wC (.int 51749)) (wCons (wC (.int 44417)) (wCons (wC (.int 27449)) (wCons (wC (.int 63073)) (wCons (wC (.int 55001)) (wCons (wC (.int 33791)) (wCons (wC (.int 40009)) (wNil)))))))))))))) (gNm 2)) (wSeq (wAsg (wOp dAdd (wOp dIx (wOp dIx (wVar 0) (wC (.int 1))) (wOp dMod (wOp dAdd (wVar 1) (wC (.int 1))) (wCB bLen (wCons (wOp dIx (wVar 0) (wC (.int 1))) (wNil))))) (wOp dMul (wC (.int 7)) (wVar 1))) (gNm 3)) (wSeq (wAsg (wOp dMod (wOp dPow (wOp dAdd (wVar 3) (wOp dMul (wOp dIx (wVar 2) (wOp dMod (wVar 1) (wC (.int 12)))) (wOp dAdd (wVar 1) (wC (.int 1))))) (wC (.int 5))) (wC (.int 2147483647))) (gNm 4)) (wRet (wOp dMod (wOp dAdd (wVar 4) (wOp dMul (wOp dIx (wVar 2) (wOp dMod (wOp dAdd (wVar 1) (wC (.int 5))) (wC (.int 12)))) (wVar 3))) (wC (.int 2147483629)))))))))
def S_f_law_next : DL.Spec := ⟨1, Sto × Int, fun _ => [.ref 2], fun (r, B) st => Dk B r st ∧ B < 2 ^ 40, fun (r, B) _ d st' => ∃ x, d = .int x ∧ 0 ≤ x ∧ x < 2147483629 ∧ Dk (B + 1) r st'⟩
def primes : List Int := [48271, 69621, 16807, 39373, 30323, 51749, 44417, 27449, 63073, 55001, 33791, 40009]
theorem prime_at {i : Int} (h0 : 0 ≤ i) (h1 : i < 12) : ∃ p, atI (primes.map D.int) i = some (.int p) ∧ 0 ≤ p ∧ p < 100000 := by
  have key : ∀ k : Fin 12, ∃ p, primes[k.val]? = some p ∧ 0 ≤ p ∧ p < 100000 := by
    intro k
    have hk : k.val < primes.length := k.isLt
    have all : ∀ x ∈ primes, 0 ≤ x ∧ x < 100000 := by decide
    exact ⟨_, List.getElem?_eq_getElem hk, all _ (List.getElem_mem hk)⟩
  obtain ⟨p, h2, h3⟩ := key ⟨i.toNat, by omega⟩
  exact ⟨p, atI_map (atI_of h0 h2), h3⟩
theorem vc_f_law_next : ∀ g sto, (S_f_law_next.args g).length = S_f_law_next.n → S_f_law_next.pre g sto → w_f_law_next (bodyEnds (S_f_law_next.post g sto)) (startE ["_law_deck_here", "_law_at", "_law_primes", "_law_cell", "_law_mixed"] (S_f_law_next.args g)) sto := by
  rintro ⟨rest, B⟩ sto _ ⟨⟨ds, cs, t, rfl, gd, gc, ne, l1, l2, t0, t1⟩, hB⟩
  have z12 : 12 ≤ sizeLine := by decide
  simp? only [w_f_law_next, S_f_law_next, v_gset2]
  refine ⟨Nat.zero_le _, okL_ints _, ?_⟩
  cases ds with
  | cons x ds =>
    simp only [v_eqE, wComp, wipeE, wFor, wIsi, iEnum, iZip, zipI_tup, zipI_lst, zipI_lt, zipI_tl, seqJ_tup, seqJ_lst, v_app0, v_app1, v_eqNl, v_eqNt, rd_r0, rd_r1, rd_r2, v_ix0, v_ix1, v_ix2, v_eq0, v_len0, v_len1, v_ex0, v_mulS, wRevA, v_revT, v_revL, wRgL1, wRgL2, wRgT1, wRgT2, v_rgx1, v_rgx2, sy_ix0, sy_ix1, sy_ix2, sy_ix3, sy_sl3, sy_tp, wk_ix0, wk_ix1, wk_ix2, wk_tp, ws_tp, ns_seq, ns_len, ns_ix, ns_rd, sy_rd, wk_rd, ws_rd, wSeq, wAsg, wRet, wIf, wDrop, wOp, wCons, wNil, wTup, wLst, wCB, wCall, wTest, wAnd, wOr, wNot, wNotV, wAndV, wOrV, wChain, wNeg, wC, wM, wSl, oNo, oPart, iSeq, seqI_tup, seqI_lst, seqI_scr, v_rg1, v_rg2, gNm, v_gTp, v_gCn, v_gNl, v_var0, v_varS, v_sub, v_mod, v_fdiv, v_pow, v_iadd, v_add, v_addT, v_addL, v_mul, v_lt, v_le, v_gt, v_ge, v_eqi, v_ixT, v_ixL, v_ixS, v_lenT, v_lenL, v_lenS, v_abs, v_min2, v_max2, v_intI, v_intB, v_tupl, v_tupT, v_bl, v_in, v_some, v_newT, v_newF, startE, rd_int', rd_bl', rd_str', rd_tup', rd_lst', rd_scr', rd_non', at0, at1, at2, at3, at4, List.map_cons, List.map_nil, List.length_cons, List.length_nil, List.length_map, List.replicate_succ, List.replicate_zero, Nat.reduceSub, Nat.reduceAdd, List.cons_append, List.nil_append, List.set_cons_zero, List.set_cons_succ, List.getElem?_cons_zero, List.getElem?_cons_succ, Bool.not_true, Bool.not_false, if_true, if_false, Bool.false_eq_true, reduceCtorEq, true_and, and_true, bodyEnds, Nat.zero_add, decide_eq_true_eq, List.isEmpty, v_pop0]
    have := gd x List.mem_cons_self
    exact ⟨this.1, this.2, ds, cs, t, rfl, fun y hy => gd y (List.mem_cons_of_mem _ hy), gc, ne, by simp at l1; omega, l2, t0, by omega⟩
  | nil =>
    simp only [v_eqE, wComp, wipeE, wFor, wIsi, iEnum, iZip, zipI_tup, zipI_lst, zipI_lt, zipI_tl, seqJ_tup, seqJ_lst, v_app0, v_app1, v_eqNl, v_eqNt, rd_r0, rd_r1, rd_r2, v_ix0, v_ix1, v_ix2, v_eq0, v_len0, v_len1, v_ex0, v_mulS, wRevA, v_revT, v_revL, wRgL1, wRgL2, wRgT1, wRgT2, v_rgx1, v_rgx2, sy_ix0, sy_ix1, sy_ix2, sy_ix3, sy_sl3, sy_tp, wk_ix0, wk_ix1, wk_ix2, wk_tp, ws_tp, ns_seq, ns_len, ns_ix, ns_rd, sy_rd, wk_rd, ws_rd, wSeq, wAsg, wRet, wIf, wDrop, wOp, wCons, wNil, wTup, wLst, wCB, wCall, wTest, wAnd, wOr, wNot, wNotV, wAndV, wOrV, wChain, wNeg, wC, wM, wSl, oNo, oPart, iSeq, seqI_tup, seqI_lst, seqI_scr, v_rg1, v_rg2, gNm, v_gTp, v_gCn, v_gNl, v_var0, v_varS, v_sub, v_mod, v_fdiv, v_pow, v_iadd, v_add, v_addT, v_addL, v_mul, v_lt, v_le, v_gt, v_ge, v_eqi, v_ixT, v_ixL, v_ixS, v_lenT, v_lenL, v_lenS, v_abs, v_min2, v_max2, v_intI, v_intB, v_tupl, v_tupT, v_bl, v_in, v_some, v_newT, v_newF, startE, rd_int', rd_bl', rd_str', rd_tup', rd_lst', rd_scr', rd_non', at0, at1, at2, at3, at4, List.map_cons, List.map_nil, List.length_cons, List.length_nil, List.length_map, List.replicate_succ, List.replicate_zero, Nat.reduceSub, Nat.reduceAdd, List.cons_append, List.nil_append, List.set_cons_zero, List.set_cons_succ, List.getElem?_cons_zero, List.getElem?_cons_succ, Bool.not_true, Bool.not_false, if_true, if_false, Bool.false_eq_true, reduceCtorEq, true_and, and_true, bodyEnds, Nat.zero_add, decide_eq_true_eq, List.isEmpty, v_gset2]
    have hl : 0 < cs.length := List.length_pos_iff.mpr ne
    refine ⟨z12, by omega, ?_⟩
    obtain ⟨c, hc⟩ : ∃ c, cs[((t + 1) % (cs.length : Int)).toNat]? = some c := ⟨_, List.getElem?_eq_getElem (by
      have := Int.emod_lt_of_pos (t + 1) (show (0 : Int) < cs.length by omega)
      have := Int.emod_nonneg (t + 1) (show (cs.length : Int) ≠ 0 by omega)
      omega)⟩
    have hc1 := gc c (List.mem_of_getElem? hc)
    obtain ⟨p1, hp1, q1⟩ := prime_at (i := t % 12) (by omega) (by omega)
    obtain ⟨p2, hp2, q2⟩ := prime_at (i := (t + 5) % 12) (by omega) (by omega)
    simp only [primes, List.map_cons, List.map_nil] at hp1 hp2
    refine ⟨_, atI_map (atI_of (Int.emod_nonneg _ (by omega)) hc), ?_⟩
    simp? only [hp1, hp2]
    have m1 : p1 * (t + 1) ≤ 100000 * (2 ^ 40 + 1) := Int.mul_le_mul (by omega) (by omega) (by omega) (by decide)
    have m2 : 0 ≤ p1 * (t + 1) := Int.mul_nonneg q1.1 (by omega)
    refine ⟨.inl ⟨by decide, by decide⟩, by decide, .inl ⟨by omega, by omega⟩, ⟨by decide, by decide, ?_⟩, by decide, by decide, .inl ⟨by omega, by omega⟩, by decide, Int.emod_nonneg _ (by decide), Int.emod_lt_of_pos _ (by decide), [], cs, t + 1, rfl, gd, gc, ne, l1, l2, by omega, by omega⟩
    generalize p1 * (t + 1) = m at m1 m2
    omega
/-- the next number is asked -/
theorem next_use {B : Int} {rest st : Sto} {Q : DK} (h : Dk B rest st) (hb : B < 2 ^ 40) (q : ∀ x st', 0 ≤ x → x < 2147483629 → Dk (B + 1) rest st' → Q (.int x) st') :
    ∃ g, [D.ref 2] = S_f_law_next.args g ∧ (S_f_law_next.args g).length = S_f_law_next.n ∧ S_f_law_next.pre g st ∧ ∀ d s2, S_f_law_next.post g st d s2 → Q d s2 :=
  ⟨(rest, B), rfl, rfl, ⟨h, hb⟩, fun d s2 ⟨x, e, h0, h1, h2⟩ => by subst e; exact q x s2 h0 h1 h2⟩
theorem pick {α : Type} {xs : List α} {i : Int} (h0 : 0 ≤ i) (h1 : i < xs.length) : ∃ v, atI xs i = some v ∧ v ∈ xs := by
  have hl : i.toNat < xs.length := by omega
  exact ⟨_, atI_of h0 (List.getElem?_eq_getElem hl), List.getElem_mem hl⟩
def freeF (row : List Int) (a b : Int) : Bool := !(row.map fun day => if a ≤ day then decide (day < b) else false).any id
/-- the ways -/
def rowOf (s : Sy) (h : Int) : List Int := (atI s.hands h).getD []
def encP (p : Int × Int) : D := .tup [.int p.1, .int p.2]
def waysF (s : Sy) (w : Wk) : List (Int × Int) := (rangeI 0 (s.days - w.len + 1).toNat).foldl (fun acc b => w.able.foldl (fun acc h => if freeF (rowOf s h) b (b + w.len) = true then acc ++ [(b, h)] else acc) acc) []
def preWays (s : Sy) (i : Int) (w : Wk) : Prop := atI s.works i = some w ∧ (∀ h ∈ w.able, ∃ row, atI s.hands h = some row ∧ row.length ≤ 1000) ∧ 0 ≤ s.days ∧ s.days ≤ 1000 ∧ 0 ≤ w.len ∧ w.len ≤ 1000 ∧ w.able.length ≤ 1000
def S_f_law_ways : DL.Spec := ⟨2, Sy × Int × Wk, fun (s, i, _) => [s.d, .int i], fun (s, i, w) _ => preWays s i w, fun (s, _, w) st d st' => st' = st ∧ d = .tup ((waysF s w).map encP)⟩
theorem blw_encP (n : Nat) : ∀ ps : List (Int × Int), D.blwL n (ps.map encP) = true
  | [] => rfl
  | p :: r => by rw [List.map_cons]; simp only [D.blwL, encP, D.blw, Bool.true_and]; exact blw_encP n r
def w_f_law_ways_1 : DT := wTest (wChain dLe dLt (wVar 9) (wVar 11) (wOp dAdd (wVar 9) (wVar 5)))
def w_f_law_ways_2 : DS := wIf (wTest (wOp dEq (wComp false (iSeq (wOp dIx (wVar 3) (wVar 10))) (.nm 11) w_f_law_ways_1 (wVar 11) [11]) (wLst false (wNil)))) (wDrop (wM mAppend (wVar 8) (wCons (wTup (wCons (wVar 9) (wCons (wVar 10) (wNil)))) (wNil)))) ((fun D env st => D.nx env st))
def w_f_law_ways_3 : DS := wFor (iSeq (wVar 7)) (gNm 10) w_f_law_ways_2
def w_f_law_ways : DS := wSeq (wAsg (wSl false (wVar 0) oNo (oPart (wC (.int 3)))) (gTp 3 (gCn (gNm 2) (gCn (gNm 3) (gCn (gNm 4) gNl))))) (wSeq (wAsg (wOp dIx (wVar 4) (wVar 1)) (gTp 3 (gCn (gNm 5) (gCn (gNm 6) (gCn (gNm 7) gNl))))) (wSeq (wAsg (wLst true (wNil)) (gNm 8)) (wSeq (wFor (iRange1 (wCons (wOp dAdd (wOp dSub (wVar 2) (wVar 5)) (wC (.int 1))) (wNil))) (gNm 9) w_f_law_ways_3) (wRet (wCB bTuple (wCons (wVar 8) (wNil)))))))
def hit (a b day : Int) : Bool := if a ≤ day then decide (day < b) else false
theorem free_empty (a b : Int) : ∀ row : List Int, (row.filterMap fun day => if hit a b day = true then some (D.int day) else none).isEmpty = freeF row a b
  | [] => rfl
  | x :: r => by
    have ih := free_empty a b r
    unfold freeF at ih ⊢
    rw [List.filterMap_cons, List.map_cons, List.any_cons]
    have eh : hit a b x = if a ≤ x then decide (x < b) else false := rfl
    rw [← eh]
    cases hit a b x with
    | true => rfl
    | false => exact ih
theorem okL_hits (a b : Int) : ∀ row : List Int, D.okL (row.filterMap fun day => if hit a b day = true then some (D.int day) else none) = true
  | [] => rfl
  | x :: r => by
    rw [List.filterMap_cons]
    cases hit a b x with
    | true => simp only [if_true, D.okL, D.ok, Bool.true_and]; exact okL_hits a b r
    | false => exact okL_hits a b r
theorem vc_f_law_ways : ∀ g sto, (S_f_law_ways.args g).length = S_f_law_ways.n → S_f_law_ways.pre g sto → w_f_law_ways (bodyEnds (popEnds sto.length sto (S_f_law_ways.post g sto))) (startE ["_law_system_here", "_law_work_here", "_law_days", "_law_hands", "_law_works", "_law_length", "_law_ahead", "_law_able", "_law_found", "_law_start", "_law_hand", "_law_day"] (S_f_law_ways.args g)) sto := by
  rintro ⟨s, i, w⟩ sto _ ⟨hw, hrow, d0, d1, l0, l1, la⟩
  have z2 : 2 ≤ sizeLine := by decide
  simp? only [w_f_law_ways, S_f_law_ways, wFor]
  refine ⟨_, atI_map hw, ?_⟩
  (try simp? only [true_and])
  refine ⟨Nat.zero_le _, ⟨by omega, by omega⟩, ?_⟩
  rw [rangeD_eq]
  refine forL_fold D.int (fun acc b => w.able.foldl (fun acc h => if freeF (rowOf s h) b (b + w.len) = true then acc ++ [(b, h)] else acc) acc)
    (fun k acc e st => ∃ x y, e = [some s.d, some (.int i), some (.int s.days), some (.tup (s.hands.map dInts)), some (.tup (s.works.map Wk.d)), some (.int w.len), some (dInts w.ahead), some (dInts w.able), some (.ref sto.length), x, y, none] ∧ st = sto ++ [.lst (acc.map encP)] ∧ acc.length ≤ k * 1000) _ [] _ _ ?_ ?_ ⟨_, _, rfl, rfl, Nat.le_refl _⟩
  · rintro k acc b e st hk hb ⟨x, y, rfl, rfl, hl⟩ R hR
    have hbr := mem_rangeI.mp hb
    refine ⟨trivial, ?_⟩
    simp? only [w_f_law_ways_3, wFor]
    refine forL_fold D.int (fun acc h => if freeF (rowOf s h) b (b + w.len) = true then acc ++ [(b, h)] else acc)
      (fun j acc' e st => ∃ y, e = [some s.d, some (.int i), some (.int s.days), some (.tup (s.hands.map dInts)), some (.tup (s.works.map Wk.d)), some (.int w.len), some (dInts w.ahead), some (dInts w.able), some (.ref sto.length), some (.int b), y, none] ∧ st = sto ++ [.lst (acc'.map encP)] ∧ acc'.length ≤ acc.length + j) _ acc _ _ ?_ ?_ ⟨_, rfl, rfl, Nat.le_refl _⟩
    · rintro j acc' h e st hj hh ⟨y, rfl, rfl, hl'⟩ R2 hR2
      obtain ⟨row, hr, hrl⟩ := hrow h hh
      have er : rowOf s h = row := by unfold rowOf; rw [hr]; rfl
      refine ⟨trivial, ?_⟩
      simp? only [w_f_law_ways_2, wComp, wipeE]
      refine ⟨_, atI_map hr, ?_⟩
      (try simp? only [true_and])
      refine ⟨by (try simp only [List.length_map]); rw [sizeLine_eq]; omega, compL_map D.int (fun day => if hit b (b + w.len) day = true then some (.int day) else none) trivial row [] (fun x hx R hR => ?_) ?_⟩
      · simp? only [Tg.dg, w_f_law_ways_1]
        unfold hit at hR
        by_cases hx : b ≤ x
        · by_cases hx2 : x < b + w.len
          · simpa [hx, hx2] using hR
          · simpa [hx, hx2] using hR
        · simpa [hx] using hR
      · simp? only [true_and]
        refine ⟨Nat.zero_le _, okL_hits _ _ _, ?_⟩
        simp only [v_eqE, wComp, wipeE, wFor, wIsi, iEnum, iZip, zipI_tup, zipI_lst, zipI_lt, zipI_tl, seqJ_tup, seqJ_lst, v_app0, v_app1, v_eqNl, v_eqNt, rd_r0, rd_r1, rd_r2, v_ix0, v_ix1, v_ix2, v_eq0, v_len0, v_len1, v_ex0, v_mulS, wRevA, v_revT, v_revL, wRgL1, wRgL2, wRgT1, wRgT2, v_rgx1, v_rgx2, sy_ix0, sy_ix1, sy_ix2, sy_ix3, sy_sl3, sy_tp, wk_ix0, wk_ix1, wk_ix2, wk_tp, ws_tp, ns_seq, ns_len, ns_ix, ns_rd, sy_rd, wk_rd, ws_rd, wSeq, wAsg, wRet, wIf, wDrop, wOp, wCons, wNil, wTup, wLst, wCB, wCall, wTest, wAnd, wOr, wNot, wNotV, wAndV, wOrV, wChain, wNeg, wC, wM, wSl, oNo, oPart, iSeq, seqI_tup, seqI_lst, seqI_scr, v_rg1, v_rg2, gNm, v_gTp, v_gCn, v_gNl, v_var0, v_varS, v_sub, v_mod, v_fdiv, v_pow, v_iadd, v_add, v_addT, v_addL, v_mul, v_lt, v_le, v_gt, v_ge, v_eqi, v_ixT, v_ixL, v_ixS, v_lenT, v_lenL, v_lenS, v_abs, v_min2, v_max2, v_intI, v_intB, v_tupl, v_tupT, v_bl, v_in, v_some, v_newT, v_newF, startE, rd_int', rd_bl', rd_str', rd_tup', rd_lst', rd_scr', rd_non', at0, at1, at2, at3, at4, List.map_cons, List.map_nil, List.length_cons, List.length_nil, List.length_map, List.replicate_succ, List.replicate_zero, Nat.reduceSub, Nat.reduceAdd, List.cons_append, List.nil_append, List.set_cons_zero, List.set_cons_succ, List.getElem?_cons_zero, List.getElem?_cons_succ, Bool.not_true, Bool.not_false, if_true, if_false, Bool.false_eq_true, reduceCtorEq, true_and, and_true, bodyEnds, Nat.zero_add, decide_eq_true_eq, free_empty]
        rw [er] at hR2
        by_cases hf : freeF row b (b + w.len) = true
        · rw [if_pos hf] at hR2
          simp? only [hf, v_app (get_last _ _), set_last, rd_ref' (get_last _ _)]
          rw [rangeI_len] at hk
          refine ⟨z2, by rw [sizeLine_eq]; omega, hR2 _ _ ⟨_, rfl, by simp [encP], by simp; omega⟩⟩
        · rw [if_neg hf] at hR2
          simp? only [hf]
          exact hR2 _ _ ⟨_, rfl, rfl, by omega⟩
    · rintro e st ⟨y, rfl, rfl, hl'⟩
      refine ⟨trivial, hR _ _ ⟨_, _, rfl, rfl, ?_⟩⟩
      omega
  · rintro e st ⟨x, y, rfl, rfl, hl⟩
    refine ⟨trivial, ?_⟩
    simp? only [v_tupL (rd_ref' (get_last _ _))]
    exact ⟨sto, _, rfl, rfl, blw_encP _ _, fun i c h => .inl h, rfl, rfl⟩
theorem waysL_len (s : Sy) (w : Wk) : (waysF s w).length ≤ (s.days - w.len + 1).toNat * w.able.length := by
  have inner : ∀ (b : Int) (hs : List Int) (acc : List (Int × Int)), (hs.foldl (fun acc h => if freeF (rowOf s h) b (b + w.len) = true then acc ++ [(b, h)] else acc) acc).length ≤ acc.length + hs.length := fun b hs => by
    induction hs with
    | nil => intro acc; exact Nat.le_refl _
    | cons h r ih =>
      intro acc
      rw [List.foldl_cons, List.length_cons]
      refine Nat.le_trans (ih _) ?_
      split <;> simp <;> omega
  have outer : ∀ (bs : List Int) (acc : List (Int × Int)), (bs.foldl (fun acc b => w.able.foldl (fun acc h => if freeF (rowOf s h) b (b + w.len) = true then acc ++ [(b, h)] else acc) acc) acc).length ≤ acc.length + bs.length * w.able.length := fun bs => by
    induction bs with
    | nil => intro acc; simp
    | cons b r ih =>
      intro acc
      rw [List.foldl_cons, List.length_cons, Nat.succ_mul]
      have h1 := ih (w.able.foldl (fun acc h => if freeF (rowOf s h) b (b + w.len) = true then acc ++ [(b, h)] else acc) acc)
      have h2 := inner b w.able acc
      omega
  have := outer (rangeI 0 (s.days - w.len + 1).toNat) []
  rw [rangeI_len] at this
  unfold waysF
  simpa using this
theorem lways_use {s : Sy} {i : Int} {w : Wk} {st : Sto} {Q : DK} (h : preWays s i w) (q : Q (.tup ((waysF s w).map encP)) st) :
    ∃ g, [s.d, .int i] = S_f_law_ways.args g ∧ (S_f_law_ways.args g).length = S_f_law_ways.n ∧ S_f_law_ways.pre g st ∧ ∀ d s2, S_f_law_ways.post g st d s2 → Q d s2 :=
  ⟨(s, i, w), rfl, rfl, h, fun d s2 ⟨e1, e2⟩ => by subst e1; subst e2; exact q⟩
theorem deck_use {ns : List Int} {Q : DK} (h : ns.length ≤ 63) (q : ∀ st', Dk 0 [] st' → Q (.ref 2) st') :
    ∃ g, [D.scr (ns.map .int)] = S_f_law_deck.args g ∧ (S_f_law_deck.args g).length = S_f_law_deck.n ∧ S_f_law_deck.pre g [] ∧ ∀ d s2, S_f_law_deck.post g [] d s2 → Q d s2 :=
  ⟨ns, rfl, rfl, ⟨h, rfl⟩, fun d s2 ⟨e1, e2⟩ => by subst e1; exact q s2 e2⟩
theorem preWays_of {s : Sy} {a b c l e : Int} (o : s.Ok a b c l e) (ha : a ≤ 900) (hb : b ≤ 100) (hl : l ≤ 900) {i : Nat} (hi : i < s.works.length) : ∃ w, preWays s i w ∧ w.Ok i s.hands.length l := by
  have hw : s.works[i]? = some s.works[i] := List.getElem?_eq_getElem hi
  have ow := o.work i _ hw
  refine ⟨s.works[i], ⟨atI_of (by omega) (by rw [Int.toNat_natCast]; exact hw), fun h hh => ?_, by have := o.days; omega, by have := o.days; omega, by have := ow.len; omega, by have := ow.len; omega, ?_⟩, ow⟩
  · have hr := ow.able.2 h hh
    obtain ⟨row, h1, h2⟩ := pick (xs := s.hands) (i := h) hr.1 hr.2
    refine ⟨row, h1, ?_⟩
    have := (o.rows row h2).len
    have := o.days
    omega
  · have := ow.able.len
    have := o.hands
    omega
theorem p_ix0 {p : Int × Int} {st : Sto} {Q : DK} : dIx (encP p) (.int 0) st Q = Q (.int p.1) st := by unfold encP; rw [v_ixT]; simp only [at0, v_some]
theorem p_ix1 {p : Int × Int} {st : Sto} {Q : DK} : dIx (encP p) (.int 1) st Q = Q (.int p.2) st := by unfold encP; rw [v_ixT]; simp only [at1, v_some]
theorem any_ints {i : Int} : ∀ ns : List Int, (ns.map D.int).any (fun z => z.eqv (.int i)) = ns.any (· == i)
  | [] => rfl
  | n :: r => by rw [List.map_cons, List.any_cons, List.any_cons, any_ints r]; simp only [D.eqv]
theorem depL_ints : ∀ ns : List Int, D.depL (ns.map D.int) = 0
  | [] => rfl
  | n :: r => by rw [List.map_cons]; simp only [D.depL, D.dep, depL_ints r]; rfl
theorem v_inI {i : Int} {ns : List Int} {st : Sto} {Q : DK} (q : Q (.bl (ns.any (· == i))) st) : dIn (.int i) (dInts ns) st Q :=
  ⟨ns.map .int, .inr rfl, rfl, okL_ints ns, by rw [depL_ints]; exact Nat.zero_le _, by rw [← any_ints] at q; exact q⟩
theorem v_inE {i : Int} {ns : List Int} {f : Bool → Bool} {st : Sto} {Q : DK} : dInB f (.int i) (dInts ns) st Q = Q (.bl (f (ns.any (· == i)))) st := by
  apply propext
  constructor
  · rintro ⟨ds, h, _, _, _, q⟩
    rcases h with h | h
    · cases h
    · cases h
      rw [← any_ints]
      exact q
  · intro q
    exact ⟨ns.map .int, .inr rfl, rfl, okL_ints ns, by rw [depL_ints]; exact Nat.zero_le _, by rw [← any_ints] at q; exact q⟩
def S_p_end_of : DL.Spec := ⟨3, Sy × Int × (Int × Int) × Wk, fun (s, i, p, _) => [s.d, .int i, encP p], fun (s, i, _, w) _ => atI s.works i = some w, fun (_, _, p, w) st d st' => st' = st ∧ d = .int (p.1 + w.len)⟩
def w_p_end_of : DS := wRet (wOp dAdd (wOp dIx (wVar 2) (wC (.int 0))) (wOp dIx (wOp dIx (wOp dIx (wVar 0) (wC (.int 2))) (wVar 1)) (wC (.int 0))))
theorem vc_p_end_of : ∀ g sto, (S_p_end_of.args g).length = S_p_end_of.n → S_p_end_of.pre g sto → w_p_end_of (bodyEnds (S_p_end_of.post g sto)) (startE ["system", "work", "way"] (S_p_end_of.args g)) sto := by
  rintro ⟨s, i, p, w⟩ sto _ hw
  simp? only [w_p_end_of, S_p_end_of, p_ix0]
  refine ⟨_, atI_map hw, ?_⟩
  (try simp? only [true_and])
theorem end_use {s : Sy} {i : Int} {p : Int × Int} {w : Wk} {st : Sto} {Q : DK} (h : atI s.works i = some w) (q : Q (.int (p.1 + w.len)) st) :
    ∃ g, [s.d, .int i, encP p] = S_p_end_of.args g ∧ (S_p_end_of.args g).length = S_p_end_of.n ∧ S_p_end_of.pre g st ∧ ∀ d s2, S_p_end_of.post g st d s2 → Q d s2 :=
  ⟨(s, i, p, w), rfl, rfl, h, fun d s2 ⟨e1, e2⟩ => by subst e1; subst e2; exact q⟩
theorem ite_step {c : Bool} {y : D} {st : Sto} {R : Option D → Sto → Prop} (h : R (if c = true then some y else none) st) : if c = true then R (some y) st else R none st := by
  cases c with
  | true => exact h
  | false => exact h
theorem ok_encP (p : Int × Int) : (encP p).ok = true := rfl
theorem eqv_encP (p q : Int × Int) : (encP p).eqv (encP q) = (p == q) := by
  obtain ⟨a, b⟩ := p
  obtain ⟨c, d⟩ := q
  show D.eqv (.tup [.int a, .int b]) (.tup [.int c, .int d]) = _
  simp only [D.eqv, D.eqvL, Bool.and_true]
  rfl
theorem okL_encP : ∀ ps : List (Int × Int), D.okL (ps.map encP) = true
  | [] => rfl
  | p :: r => by rw [List.map_cons]; simp only [D.okL, ok_encP, okL_encP r, Bool.and_self]
theorem fm_filter {α : Type} {enc : α → D} (P : α → Bool) : ∀ xs : List α, (xs.filterMap fun x => if P x = true then some (enc x) else none) = (xs.filter P).map enc
  | [] => rfl
  | x :: r => by
    rw [List.filterMap_cons, List.filter_cons]
    cases P x with
    | true => simp only [if_true, List.map_cons]; rw [fm_filter P r]
    | false => exact fm_filter P r
def pureS (n : Nat) {G : Type} (args : G → List D) (pre : G → Prop) (val : G → D) : DL.Spec := ⟨n, G, args, fun g _ => pre g, fun g st d st' => st' = st ∧ d = val g⟩
theorem use_pure {n : Nat} {G : Type} {args : G → List D} {pre : G → Prop} {val : G → D} {a : List D} {st : Sto} {Q : DK} (g : G) (e : a = args g) (hl : (args g).length = n) (hp : pre g) (q : Q (val g) st) :
    ∃ g, a = (pureS n args pre val).args g ∧ ((pureS n args pre val).args g).length = (pureS n args pre val).n ∧ (pureS n args pre val).pre g st ∧ ∀ d s2, (pureS n args pre val).post g st d s2 → Q d s2 :=
  ⟨g, e, hl, hp, fun d s2 ⟨e1, e2⟩ => by subst e1; subst e2; exact q⟩
/-- a def that draws from the deck, at most c times -/
def deckS (n : Nat) (c : Int) {G : Type} (args : G → List D) (pre : G → Prop) (post : G → D → Prop) : DL.Spec :=
  ⟨n, Sto × Int × G, fun x => .ref 2 :: args x.2.2, fun x st => Dk x.2.1 x.1 st ∧ x.2.1 + c < 2 ^ 36 ∧ pre x.2.2, fun x _ d st' => post x.2.2 d ∧ Dk (x.2.1 + c) x.1 st'⟩
theorem use_deck {n : Nat} {c : Int} {G : Type} {args : G → List D} {pre : G → Prop} {post : G → D → Prop} {a : List D} {B : Int} {r st : Sto} {Q : DK} (g : G) (e : a = .ref 2 :: args g) (hl : (args g).length + 1 = n)
    (hD : Dk B r st) (hB : B + c < 2 ^ 36) (hp : pre g) (q : ∀ d st', post g d → Dk (B + c) r st' → Q d st') :
    ∃ g, a = (deckS n c args pre post).args g ∧ ((deckS n c args pre post).args g).length = (deckS n c args pre post).n ∧ (deckS n c args pre post).pre g st ∧ ∀ d s2, (deckS n c args pre post).post g st d s2 → Q d s2 :=
  ⟨(r, B, g), e, hl, ⟨hD, hB, hp⟩, fun d s2 ⟨e1, e2⟩ => q d s2 e1 e2⟩
section
variable {B B0 : Int} {rest ex st st' sto : Sto} {c c' : Cel}
theorem _root_.DL.Dk.len (h : Dk B rest st) : st.length = rest.length + 3 := by
  obtain ⟨ds, cs, t, rfl, _⟩ := h
  rfl
theorem _root_.DL.Dk.push (h : Dk B rest st) : Dk B (rest ++ [c]) (st ++ [c]) := by
  obtain ⟨ds, cs, t, rfl, r⟩ := h
  exact ⟨ds, cs, t, rfl, r⟩
theorem _root_.DL.Dk.top (h : Dk B (rest ++ [c]) st) : st[rest.length + 3]? = some c := by
  obtain ⟨ds, cs, t, rfl, r⟩ := h
  simp only [List.getElem?_cons_succ]
  exact get_last _ _
theorem _root_.DL.Dk.put (h : Dk B (rest ++ [c]) st) : Dk B (rest ++ [c']) (st.set (rest.length + 3) c') := by
  obtain ⟨ds, cs, t, rfl, r⟩ := h
  refine ⟨ds, cs, t, ?_, r⟩
  simp only [List.set_cons_succ, set_last]
theorem _root_.DL.Dk.pop (h : Dk B (rest ++ ex) st') : ∃ st1, st' = st1 ++ ex ∧ Dk B rest st1 := by
  obtain ⟨ds, cs, t, rfl, r⟩ := h
  exact ⟨_, rfl, ds, cs, t, rfl, r⟩
theorem blwL_ints (n : Nat) : ∀ ns : List Int, D.blwL n (ns.map .int) = true
  | [] => rfl
  | _ :: r => by rw [List.map_cons]; simp only [D.blwL, D.blw, Bool.true_and]; exact blwL_ints n r
theorem dk_pop {post : D → Sto → Prop} {d : D} (h0 : Dk B0 rest sto) (h : Dk B (rest ++ ex) st') (hb : d.blw sto.length = true) (q : ∀ st1, Dk B rest st1 → post d st1) : popEnds sto.length sto post d st' := by
  obtain ⟨st1, rfl, h1⟩ := h.pop
  refine ⟨st1, ex, rfl, by rw [h1.len, h0.len], hb, fun i c hc => ?_, q _ h1⟩
  have hlen := h0.len
  obtain ⟨ds, cs, t, rfl, _⟩ := h1
  obtain ⟨ds0, cs0, t0, rfl, _⟩ := h0
  match i, hc with
  | 0, hc => cases hc; exact .inr (by simp only [Cel.blw]; exact blwL_ints _ _)
  | 1, hc => cases hc; exact .inr (by simp only [Cel.blw]; exact blwL_ints _ _)
  | 2, hc => cases hc; refine .inr ?_; rw [hlen]; simp [Cel.blw, D.blwL, D.blw]
  | i + 3, hc => exact .inl hc
end
theorem compL_flt {α β : Type} {G : Sto → Prop} {t : Tg} {c : DT} {w : DE} {env : En} {Q : LK} {st : Sto} (enc : α → D) (P : α → Bool) (f : α → β) (enc' : β → D) (hG : G st) (xs : List α)
    (step : ∀ x ∈ xs, ∀ R : Option D → Sto → Prop, (if P x = true then R (some (enc' (f x))) st else R none st) → t.dg (enc x) env st fun e s => c e s fun b s1 => if b = true then w e s1 fun y s2 => R (some y) s2 else R none s1)
    (q : Q (((xs.filter P).map f).map enc') st) : wCompL G t c w env (xs.map enc) st [] Q := by
  refine compL_map enc (fun x => if P x = true then some (enc' (f x)) else none) hG xs [] (fun x hx R hR => step x hx R ?_) ?_
  · cases h : P x with
    | true => rw [h] at hR; exact hR
    | false => rw [h] at hR; exact hR
  · rw [List.nil_append, fm_filter, List.map_map] at *
    exact q
theorem compL_all {α β : Type} {G : Sto → Prop} {t : Tg} {c : DT} {w : DE} {env : En} {Q : LK} {st : Sto} (enc : α → D) (f : α → β) (enc' : β → D) (hG : G st) (xs : List α)
    (step : ∀ x ∈ xs, ∀ R : Option D → Sto → Prop, R (some (enc' (f x))) st → t.dg (enc x) env st fun e s => c e s fun b s1 => if b = true then w e s1 fun y s2 => R (some y) s2 else R none s1)
    (q : Q ((xs.map f).map enc') st) : wCompL G t c w env (xs.map enc) st [] Q := by
  refine compL_map enc (fun x => some (enc' (f x))) hG xs [] (fun x hx R hR => step x hx R hR) ?_
  rw [List.nil_append]
  have e : xs.filterMap (fun x => some (enc' (f x))) = (xs.map f).map enc' := by
    rw [List.map_map]; exact congrFun (List.filterMap_eq_map (f := enc' ∘ f)) xs
  rw [e]; exact q
theorem isE_map {α β : Type} (f : α → β) (xs : List α) : (xs.map f).isEmpty = xs.isEmpty := by cases xs <;> rfl
theorem isE_filter {α : Type} (P : α → Bool) : ∀ xs : List α, (xs.filter P).isEmpty = !xs.any P
  | [] => rfl
  | x :: r => by
    rw [List.filter_cons, List.any_cons]
    cases P x with
    | true => rfl
    | false => exact isE_filter P r
theorem pk2 {a b x : Int} : ∃ v : Int, atI [D.int a, .int b] (x % 2) = some (.int v) ∧ (v = a ∨ v = b) := by
  have h : x % 2 = 0 ∨ x % 2 = 1 := by omega
  rcases h with h | h
  · exact ⟨a, by rw [h]; rfl, .inl rfl⟩
  · exact ⟨b, by rw [h]; rfl, .inr rfl⟩
theorem pk3 {a b c x : Int} : ∃ v : Int, atI [D.int a, .int b, .int c] (x % 3) = some (.int v) ∧ (v = a ∨ v = b ∨ v = c) := by
  have h : x % 3 = 0 ∨ x % 3 = 1 ∨ x % 3 = 2 := by omega
  rcases h with h | h | h
  · exact ⟨a, by rw [h]; rfl, .inl rfl⟩
  · exact ⟨b, by rw [h]; rfl, .inr (.inl rfl)⟩
  · exact ⟨c, by rw [h]; rfl, .inr (.inr rfl)⟩
theorem pk {α : Type} {enc : α → D} {xs : List α} {i : Int} (h0 : 0 ≤ i) (h1 : i < xs.length) : ∃ v, atI (xs.map enc) i = some (enc v) ∧ v ∈ xs := by
  obtain ⟨v, h2, h3⟩ := pick h0 h1
  exact ⟨v, atI_map h2, h3⟩
theorem modb (x : Int) {n : Int} (h : 0 < n) : 0 ≤ x % n ∧ x % n < n := ⟨Int.emod_nonneg _ (by omega), Int.emod_lt_of_pos _ h⟩
theorem rangeI_succ (lo : Int) (n : Nat) : rangeI lo (n + 1) = rangeI lo n ++ [lo + n] := by
  unfold rangeI
  rw [List.range_succ, List.map_append]
  rfl
theorem seq_go {a k : DS} {A : DEnds} {env : En} {st : Sto} (h : a { nx := fun e s => k A e s, rt := A.rt, bk := A.bk, ct := A.ct } env st) : wSeq a k A env st := h
/-- what holds behind a statement, whichever way -/
theorem seq_cut {a k : DS} {A : DEnds} {env : En} {st : Sto} (J : En → Sto → Prop) (h : ∀ K : En → Sto → Prop, (∀ e s, J e s → K e s) → a { nx := K, rt := A.rt, bk := A.bk, ct := A.ct } env st) (hk : ∀ e s, J e s → k A e s) : wSeq a k A env st := h _ hk
theorem enum_at {α : Type} {enc : α → D} {xs : List α} {i : Nat} {d : D} (h : (enumD (xs.map enc))[i]? = some d) : ∃ x, xs[i]? = some x ∧ d = .tup [.int (i : Nat), enc x] := by
  unfold enumD at h
  rw [List.getElem?_map, List.getElem?_zipIdx, List.getElem?_map] at h
  cases e : xs[i]? with
  | none => rw [e] at h; cases h
  | some x => rw [e] at h; cases h; exact ⟨x, rfl, by simp⟩
@[simp] theorem enum_len (ds : List D) : (enumD ds).length = ds.length := by unfold enumD; rw [List.length_map, List.length_zipIdx]
theorem v_isBl {x c : Bool} {f : Bool → Bool} {st : Sto} {Q : DK} : dIsBl f (.bl x) (.bl c) st Q = Q (.bl (f (decide (x = c)))) st := propext ⟨fun ⟨_, _, e1, e2, q⟩ => by cases e1; cases e2; exact q, fun q => ⟨_, _, rfl, rfl, q⟩⟩
theorem v_mulT {x : List D} {k : Int} {st : Sto} {Q : DK} : dMul (.tup x) (.int k) st Q = (-(2 ^ 63) ≤ k ∧ k ≤ 1000 ∧ x.length ≤ 1000 ∧ Q (.tup (List.replicate k.toNat x).flatten) st) := rfl
theorem flat_one {α : Type} (x : α) : ∀ n : Nat, (List.replicate n [x]).flatten = List.replicate n x
  | 0 => rfl
  | n + 1 => by rw [List.replicate_succ, List.flatten_cons, flat_one x n, List.replicate_succ]; rfl
theorem v_mulL {x : List D} {k : Int} {st : Sto} {Q : DK} : dMul (.lst x) (.int k) st Q = (-(2 ^ 63) ≤ k ∧ k < 2 ^ 63 ∧ x.length * k.toNat ≤ sizeLine ∧ Q (.lst (List.replicate k.toNat x).flatten) st) := rfl
theorem v_eq2 {a b c d : Int} {f : Bool → Bool} {st : Sto} {Q : DK} : dEqB f (.tup [.int a, .int b]) (.tup [.int c, .int d]) st Q = Q (.bl (f (a == c && b == d))) st := by
  rw [v_eqO (a := .tup [.int a, .int b]) (fun _ h => nomatch h)]
  unfold dEqO
  simp [D.ok, D.okL, D.dep, D.depL, D.eqv, D.eqvL]
theorem cut_map {α β : Type} (f : α → β) (xs : List α) (a b : Option Int) : cutL (xs.map f) a b = (cutL xs a b).map f := by
  unfold cutL
  rw [List.length_map, List.map_take, List.map_drop]
theorem v_slT {ds : List D} {a b : Option Int} {m : Bool} {st : Sto} {Q : DK} : dSl m (.tup ds) a b st Q = Q (.tup (cutL ds a b)) st := rfl
theorem subL_of {α : Type} {a b c : List α} (h : a.Sublist c) (e : b = a) : b.Sublist c := e ▸ h
theorem sub_at {α : Type} (d : α) : ∀ (row : List α) (off : Int) (ks : List Int), ks.Pairwise (· < ·) → (∀ k ∈ ks, off ≤ k ∧ k < off + row.length) → (ks.map fun k => row.getD (k - off).toNat d).Sublist row
  | [], off, ks, _, hb => by
    cases ks with
    | nil => exact List.Sublist.slnil
    | cons k ks => have := hb k List.mem_cons_self; simp at this; omega
  | r :: row, off, [], _, _ => List.nil_sublist _
  | r :: row, off, k :: ks, hp, hb => by
    rw [List.pairwise_cons] at hp
    have hk := hb k List.mem_cons_self
    rw [List.length_cons] at hk
    by_cases h : k = off
    · subst h
      rw [List.map_cons, Int.sub_self]
      refine List.Sublist.cons₂ _ ?_
      have ih := sub_at d row (k + 1) ks hp.2 fun j hj => ⟨by have := hp.1 j hj; omega, by have := (hb j (List.mem_cons_of_mem _ hj)).2; rw [List.length_cons] at this; omega⟩
      refine subL_of ih (List.map_congr_left fun j hj => ?_)
      have := hp.1 j hj
      rw [show (j - k).toNat = (j - (k + 1)).toNat + 1 by omega, List.getD_cons_succ]
    · refine List.Sublist.cons _ ?_
      have ih := sub_at d row (off + 1) (k :: ks) (List.pairwise_cons.mpr hp) fun j hj => by
        have h2 := (hb j hj).2
        rw [List.length_cons] at h2
        rcases List.mem_cons.mp hj with e | e
        · subst e; omega
        · have := hp.1 j e; omega
      refine subL_of ih (List.map_congr_left fun j hj => ?_)
      have : off < j := by
        rcases List.mem_cons.mp hj with e | e
        · subst e; omega
        · have := hp.1 j e; omega
      rw [show (j - off).toNat = (j - (off + 1)).toNat + 1 by omega, List.getD_cons_succ]
def encR (r : List (Int × Int)) : D := .tup (r.map encP)
def encF (f : List (List (Int × Int))) : D := .tup (f.map encR)
theorem v_notInI {i : Int} {ns : List Int} {st : Sto} {Q : DK} (q : Q (.bl (!ns.any (· == i))) st) : dNotIn (.int i) (dInts ns) st Q :=
  ⟨ns.map .int, .inr rfl, rfl, okL_ints ns, by rw [depL_ints]; exact Nat.zero_le _, by rw [← any_ints] at q; exact q⟩
theorem v_inL {i : Int} {ns : List Int} {a : D} {st : Sto} {Q : DK} (h : rd st a = .lst (ns.map .int)) (q : Q (.bl (ns.any (· == i))) st) : dIn (.int i) a st Q :=
  ⟨ns.map .int, .inl h, rfl, okL_ints ns, by rw [depL_ints]; exact Nat.zero_le _, by rw [← any_ints] at q; exact q⟩
def givenF (row : List Int) (a b : Int) : Int := ((rangeI a (b - a).toNat).filter fun d => !row.any (· == d)).length
def S_p_given_days : DL.Spec := ⟨4, Sy × Int × Int × Int × List Int, fun (s, h, a, b, _) => [s.d, .int h, .int a, .int b], fun (s, h, a, b, row) _ => atI s.hands h = some row ∧ 0 ≤ a ∧ a ≤ 1000 ∧ 0 ≤ b ∧ b ≤ 1000, fun (_, _, a, b, row) st d st' => st' = st ∧ d = .int (givenF row a b)⟩
def w_p_given_days_1 : DT := wTest (wOp dNotIn (wVar 4) (wOp dIx (wOp dIx (wVar 0) (wC (.int 1))) (wVar 1)))
def w_p_given_days : DS := wRet (wCB bLen (wCons (wComp false (iRange2 (wCons (wVar 2) (wCons (wVar 3) (wNil)))) (.nm 4) w_p_given_days_1 (wVar 4) [4]) (wNil)))
theorem vc_p_given_days : ∀ g sto, (S_p_given_days.args g).length = S_p_given_days.n → S_p_given_days.pre g sto → w_p_given_days (bodyEnds (S_p_given_days.post g sto)) (startE ["system", "hand", "first", "last", "day"] (S_p_given_days.args g)) sto := by
  rintro ⟨s, h, a, b, row⟩ sto _ ⟨hr, a0, a1, b0, b1⟩
  simp? only [w_p_given_days, S_p_given_days, wComp, wipeE]
  refine ⟨⟨by omega, by omega, by omega, by omega⟩, by rw [rangeD_len, sizeLine_eq]; omega, ?_⟩
  rw [rangeD_eq]
  refine compL_map D.int (fun x => if (!row.any (· == x)) = true then some (.int x) else none) trivial _ [] (fun x hx R hR => ?_) ?_
  · have hR' := ite_step hR
    simp? only [Tg.dg, w_p_given_days_1] at hR' ⊢
    refine ⟨_, atI_map hr, v_notInI ?_⟩
    exact ⟨_, rfl, hR'⟩
  · rw [fm_filter]
    simp? only [true_and]
    rfl
theorem given_use {s : Sy} {h a b : Int} {row : List Int} {st : Sto} {Q : DK} (hp : atI s.hands h = some row ∧ 0 ≤ a ∧ a ≤ 1000 ∧ 0 ≤ b ∧ b ≤ 1000) (q : Q (.int (givenF row a b)) st) :
    ∃ g, [s.d, .int h, .int a, .int b] = S_p_given_days.args g ∧ (S_p_given_days.args g).length = S_p_given_days.n ∧ S_p_given_days.pre g st ∧ ∀ d s2, S_p_given_days.post g st d s2 → Q d s2 :=
  ⟨(s, h, a, b, row), rfl, rfl, hp, fun d s2 ⟨e1, e2⟩ => by subst e1; subst e2; exact q⟩
def withinF (w : Wk) (a b : Int) (p : Int × Int) : Bool := if a ≤ p.1 then decide (p.1 + w.len ≤ b) else false
def S_p_is_within : DL.Spec := ⟨5, Sy × Int × List (Int × Int) × Int × Int × Wk, fun (s, i, r, a, b, _) => [s.d, .int i, encR r, .int a, .int b], fun (s, i, r, _, _, w) _ => atI s.works i = some w ∧ r.length ≤ 100000, fun (_, _, r, a, b, w) st d st' => st' = st ∧ d = .bl (r.all (withinF w a b))⟩
def w_p_is_within_1 : DE := wAndV (wOp dLe (wVar 3) (wOp dIx (wVar 5) (wC (.int 0)))) (wOp dLe (wCall S_p_end_of (wCons (wVar 0) (wCons (wVar 1) (wCons (wVar 5) (wNil))))) (wVar 4))
def w_p_is_within : DS := wRet (wCB bAll (wCons (wComp false (iSeq (wVar 2)) (.nm 5) wYes w_p_is_within_1 [5]) (wNil)))
theorem vc_p_is_within : ∀ g sto, (S_p_is_within.args g).length = S_p_is_within.n → S_p_is_within.pre g sto → w_p_is_within (bodyEnds (S_p_is_within.post g sto)) (startE ["system", "work", "row", "first", "last", "way"] (S_p_is_within.args g)) sto := by
  rintro ⟨s, i, r, a, b, w⟩ sto _ ⟨hw, hl⟩
  simp? only [w_p_is_within, S_p_is_within, encR, wComp, wipeE]
  refine ⟨by rw [sizeLine_eq]; omega, compL_map encP (fun p => some (.bl (withinF w a b p))) trivial _ [] (fun p hp R hR => ?_) ?_⟩
  · simp? only [Tg.dg, wYes, w_p_is_within_1, p_ix0]
    unfold withinF at hR
    by_cases ha : a ≤ p.1
    · simp? only [ha] at hR ⊢
      exact end_use hw hR
    · simp? only [ha] at hR ⊢
      exact hR
  · have e : r.filterMap (fun p => some (D.bl (withinF w a b p))) = (r.map (withinF w a b)).map D.bl := by
      rw [List.map_map]; exact congrFun (List.filterMap_eq_map (f := D.bl ∘ withinF w a b)) r
    simp only [List.nil_append, e, v_all]
    refine ⟨trivial, ?_⟩
    rw [List.all_map]
    rfl
theorem within_use {s : Sy} {i a b : Int} {r : List (Int × Int)} {w : Wk} {st : Sto} {Q : DK} (hp : atI s.works i = some w ∧ r.length ≤ 100000) (q : Q (.bl (r.all (withinF w a b))) st) :
    ∃ g, [s.d, .int i, encR r, .int a, .int b] = S_p_is_within.args g ∧ (S_p_is_within.args g).length = S_p_is_within.n ∧ S_p_is_within.pre g st ∧ ∀ d s2, S_p_is_within.post g st d s2 → Q d s2 :=
  ⟨(s, i, r, a, b, w), rfl, rfl, hp, fun d s2 ⟨e1, e2⟩ => by subst e1; subst e2; exact q⟩
def encE (x : List (Int × Int) × Nat) : D := .tup [.int (x.2 : Nat), encR x.1]
theorem enumF (f : List (List (Int × Int))) : enumD (f.map encR) = f.zipIdx.map encE := by
  unfold enumD encE
  rw [List.zipIdx_map, List.map_map]
  rfl
def wkAt (s : Sy) (i : Nat) : Wk := (s.works[i]?).getD ⟨0, [], []⟩
def stepF (s : Sy) (a b : Int) (z : Int × List Int) (x : List (Int × Int) × Nat) : Int × List Int :=
  if x.1.all (withinF (wkAt s x.2) a b) = true then (z.1 + (wkAt s x.2).len, z.2 ++ x.1.map (·.2)) else z
def standF (s : Sy) (f : List (List (Int × Int))) (a b : Int) : Int × List Int := f.zipIdx.foldl (stepF s a b) (0, [])
def handAt (s : Sy) (h : Int) : List Int := (atI s.hands h).getD []
def sumF (s : Sy) (hs : List Int) (a b : Int) : Int := (((rangeI 0 s.hands.length).filter fun h => hs.any (· == h)).map fun h => givenF (handAt s h) a b).sum
def fullF (s : Sy) (f : List (List (Int × Int))) (a b : Int) : Bool := decide (sumF s (standF s f a b).2 a b < (standF s f a b).1)
structure FieldOk (s : Sy) (f : List (List (Int × Int))) : Prop where
  len : f.length ≤ s.works.length
  few : s.works.length ≤ 1000
  row : ∀ r ∈ f, r.length ≤ 10000
  hands : s.hands.length ≤ 1000
theorem zip_at {α : Type} {f : List α} {x : α × Nat} (h : x ∈ f.zipIdx) : x.2 < f.length ∧ x.1 ∈ f := by
  obtain ⟨h1, h2⟩ := List.mem_zipIdx' h
  exact ⟨h1, by rw [h2]; exact List.getElem_mem h1⟩
def S_p_is_full : DL.Spec := ⟨4, Sy × List (List (Int × Int)) × Int × Int, fun (s, f, a, b) => [s.d, encF f, .int a, .int b], fun (s, f, a, b) _ => FieldOk s f ∧ 0 ≤ a ∧ a ≤ 1000 ∧ 0 ≤ b ∧ b ≤ 1000, fun (s, f, a, b) st d st' => st' = st ∧ d = .bl (fullF s f a b)⟩
def w_p_is_full_1 : DS := wIf (wTest (wCall S_p_is_within (wCons (wVar 0) (wCons (wVar 6) (wCons (wVar 7) (wCons (wVar 2) (wCons (wVar 3) (wNil)))))))) (wSeq (wAug 4 (dI T2 fun i j => .int (i + j)) (wOp dIx (wOp dIx (wOp dIx (wVar 0) (wC (.int 2))) (wVar 6)) (wC (.int 0)))) (wDrop (wM mExtend (wVar 5) (wCons (wComp false (iSeq (wVar 7)) (.tp [8, 9]) wYes (wVar 9) [8, 9]) (wNil))))) ((fun D env st => D.nx env st))
def w_p_is_full_2 : DT := wTest (wOp dIn (wVar 9) (wVar 5))
def w_p_is_full_3 : DE := wCall S_p_given_days (wCons (wVar 0) (wCons (wVar 9) (wCons (wVar 2) (wCons (wVar 3) (wNil)))))
def w_p_is_full : DS := wSeq (wAsg (wC (.int 0)) (gNm 4)) (wSeq (wAsg (wLst true (wNil)) (gNm 5)) (wSeq (wFor (iEnum (wVar 1)) (gTp 2 (gCn (gNm 6) (gCn (gNm 7) gNl))) w_p_is_full_1) (wRet (wOp dGt (wVar 4) (wCB bSum (wCons (wComp false (iRange1 (wCons (wCB bLen (wCons (wOp dIx (wVar 0) (wC (.int 1))) (wNil))) (wNil))) (.nm 9) w_p_is_full_2 w_p_is_full_3 [9]) (wNil)))))))
theorem vc_p_is_full : ∀ g sto, (S_p_is_full.args g).length = S_p_is_full.n → S_p_is_full.pre g sto → w_p_is_full (bodyEnds (popEnds sto.length sto (S_p_is_full.post g sto))) (startE ["system", "field", "first", "last", "wanted", "standing", "work", "row", "begin", "hand"] (S_p_is_full.args g)) sto := by
  rintro ⟨s, f, a, b⟩ sto _ ⟨fo, a0, a1, b0, b1⟩
  have fl := fo.len
  have ff := fo.few
  simp? only [w_p_is_full, S_p_is_full, encF, wFor]
  rw [enumF]
  refine ⟨Nat.zero_le _, ?_⟩
  refine forL_fold encE (stepF s a b) (fun k z e st => ∃ x6 x7, e = [some s.d, some (.tup (f.map encR)), some (.int a), some (.int b), some (.int z.1), some (.ref sto.length), x6, x7, none, none] ∧ st = sto ++ [.lst (z.2.map .int)] ∧ z.2.length ≤ k * 10000) _ (0, []) _ _ ?_ ?_ ⟨_, _, rfl, rfl, Nat.le_refl _⟩
  · rintro k z x e st hk hx ⟨x6, x7, rfl, rfl, hl⟩ R hR
    obtain ⟨hx1, hx2⟩ := zip_at hx
    rw [List.length_zipIdx] at hk
    refine ⟨trivial, ?_⟩
    have hw : s.works[x.2]? = some (wkAt s x.2) := by
      have : x.2 < s.works.length := by omega
      unfold wkAt
      rw [List.getElem?_eq_getElem this]
      rfl
    have hwi : atI s.works (x.2 : Int) = some (wkAt s x.2) := atI_of (by omega) (by rw [Int.toNat_natCast]; exact hw)
    have hr := fo.row _ hx2
    unfold stepF at hR
    simp? only [encE, w_p_is_full_1]
    refine within_use ⟨hwi, by omega⟩ ?_
    (try simp? only [true_and])
    by_cases hc : x.1.all (withinF (wkAt s x.2) a b) = true
    · simp only [hc, if_true] at hR ⊢
      simp? only [wAug, encR, wComp, wipeE]
      refine ⟨_, rfl, _, atI_map hwi, ?_⟩
      simp? only [rd_ref' (get_last _ _)]
      refine ⟨by rw [sizeLine_eq]; omega, compL_map encP (fun p => some (.int p.2)) trivial _ [] (fun p hp R2 hR2 => ?_) ?_⟩
      · show (Tg.tp [8, 9]).dg (.tup [.int p.1, .int p.2]) _ _ _
        simp? only [Tg.dg, List.foldr_cons, List.foldr_nil, wYes]
        exact hR2
      · have e : x.1.filterMap (fun p => some (D.int p.2)) = (x.1.map (·.2)).map D.int := by
          rw [List.map_map]; exact congrFun (List.filterMap_eq_map (f := D.int ∘ fun p : Int × Int => p.2)) _
        have lz : (z.2 ++ x.1.map (·.2)).length ≤ (k + 1) * 10000 := by rw [List.length_append, List.length_map]; omega
        rw [List.nil_append, e]
        refine ⟨_, _, _, _, rfl, rfl, get_last _ _, rfl, ?_, ?_⟩
        · rw [List.length_map, List.length_map, List.length_map, sizeLine_eq]; omega
        · rw [set_last, ← List.map_append]
          exact hR _ _ ⟨_, _, rfl, rfl, lz⟩
    · simp? only [hc] at hR ⊢
      exact hR _ _ ⟨_, _, rfl, rfl, by omega⟩
  · rintro e st ⟨x6, x7, rfl, rfl, hl⟩
    refine ⟨trivial, ?_⟩
    rw [List.length_zipIdx] at hl
    have hh := fo.hands
    simp? only [wComp, wipeE, rangeD_len]
    refine ⟨⟨by omega, by omega⟩, by rw [sizeLine_eq]; omega, ?_⟩
    rw [rangeD_eq]
    refine compL_map D.int (fun h => if (standF s f a b).2.any (· == h) = true then some (.int (givenF (handAt s h) a b)) else none) trivial _ [] (fun h hm R hR => ?_) ?_
    · have hR' := ite_step hR
      have hb := mem_rangeI.mp hm
      obtain ⟨row, hrow, _⟩ := pick (xs := s.hands) (i := h) (by omega) (by omega)
      have er : handAt s h = row := by unfold handAt; rw [hrow]; rfl
      simp? only [Tg.dg, w_p_is_full_2, w_p_is_full_3]
      refine v_inL (rd_ref' (get_last _ _)) ⟨_, rfl, ?_⟩
      rw [er] at hR'
      split
      · rename_i hc
        rw [show (standF s f a b).2 = (f.zipIdx.foldl (stepF s a b) (0, [])).2 from rfl, if_pos hc] at hR'
        exact given_use ⟨hrow, a0, a1, b0, b1⟩ hR'
      · rename_i hc
        rw [show (standF s f a b).2 = (f.zipIdx.foldl (stepF s a b) (0, [])).2 from rfl, if_neg hc] at hR'
        exact hR'
    · have e := fm_filter (enc := fun h => D.int (givenF (handAt s h) a b)) (fun h => (standF s f a b).2.any (· == h)) (rangeI 0 s.hands.length)
      rw [List.nil_append, Int.toNat_natCast, e]
      have e2 : ((rangeI 0 s.hands.length).filter fun h => (standF s f a b).2.any (· == h)).map (fun h => D.int (givenF (handAt s h) a b)) = (((rangeI 0 s.hands.length).filter fun h => (standF s f a b).2.any (· == h)).map fun h => givenF (handAt s h) a b).map D.int := by
        rw [List.map_map]; rfl
      rw [e2]
      simp? only [v_sum]
      exact ⟨sto, _, rfl, rfl, rfl, fun i c h => .inl h, rfl, rfl⟩
def Good (s : Sy) : Prop := s.Ok 900 100 100 900 100
theorem good_of {s : Sy} {a b c l e : Int} (o : s.Ok a b c l e) (ha : a ≤ 900) (hb : b ≤ 100) (hc : c ≤ 100) (hl : l ≤ 900) (he : e ≤ 100) : Good s :=
  ⟨by have := o.days; omega, by have := o.hands; omega, o.rows, by have := o.works; omega, fun i w h => by have := o.work i w h; exact ⟨by have := this.len; omega, this.ahead, this.able, this.any⟩, by have := o.wishes; omega, o.wish⟩
def wholeF (s : Sy) : List (List (Int × Int)) := s.works.map (waysF s)
def w_f_law_whole_1 : DE := wCall S_f_law_ways (wCons (wVar 0) (wCons (wVar 1) (wNil)))
def w_f_law_whole : DS := wRet (wCB bTuple (wCons (wComp false (iRange1 (wCons (wCB bLen (wCons (wOp dIx (wVar 0) (wC (.int 2))) (wNil))) (wNil))) (.nm 1) wYes w_f_law_whole_1 [1]) (wNil)))
def S_f_law_whole : DL.Spec := pureS 1 (fun s : Sy => [s.d]) Good (fun s => encF (wholeF s))
theorem idx_map {α β : Type} (f : α → β) (d : α) (xs : List α) : ((rangeI 0 xs.length).map fun i => f ((xs[i.toNat]?).getD d)) = xs.map f := by
  refine List.ext_getElem? fun i => ?_
  rw [List.getElem?_map, List.getElem?_map]
  unfold rangeI
  rw [List.getElem?_map]
  by_cases h : i < xs.length
  · rw [List.getElem?_range h]
    simp only [Option.map_some, Int.zero_add, Int.toNat_natCast, List.getElem?_eq_getElem h, Option.getD_some]
  · rw [List.getElem?_eq_none (by rw [List.length_range]; omega), List.getElem?_eq_none (by omega)]
    rfl
theorem vc_f_law_whole : ∀ g sto, (S_f_law_whole.args g).length = S_f_law_whole.n → S_f_law_whole.pre g sto → w_f_law_whole (bodyEnds (S_f_law_whole.post g sto)) (startE ["_law_system_here", "_law_work_here"] (S_f_law_whole.args g)) sto := by
  rintro (s : Sy) sto _ (hs : Good s)
  have hw := hs.works
  simp? only [w_f_law_whole, S_f_law_whole, pureS, wComp, wipeE]
  refine ⟨⟨by omega, by omega⟩, by rw [rangeD_len, sizeLine_eq]; omega, ?_⟩
  rw [rangeD_eq]
  refine compL_all D.int (fun i => waysF s ((s.works[i.toNat]?).getD ⟨0, [], []⟩)) encR trivial _ (fun i hi R hR => ?_) ?_
  · have hb := mem_rangeI.mp hi
    obtain ⟨j, rfl⟩ : ∃ j : Nat, i = j := ⟨i.toNat, by omega⟩
    obtain ⟨w, pw, ow⟩ := preWays_of hs (by omega) (by omega) (by omega) (i := j) (by omega)
    simp? only [Tg.dg, wYes, w_f_law_whole_1]
    refine lways_use pw ?_
    have e : s.works[j]? = some w := by
      have h := pw.1
      obtain ⟨v, h1, _⟩ := pick (xs := s.works) (i := (j : Int)) (by omega) (by omega)
      have h2 := atI_of (xs := s.works) (i := (j : Int)) (by omega) (by rw [Int.toNat_natCast]; exact List.getElem?_eq_getElem (show j < s.works.length by omega))
      rw [h] at h2
      cases h2
      exact List.getElem?_eq_getElem _
    rw [Int.toNat_natCast, e] at hR
    exact hR
  · rw [Int.toNat_natCast, idx_map]
    simp? only [true_and]
    rfl
abbrev S30 (s : Sy) : Prop := s.Ok 30 5 100 900 100
theorem s30_of {s : Sy} {a b c l e : Int} (o : s.Ok a b c l e) (ha : a ≤ 30) (hb : b ≤ 5) (hc : c ≤ 100) (hl : l ≤ 900) (he : e ≤ 100) : S30 s :=
  ⟨by have := o.days; omega, by have := o.hands; omega, o.rows, by have := o.works; omega, fun i w h => by have := o.work i w h; exact ⟨by have := this.len; omega, this.ahead, this.able, this.any⟩, by have := o.wishes; omega, o.wish⟩
structure SubF (f g : List (List (Int × Int))) : Prop where
  len : f.length = g.length
  sub : ∀ (i : Nat) r, f[i]? = some r → ∃ r', g[i]? = some r' ∧ r.Sublist r'
theorem SubF.refl (f : List (List (Int × Int))) : SubF f f := ⟨rfl, fun i r h => ⟨r, h, .refl _⟩⟩
theorem SubF.trans {f g h : List (List (Int × Int))} (a : SubF f g) (b : SubF g h) : SubF f h :=
  ⟨a.len.trans b.len, fun i r e => by obtain ⟨r1, e1, s1⟩ := a.sub i r e; obtain ⟨r2, e2, s2⟩ := b.sub i r1 e1; exact ⟨r2, e2, s1.trans s2⟩⟩
theorem SubF.nil : SubF [] [] := ⟨rfl, fun _ _ h => by simp at h⟩
theorem SubF.snoc {f g : List (List (Int × Int))} {r r' : List (Int × Int)} (a : SubF f g) (b : r.Sublist r') : SubF (f ++ [r]) (g ++ [r']) := by
  refine ⟨by rw [List.length_append, List.length_append, a.len]; rfl, fun i x h => ?_⟩
  by_cases hi : i < f.length
  · rw [List.getElem?_append_left hi] at h
    rw [List.getElem?_append_left (by rw [← a.len]; exact hi)]
    exact a.sub i x h
  · rw [List.getElem?_append_right (by omega)] at h
    rw [List.getElem?_append_right (by rw [← a.len]; omega), ← a.len]
    have e0 : i - f.length = 0 := by
      have := (List.getElem?_eq_some_iff.mp h).1
      rw [List.length_singleton] at this
      omega
    rw [e0] at h ⊢
    cases h
    exact ⟨r', rfl, b⟩
theorem take_snoc {α : Type} {xs : List α} {i : Nat} {x : α} (h : xs[i]? = some x) : xs.take (i + 1) = xs.take i ++ [x] := by
  rw [List.take_add_one, h]; rfl
/-- a field of ways of a system's works -/
def FieldOf (s : Sy) (f : List (List (Int × Int))) : Prop := SubF f (wholeF s)
theorem mem_field {s : Sy} {f : List (List (Int × Int))} (h : FieldOf s f) {i : Nat} {r : List (Int × Int)} (hr : f[i]? = some r) : ∃ w, s.works[i]? = some w ∧ r.Sublist (waysF s w) := by
  obtain ⟨r', h1, h2⟩ := h.sub i r hr
  unfold wholeF at h1
  rw [List.getElem?_map] at h1
  cases e : s.works[i]? with
  | none => rw [e] at h1; cases h1
  | some w => rw [e] at h1; cases h1; exact ⟨w, rfl, h2⟩
theorem fieldOk_of {s : Sy} (hs : s.Ok 30 5 100 900 100) {f : List (List (Int × Int))} (h : FieldOf s f) : FieldOk s f := by
  have e : (wholeF s).length = s.works.length := by unfold wholeF; rw [List.length_map]
  refine ⟨by rw [h.len, e]; exact Nat.le_refl _, by have := hs.works; omega, fun r hr => ?_, by have := hs.hands; omega⟩
  obtain ⟨i, hi, rfl⟩ := List.getElem_of_mem hr
  obtain ⟨w, hw, hsub⟩ := mem_field h (List.getElem?_eq_getElem hi)
  have ow := hs.work i w hw
  have hl := waysL_len s w
  have h2 := ow.able.len
  have h3 := ow.len
  have h4 := hs.days
  have h5 := hs.hands
  have hm : (s.days - w.len + 1).toNat * w.able.length ≤ 30 * 5 := Nat.mul_le_mul (by omega) (by omega)
  have := hsub.length_le
  omega
def w_f_law_some_1 : DT := wOr (wTest (wOp dEq (wVar 2) (wC (.int 0)))) (wTest (wOp dGt (wOp dMod (wCall S_f_law_next (wCons (wVar 0) (wNil))) (wOp dIx (wLst false (wCons (wC (.int 1)) (wCons (wC (.int 2)) (wCons (wC (.int 3)) (wNil))))) (wVar 2))) (wC (.int 0))))
def w_f_law_some_2 : DE := wOp dIx (wVar 4) (wVar 6)
def w_f_law_some_3 : DS := wSeq (wAsg (wComp false (iRange1 (wCons (wCB bLen (wCons (wVar 4) (wNil))) (wNil))) (.nm 6) w_f_law_some_1 (wVar 6) [6]) (gNm 5)) (wDrop (wM mAppend (wVar 3) (wCons (wCB bTuple (wCons (wComp false (iSeq (wVar 5)) (.nm 6) wYes w_f_law_some_2 [6]) (wNil))) (wNil))))
def w_f_law_some : DS := wSeq (wAsg (wOp dMod (wCall S_f_law_next (wCons (wVar 0) (wNil))) (wC (.int 3))) (gNm 2)) (wSeq (wAsg (wLst true (wNil)) (gNm 3)) (wSeq (wFor (iSeq (wVar 1)) (gNm 4) w_f_law_some_3) (wRet (wCB bTuple (wCons (wVar 3) (wNil))))))
def fewR (f : List (List (Int × Int))) : Prop := f.length ≤ 100 ∧ ∀ r ∈ f, r.length ≤ 100000
def S_f_law_some : DL.Spec := deckS 2 20000000 (fun f => [encF f]) fewR fun f d => ∃ f', d = encF f' ∧ SubF f' f
theorem blw_encF (n : Nat) (f : List (List (Int × Int))) : (encF f).blw n = true := by
  have h : ∀ fs : List (List (Int × Int)), D.blwL n (fs.map encR) = true := fun fs => by
    induction fs with
    | nil => rfl
    | cons r fs ih => rw [List.map_cons]; simp only [D.blwL, encR, D.blw, blw_encP, ih, Bool.and_self]
  unfold encF; simp only [D.blw, h]
theorem vc_f_law_some : ∀ g sto, (S_f_law_some.args g).length = S_f_law_some.n → S_f_law_some.pre g sto → w_f_law_some (bodyEnds (popEnds sto.length sto (S_f_law_some.post g sto))) (startE ["_law_deck_here", "_law_field", "_law_way", "_law_found", "_law_row", "_law_one", "_law_k"] (S_f_law_some.args g)) sto := by
  rintro ⟨rest, B, f⟩ sto _ ⟨hD, hB, hf⟩
  have hD0 := hD
  dsimp only at hD0 hD hB hf
  simp? only [w_f_law_some, S_f_law_some, deckS, wFor, encF]
  refine next_use hD (by omega) fun x st x0 x1 hD => ?_
  simp? only [hD.len]
  have hx : x % 3 = 0 ∨ x % 3 = 1 ∨ x % 3 = 2 := by omega
  generalize x % 3 = m at hx
  refine ⟨by decide, Nat.zero_le _, ?_⟩
  refine forL_inv (fun i e st => ∃ x4 x5 f', e = [some (.ref 2), some (encF f), some (.int m), some (.ref (rest.length + 3)), x4, x5, none] ∧ SubF f' (f.take i) ∧ Dk (B + 1 + i * 100000) (rest ++ [.lst (f'.map encR)]) st) ?_ ?_ _ _ ⟨_, _, [], rfl, by rw [List.take_zero]; exact .nil, hD.push.mono (by omega)⟩
  · rintro i e st d ⟨x4, x5, f', rfl, hS, hD⟩ he R hR
    rw [List.getElem?_map] at he
    cases hr : f[i]? with
    | none => rw [hr] at he; cases he
    | some r =>
      rw [hr] at he
      cases he
      have hil := (List.getElem?_eq_some_iff.mp hr).1
      have hfl := hf.1
      have hrl := hf.2 r (List.mem_of_getElem? hr)
      refine ⟨trivial, ?_⟩
      simp? only [w_f_law_some_3, wComp, wipeE, encR, rangeD_len]
      refine ⟨⟨by omega, by omega⟩, by rw [sizeLine_eq]; omega, ?_⟩
      refine compL_inv (fun j st acc => ∃ ks : List Int, acc = ks.map D.int ∧ Row j ks ∧ Dk (B + 1 + i * 100000 + j) (rest ++ [.lst (f'.map encR)]) st) ?_ ?_ _ _ ⟨[], rfl, ⟨.nil, fun _ h => (nomatch h)⟩, hD.mono (by omega)⟩
      · rintro j st acc d ⟨ks, rfl, hk, hD⟩ he R hR
        obtain ⟨hj, rfl⟩ := rangeD_at he
        have yes : ∀ s, Dk (B + 1 + i * 100000 + ((j + 1 : Nat) : Int)) (rest ++ [.lst (f'.map encR)]) s → R s (ks.map D.int ++ [.int (0 + (j : Int))]) := fun s hd' => by
          refine hR _ _ ⟨ks ++ [(j : Int)], by simp, ⟨?_, ?_⟩, hd'⟩
          · rw [List.pairwise_append]
            refine ⟨hk.1, List.pairwise_singleton .., fun a ha b hb => ?_⟩
            rw [List.mem_singleton] at hb
            have := (hk.2 a ha).2
            omega
          · intro y hy
            rcases List.mem_append.mp hy with z | z
            · have := hk.2 y z; omega
            · rw [List.mem_singleton] at z; omega
        have no : ∀ s, Dk (B + 1 + i * 100000 + ((j + 1 : Nat) : Int)) (rest ++ [.lst (f'.map encR)]) s → R s (ks.map D.int) := fun s hd' => hR _ _ ⟨ks, rfl, ⟨hk.1, fun y hy => by have := hk.2 y hy; omega⟩, hd'⟩
        simp? only [Tg.dg, w_f_law_some_1]
        by_cases h0 : (m == 0) = true
        · rw [if_pos h0]; exact yes _ (hD.mono (by omega))
        · rw [if_neg h0]
          refine next_use hD (by omega) fun y st' y0 y1 hD => ?_
          have hp : ∃ q : Int, atI [D.int 1, .int 2, .int 3] m = some (.int q) ∧ 0 < q := by
            rcases hx with e | e | e
            · exact ⟨1, by rw [e]; rfl, by decide⟩
            · exact ⟨2, by rw [e]; rfl, by decide⟩
            · exact ⟨3, by rw [e]; rfl, by decide⟩
          obtain ⟨q, hq, q0⟩ := hp
          simp? only [hq]
          refine ⟨by decide, q0, ?_⟩
          by_cases hc : 0 < y % q
          · rw [if_pos (by simpa using hc)]; exact yes _ (hD.mono (by omega))
          · rw [if_neg (by simpa using hc)]; exact no _ (hD.mono (by omega))
      · rintro st acc ⟨ks, rfl, hk, hD⟩
        rw [rangeD_len] at hk hD
        rw [Int.toNat_natCast] at hk hD
        refine ⟨trivial, ?_⟩
        have hkl := hk.len
        simp? only [rd_ref' hD.top]
        refine ⟨by rw [sizeLine_eq]; omega, ?_⟩
        refine compL_all D.int (fun k => r.getD (k - 0).toNat (0, 0)) encP trivial _ (fun k hk' R hR => ?_) ?_
        · have hb := hk.2 k hk'
          simp? only [Tg.dg, wYes, w_f_law_some_2]
          refine ⟨_, atI_map (atI_of hb.1 (List.getElem?_eq_getElem (by omega))), ?_⟩
          rw [Int.sub_zero, List.getD_eq_getElem?_getD, List.getElem?_eq_getElem (by omega)] at hR
          exact hR
        · have hs := sub_at ((0 : Int), (0 : Int)) r 0 ks hk.1 fun k hk' => by have := hk.2 k hk'; omega
          generalize (ks.map fun k => r.getD (k - 0).toNat ((0 : Int), (0 : Int))) = r' at hs
          have hfl' := hS.len
          rw [List.length_take] at hfl'
          simp? only [v_app hD.top]
          refine ⟨by rw [sizeLine_eq]; omega, hR _ _ ⟨_, _, f' ++ [r'], rfl, ?_, ?_⟩⟩
          · rw [take_snoc hr]; exact hS.snoc hs
          · rw [List.map_append]
            exact hD.put.mono (by omega)
  · rintro e st ⟨x4, x5, f', rfl, hS, hD⟩
    rw [List.length_map] at hS hD
    refine ⟨trivial, ?_⟩
    simp? only [v_tupL (rd_ref' hD.top)]
    have := hf.1
    refine dk_pop hD0 hD (blw_encF _ f') fun st1 h1 => ⟨⟨f', rfl, ?_⟩, h1.mono (by omega)⟩
    rw [List.take_length] at hS
    exact hS
theorem fewR_of {s : Sy} (hs : s.Ok 30 5 100 900 100) {f : List (List (Int × Int))} (h : FieldOf s f) : fewR f := by
  have hfo := fieldOk_of hs h
  exact ⟨by have := hfo.len; have := hs.works; omega, fun r hr => by have := hfo.row r hr; omega⟩
def behF (one : Int) (w1 w2 : Wk) (p q : Int × Int) : Bool := if w2.ahead.any (· == one) = true then decide (q.1 < p.1 + w1.len) else false
def S_p_is_behind : DL.Spec := ⟨5, Sy × Int × (Int × Int) × Int × (Int × Int) × Wk × Wk, fun (s, i, p, j, q, _) => [s.d, .int i, encP p, .int j, encP q], fun (s, i, _, j, _, w1, w2) _ => atI s.works i = some w1 ∧ atI s.works j = some w2, fun (_, i, p, _, q, w1, w2) st d st' => st' = st ∧ d = .bl (behF i w1 w2 p q)⟩
def w_p_is_behind : DS := wRet (wAndV (wOp dIn (wVar 1) (wOp dIx (wOp dIx (wOp dIx (wVar 0) (wC (.int 2))) (wVar 3)) (wC (.int 1)))) (wOp dLt (wOp dIx (wVar 4) (wC (.int 0))) (wCall S_p_end_of (wCons (wVar 0) (wCons (wVar 1) (wCons (wVar 2) (wNil)))))))
theorem vc_p_is_behind : ∀ g sto, (S_p_is_behind.args g).length = S_p_is_behind.n → S_p_is_behind.pre g sto → w_p_is_behind (bodyEnds (S_p_is_behind.post g sto)) (startE ["system", "one", "way", "other", "other_way"] (S_p_is_behind.args g)) sto := by
  rintro ⟨s, i, p, j, q, w1, w2⟩ sto _ ⟨h1, h2⟩
  simp? only [w_p_is_behind, S_p_is_behind, p_ix0]
  refine ⟨_, atI_map h2, ?_⟩
  (try simp? only [true_and])
  refine v_inI ?_
  simp? only [behF]
  by_cases ha : w2.ahead.any (· == i) = true
  · simp? only [ha, p_ix0]
    refine end_use h1 ?_
    simp? only [ha]
  · simp? only [ha]
theorem beh_use {s : Sy} {i j : Int} {p q : Int × Int} {w1 w2 : Wk} {st : Sto} {Q : DK} (h1 : atI s.works i = some w1) (h2 : atI s.works j = some w2) (k : Q (.bl (behF i w1 w2 p q)) st) :
    ∃ g, [s.d, .int i, encP p, .int j, encP q] = S_p_is_behind.args g ∧ (S_p_is_behind.args g).length = S_p_is_behind.n ∧ S_p_is_behind.pre g st ∧ ∀ d s2, S_p_is_behind.post g st d s2 → Q d s2 :=
  ⟨(s, i, p, j, q, w1, w2), rfl, rfl, ⟨h1, h2⟩, fun d s2 ⟨e1, e2⟩ => by subst e1; subst e2; exact k⟩
def clF (i j : Int) (w1 w2 : Wk) (p q : Int × Int) : Bool := (p.2 == q.2 && decide (p.1 < q.1 + w2.len) && decide (q.1 < p.1 + w1.len)) || behF i w1 w2 p q || behF j w2 w1 q p
def S_p_clash : DL.Spec := ⟨5, Sy × Int × (Int × Int) × Int × (Int × Int) × Wk × Wk, fun (s, i, p, j, q, _) => [s.d, .int i, encP p, .int j, encP q], fun (s, i, _, j, _, w1, w2) _ => atI s.works i = some w1 ∧ atI s.works j = some w2, fun (_, i, p, j, q, w1, w2) st d st' => st' = st ∧ d = .bl (clF i j w1 w2 p q)⟩
def w_p_clash : DS := wSeq (wIf (wAnd (wTest (wOp dEq (wOp dIx (wVar 2) (wC (.int 1))) (wOp dIx (wVar 4) (wC (.int 1))))) (wAnd (wTest (wOp dLt (wOp dIx (wVar 2) (wC (.int 0))) (wCall S_p_end_of (wCons (wVar 0) (wCons (wVar 3) (wCons (wVar 4) (wNil))))))) (wTest (wOp dLt (wOp dIx (wVar 4) (wC (.int 0))) (wCall S_p_end_of (wCons (wVar 0) (wCons (wVar 1) (wCons (wVar 2) (wNil))))))))) (wRet (wC (.bl true))) ((fun D env st => D.nx env st))) (wRet (wOrV (wCall S_p_is_behind (wCons (wVar 0) (wCons (wVar 1) (wCons (wVar 2) (wCons (wVar 3) (wCons (wVar 4) (wNil))))))) (wCall S_p_is_behind (wCons (wVar 0) (wCons (wVar 3) (wCons (wVar 4) (wCons (wVar 1) (wCons (wVar 2) (wNil)))))))))
theorem vc_p_clash : ∀ g sto, (S_p_clash.args g).length = S_p_clash.n → S_p_clash.pre g sto → w_p_clash (bodyEnds (S_p_clash.post g sto)) (startE ["system", "one", "way", "other", "other_way"] (S_p_clash.args g)) sto := by
  rintro ⟨s, i, p, j, q, w1, w2⟩ sto _ ⟨h1, h2⟩
  have tail : ∀ Q : DK, (¬(p.2 = q.2 ∧ p.1 < q.1 + w2.len ∧ q.1 < p.1 + w1.len)) → Q (.bl (clF i j w1 w2 p q)) sto → wOrV (wCall S_p_is_behind (wCons (wVar 0) (wCons (wVar 1) (wCons (wVar 2) (wCons (wVar 3) (wCons (wVar 4) (wNil))))))) (wCall S_p_is_behind (wCons (wVar 0) (wCons (wVar 3) (wCons (wVar 4) (wCons (wVar 1) (wCons (wVar 2) (wNil)))))))
      [some s.d, some (.int i), some (encP p), some (.int j), some (encP q)] sto Q := fun Q hn hQ => by
    have e : (p.2 == q.2 && decide (p.1 < q.1 + w2.len) && decide (q.1 < p.1 + w1.len)) = false := by
      rw [Bool.eq_false_iff]
      intro h
      simp only [Bool.and_eq_true, beq_iff_eq, decide_eq_true_eq] at h
      exact hn ⟨h.1.1, h.1.2, h.2⟩
    unfold clF at hQ
    rw [e, Bool.false_or] at hQ
    simp? only [true_and]
    refine beh_use h1 h2 ?_
    by_cases hb : behF i w1 w2 p q = true
    · rw [hb, Bool.true_or] at hQ
      simp? only [hb]
      exact hQ
    · rw [Bool.not_eq_true] at hb
      rw [hb, Bool.false_or] at hQ
      simp? only [hb]
      exact beh_use h2 h1 hQ
  have tl : (¬(p.2 = q.2 ∧ p.1 < q.1 + w2.len ∧ q.1 < p.1 + w1.len)) → _ := fun hn => tail (fun d s => s = sto ∧ d = .bl (clF i j w1 w2 p q)) hn ⟨rfl, rfl⟩
  simp? only [true_and] at tl
  simp? only [w_p_clash, S_p_clash, p_ix0, p_ix1]
  by_cases a1 : p.2 = q.2
  · simp? only [a1, beq_self_eq_true, p_ix0]
    refine end_use h2 ?_
    by_cases a2 : p.1 < q.1 + w2.len
    · simp? only [a2, decide_true, p_ix0]
      refine end_use h1 ?_
      by_cases a3 : q.1 < p.1 + w1.len
      · simp? only [a3, decide_true, p_ix0]
        unfold clF
        simp only [a1, a2, a3, beq_self_eq_true, decide_true, Bool.and_self, Bool.true_or]
      · simp? only [a3, decide_false]
        exact tl fun h => a3 h.2.2
    · simp? only [a2, decide_false]
      exact tl fun h => a2 h.2.1
  · have e : (p.2 == q.2) = false := by simpa using a1
    simp? only [e]
    exact tl fun h => a1 h.1
theorem clash_use {s : Sy} {i j : Int} {p q : Int × Int} {w1 w2 : Wk} {st : Sto} {Q : DK} (h1 : atI s.works i = some w1) (h2 : atI s.works j = some w2) (k : Q (.bl (clF i j w1 w2 p q)) st) :
    ∃ g, [s.d, .int i, encP p, .int j, encP q] = S_p_clash.args g ∧ (S_p_clash.args g).length = S_p_clash.n ∧ S_p_clash.pre g st ∧ ∀ d s2, S_p_clash.post g st d s2 → Q d s2 :=
  ⟨(s, i, p, j, q, w1, w2), rfl, rfl, ⟨h1, h2⟩, fun d s2 ⟨e1, e2⟩ => by subst e1; subst e2; exact k⟩
theorem cl_sym {i j : Int} {w1 w2 : Wk} {p q : Int × Int} : clF j i w2 w1 q p = clF i j w1 w2 p q := by
  unfold clF
  have e : (q.2 == p.2) = (p.2 == q.2) := Bool.beq_comm
  rw [e]
  cases (p.2 == q.2) <;> cases behF i w1 w2 p q <;> cases behF j w2 w1 q p <;> cases decide (q.1 < p.1 + w1.len) <;> cases decide (p.1 < q.1 + w2.len) <;> rfl
abbrev P2 := Int × Int
def isSq (st : Sto) (a : D) (ds : List D) : Prop := rd st a = .lst ds ∨ rd st a = .tup ds
theorem v_ixQ {st : Sto} {a : D} {ds : List D} {i : Int} {Q : DK} (h : isSq st a ds) : dIx a (.int i) st Q = ∃ d, atI ds i = some d ∧ Q d st := by
  apply propext
  constructor
  · rintro ⟨_, e, q⟩
    cases e
    rcases h with h | h <;> (rw [h] at q; exact q)
  · intro q
    refine ⟨_, rfl, ?_⟩
    rcases h with h | h <;> (rw [h]; exact q)
theorem v_lenQ {st : Sto} {a : D} {ds : List D} {Q : DK} (h : isSq st a ds) : bLen [a] st Q = Q (.int ds.length) st := by
  rcases h with h | h
  · exact v_len (by rw [h]; rfl)
  · exact v_len (by rw [h]; rfl)
theorem cell_of {st : Sto} {n : Nat} {ds : List D} (h : rd st (.ref n) = .lst ds) : st[n]? = some (.lst ds) := by
  cases e : st[n]? with
  | none => simp only [rd, e] at h; cases h
  | some c => cases c with
    | lst es => simp only [rd, e] at h; cases h; rfl
    | dead => simp only [rd, e] at h; cases h
    | ins _ _ => simp only [rd, e] at h; cases h
    | dct _ _ => simp only [rd, e] at h; cases h
theorem seqI_of {st : Sto} {d : D} {ds : List D} {R : GK} (h : rd st d = .lst ds) (q : ∀ G : Sto → Prop, (∀ st', rd st' d = .lst ds → G st') → R ds G st) : seqI d st R := by
  cases d with
  | lst es => cases h; exact q _ fun _ _ => trivial
  | ref n => exact ⟨ds, cell_of h, q _ fun st' h' => cell_of h'⟩
  | _ => cases h
theorem rd_app {st ex : Sto} {d : D} {ds : List D} (h : rd st d = .lst ds) : rd (st ++ ex) d = .lst ds := by
  cases d with
  | ref n =>
    have e := cell_of h
    refine rd_ref' ?_
    rw [List.getElem?_append_left (List.getElem?_eq_some_iff.mp e).1]
    exact e
  | lst es => exact h
  | _ => cases h
theorem cut_take {α : Type} (xs : List α) (i : Nat) : cutL xs none (some (i : Int)) = xs.take i := by
  unfold cutL
  rw [show HT.sIx xs.length 0 none = 0 from rfl, HT.sIx_nat, List.drop_zero, Nat.sub_zero]
  rcases Nat.le_total i xs.length with h | h
  · rw [Nat.min_eq_left h]
  · rw [Nat.min_eq_right h, List.take_of_length_le (by omega), List.take_of_length_le h]
theorem cut_drop {α : Type} (xs : List α) (i : Nat) : cutL xs (some (i : Int)) none = xs.drop i := by
  unfold cutL
  rw [show HT.sIx xs.length xs.length none = xs.length from rfl, HT.sIx_nat]
  rcases Nat.le_total i xs.length with h | h
  · rw [Nat.min_eq_left h, List.take_of_length_le (by rw [List.length_drop]; omega)]
  · rw [Nat.min_eq_right h, Nat.sub_self, List.take_zero, List.drop_of_length_le h]
def putL (ds : List D) (i : Nat) (x : D) : List D := ds.take i ++ x :: ds.drop (i + 1)
theorem putL_set {ds : List D} {i : Nat} {x : D} (h : i < ds.length) : putL ds i x = ds.set i x := by
  unfold putL
  rw [List.set_eq_take_append_cons_drop, if_pos h]
def S_f_law_put : DL.Spec := pureS 3 (fun (x : List D × Nat × D) => [.tup x.1, .int (x.2.1 : Nat), x.2.2]) (fun x => x.2.1 ≤ x.1.length ∧ x.1.length ≤ 1000000) (fun x => .tup (putL x.1 x.2.1 x.2.2))
theorem put_use {ds : List D} {i : Nat} {x : D} {st : Sto} {Q : DK} (h : i < ds.length ∧ ds.length ≤ 1000000) (q : Q (.tup (ds.set i x)) st) :
    ∃ g, [D.tup ds, .int (i : Nat), x] = S_f_law_put.args g ∧ (S_f_law_put.args g).length = S_f_law_put.n ∧ S_f_law_put.pre g st ∧ ∀ d s2, S_f_law_put.post g st d s2 → Q d s2 :=
  ⟨(ds, i, x), rfl, rfl, ⟨by show i ≤ ds.length; omega, h.2⟩, fun d s2 ⟨e, h2⟩ => by subst e; rw [h2]; show Q (.tup (putL ds i x)) _; rw [putL_set h.1]; exact q⟩
theorem putE_use {ds : List D} {i : Nat} {x : D} {st : Sto} {Q : DK} (h : i ≤ ds.length ∧ ds.length ≤ 1000000) (q : Q (.tup (putL ds i x)) st) :
    ∃ g, [D.tup ds, .int (i : Nat), x] = S_f_law_put.args g ∧ (S_f_law_put.args g).length = S_f_law_put.n ∧ S_f_law_put.pre g st ∧ ∀ d s2, S_f_law_put.post g st d s2 → Q d s2 :=
  use_pure (ds, i, x) rfl rfl h q
def w_f_law_put : DS := wRet (wOp dAdd (wOp dAdd (wSl false (wVar 0) oNo (oPart (wVar 1))) (wTup (wCons (wVar 2) (wNil)))) (wSl false (wVar 0) (oPart (wOp dAdd (wVar 1) (wC (.int 1)))) oNo))
theorem vc_f_law_put : ∀ g sto, (S_f_law_put.args g).length = S_f_law_put.n → S_f_law_put.pre g sto → w_f_law_put (bodyEnds (S_f_law_put.post g sto)) (startE ["_law_row", "_law_at", "_law_thing"] (S_f_law_put.args g)) sto := by
  rintro ⟨ds, i, x⟩ sto _ ⟨hi, hl⟩
  dsimp only at hi hl
  have z1 : 1 ≤ sizeLine := by decide
  have e1 : ((i : Int) + 1) = ((i + 1 : Nat) : Int) := by omega
  simp? only [w_f_law_put, S_f_law_put, pureS, v_slT, cut_take, e1, cut_drop]
  refine ⟨z1, ?_, ?_, ?_⟩
  · rw [List.length_take, sizeLine_eq]; omega
  · rw [List.length_append, List.length_take, List.length_drop, sizeLine_eq, List.length_singleton]; omega
  · unfold putL; rw [List.append_assoc]; rfl
def w_f_law_clash : DS := wSeq (wAsg (wOp dAdd (wOp dIx (wVar 2) (wC (.int 0))) (wOp dIx (wOp dIx (wOp dIx (wVar 0) (wC (.int 2))) (wVar 1)) (wC (.int 0)))) (gNm 5)) (wSeq (wAsg (wOp dAdd (wOp dIx (wVar 4) (wC (.int 0))) (wOp dIx (wOp dIx (wOp dIx (wVar 0) (wC (.int 2))) (wVar 3)) (wC (.int 0)))) (gNm 6)) (wSeq (wIf (wAnd (wTest (wOp dEq (wOp dIx (wVar 2) (wC (.int 1))) (wOp dIx (wVar 4) (wC (.int 1))))) (wAnd (wTest (wOp dLt (wOp dIx (wVar 2) (wC (.int 0))) (wVar 6))) (wTest (wOp dLt (wOp dIx (wVar 4) (wC (.int 0))) (wVar 5))))) (wRet (wC (.bl true))) ((fun D env st => D.nx env st))) (wSeq (wIf (wAnd (wTest (wOp dIn (wVar 1) (wOp dIx (wOp dIx (wOp dIx (wVar 0) (wC (.int 2))) (wVar 3)) (wC (.int 1))))) (wTest (wOp dLt (wOp dIx (wVar 4) (wC (.int 0))) (wVar 5)))) (wRet (wC (.bl true))) ((fun D env st => D.nx env st))) (wRet (wAndV (wOp dIn (wVar 3) (wOp dIx (wOp dIx (wOp dIx (wVar 0) (wC (.int 2))) (wVar 1)) (wC (.int 1)))) (wOp dLt (wOp dIx (wVar 2) (wC (.int 0))) (wVar 6)))))))
def S_f_law_clash : DL.Spec := pureS 5 (fun (x : Sy × Int × P2 × Int × P2 × Wk × Wk) => [x.1.d, .int x.2.1, encP x.2.2.1, .int x.2.2.2.1, encP x.2.2.2.2.1]) (fun x => atI x.1.works x.2.1 = some x.2.2.2.2.2.1 ∧ atI x.1.works x.2.2.2.1 = some x.2.2.2.2.2.2) (fun x => .bl (clF x.2.1 x.2.2.2.1 x.2.2.2.2.2.1 x.2.2.2.2.2.2 x.2.2.1 x.2.2.2.2.1))
theorem vc_f_law_clash : ∀ g sto, (S_f_law_clash.args g).length = S_f_law_clash.n → S_f_law_clash.pre g sto → w_f_law_clash (bodyEnds (S_f_law_clash.post g sto)) (startE ["_law_system_here", "_law_one", "_law_way", "_law_other", "_law_other_way", "_law_end", "_law_other_end"] (S_f_law_clash.args g)) sto := by
  rintro ⟨s, i, p, j, q, w1, w2⟩ sto _ ⟨h1, h2⟩
  dsimp only at h1 h2
  simp? only [w_f_law_clash, S_f_law_clash, pureS, p_ix0, p_ix1, atI_map h1, atI_map h2, v_inE]
  have e3 : clF i j w1 w2 p q = ((p.2 == q.2 && decide (p.1 < q.1 + w2.len) && decide (q.1 < p.1 + w1.len)) || (if w2.ahead.any (· == i) = true then decide (q.1 < p.1 + w1.len) else false) || if w1.ahead.any (· == j) = true then decide (p.1 < q.1 + w2.len) else false) := rfl
  rw [e3]
  have r0 : sto = sto := rfl
  generalize w2.ahead.any (· == i) = b1
  generalize w1.ahead.any (· == j) = b2
  by_cases a1 : p.2 = q.2 <;> by_cases a2 : p.1 < q.1 + w2.len <;> by_cases a3 : q.1 < p.1 + w1.len <;> cases b1 <;> cases b2 <;> simp [a1, a2, a3]
def w_f_law_goes_1 : DT := wTest (wCall S_f_law_clash (wCons (wVar 0) (wCons (wVar 4) (wCons (wOp dIx (wVar 1) (wVar 4)) (wCons (wVar 2) (wCons (wVar 3) (wNil)))))))
def w_f_law_goes : DS := wRet (wOp dEq (wComp false (iRange1 (wCons (wCB bLen (wCons (wVar 1) (wNil))) (wNil))) (.nm 4) w_f_law_goes_1 (wVar 4) [4]) (wLst false (wNil)))
def goesF (s : Sy) (ps : List P2) (i : Nat) (p : P2) : Bool := !(rangeI 0 ps.length).any fun k => clF k i (wkAt s k.toNat) (wkAt s i) ((ps[k.toNat]?).getD (0, 0)) p
theorem goes_iff {s : Sy} {ps : List P2} {i : Nat} {p : P2} : goesF s ps i p = true ↔ ∀ (k : Nat) q, ps[k]? = some q → clF k i (wkAt s k) (wkAt s i) q p = false := by
  unfold goesF
  rw [Bool.not_eq_true', List.any_eq_false]
  constructor
  · intro h k q hq
    have hk := (List.getElem?_eq_some_iff.mp hq).1
    have := h (k : Int) (mem_rangeI.mpr (by omega))
    rw [Int.toNat_natCast, hq] at this
    simpa using this
  · intro h k hk
    have hb := mem_rangeI.mp hk
    obtain ⟨j, rfl⟩ : ∃ j : Nat, k = j := ⟨k.toNat, by omega⟩
    have hj : j < ps.length := by omega
    rw [Int.toNat_natCast, List.getElem?_eq_getElem hj]
    have := h j _ (List.getElem?_eq_getElem hj)
    simpa using this
theorem wk_at {s : Sy} {i : Nat} (h : i < s.works.length) : atI s.works (i : Int) = some (wkAt s i) := by
  refine atI_of (by omega) ?_
  rw [Int.toNat_natCast]
  unfold wkAt
  rw [List.getElem?_eq_getElem h]
  rfl
def S_f_law_goes : DL.Spec := ⟨4, Sy × D × List P2 × Nat × P2, fun x => [x.1.d, x.2.1, .int (x.2.2.2.1 : Nat), encP x.2.2.2.2], fun x st => isSq st x.2.1 (x.2.2.1.map encP) ∧ x.2.2.1.length ≤ x.1.works.length ∧ x.2.2.2.1 < x.1.works.length ∧ x.1.works.length ≤ 1000, fun x st d st' => st' = st ∧ d = .bl (goesF x.1 x.2.2.1 x.2.2.2.1 x.2.2.2.2)⟩
theorem vc_f_law_goes : ∀ g sto, (S_f_law_goes.args g).length = S_f_law_goes.n → S_f_law_goes.pre g sto → w_f_law_goes (bodyEnds (S_f_law_goes.post g sto)) (startE ["_law_system", "_law_ways_here", "_law_work_here", "_law_way", "_law_one"] (S_f_law_goes.args g)) sto := by
  rintro ⟨s, a, ps, i, p⟩ sto _ ⟨hq, hp, hi, hs⟩
  dsimp only at hq hp hi hs
  simp? only [w_f_law_goes, S_f_law_goes, wComp, wipeE, v_lenQ hq, rangeD_len, List.length_map]
  refine ⟨⟨by omega, by omega⟩, by rw [sizeLine_eq]; omega, ?_⟩
  rw [rangeD_eq]
  refine compL_flt D.int (fun k => clF k i (wkAt s k.toNat) (wkAt s i) ((ps[k.toNat]?).getD (0, 0)) p) id D.int trivial _ (fun k hk R hR => ?_) ?_
  · have hb := mem_rangeI.mp hk
    obtain ⟨j, rfl⟩ : ∃ j : Nat, k = j := ⟨k.toNat, by omega⟩
    have hj : j < ps.length := by omega
    rw [Int.toNat_natCast, List.getElem?_eq_getElem hj] at hR
    simp? only [Tg.dg, w_f_law_goes_1, v_ixQ hq]
    refine ⟨_, atI_map (atI_of (by omega) (List.getElem?_eq_getElem (show (j : Int).toNat < ps.length by omega))), ?_⟩
    exact use_pure (s, (j : Int), ps[(j : Int).toNat], (i : Int), p, wkAt s j, wkAt s i) rfl rfl ⟨wk_at (s := s) (by omega), wk_at (s := s) hi⟩ ⟨_, rfl, hR⟩
  · simp only [List.map_id, isE_map, isE_filter, v_eqE, wComp, wipeE, wFor, wIsi, iEnum, iZip, zipI_tup, zipI_lst, zipI_lt, zipI_tl, seqJ_tup, seqJ_lst, v_app0, v_app1, v_eqNl, v_eqNt, rd_r0, rd_r1, rd_r2, v_ix0, v_ix1, v_ix2, v_eq0, v_len0, v_len1, v_ex0, v_mulS, wRevA, v_revT, v_revL, wRgL1, wRgL2, wRgT1, wRgT2, v_rgx1, v_rgx2, sy_ix0, sy_ix1, sy_ix2, sy_ix3, sy_sl3, sy_tp, wk_ix0, wk_ix1, wk_ix2, wk_tp, ws_tp, ns_seq, ns_len, ns_ix, ns_rd, sy_rd, wk_rd, ws_rd, wSeq, wAsg, wRet, wIf, wDrop, wOp, wCons, wNil, wTup, wLst, wCB, wCall, wTest, wAnd, wOr, wNot, wNotV, wAndV, wOrV, wChain, wNeg, wC, wM, wSl, oNo, oPart, iSeq, seqI_tup, seqI_lst, seqI_scr, v_rg1, v_rg2, gNm, v_gTp, v_gCn, v_gNl, v_var0, v_varS, v_sub, v_mod, v_fdiv, v_pow, v_iadd, v_add, v_addT, v_addL, v_mul, v_lt, v_le, v_gt, v_ge, v_eqi, v_ixT, v_ixL, v_ixS, v_lenT, v_lenL, v_lenS, v_abs, v_min2, v_max2, v_intI, v_intB, v_tupl, v_tupT, v_bl, v_in, v_some, v_newT, v_newF, startE, rd_int', rd_bl', rd_str', rd_tup', rd_lst', rd_scr', rd_non', at0, at1, at2, at3, at4, List.map_cons, List.map_nil, List.length_cons, List.length_nil, List.length_map, List.replicate_succ, List.replicate_zero, Nat.reduceSub, Nat.reduceAdd, List.cons_append, List.nil_append, List.set_cons_zero, List.set_cons_succ, List.getElem?_cons_zero, List.getElem?_cons_succ, Bool.not_true, Bool.not_false, if_true, if_false, Bool.false_eq_true, reduceCtorEq, true_and, and_true, bodyEnds, Nat.zero_add, decide_eq_true_eq, Int.toNat_natCast]
    exact ⟨Nat.zero_le _, okL_ints _, rfl⟩
def szF (r : List P2) : Int := if (r.length : Int) > 1 then (r.length : Int) else 1
def prodI (ns : List Int) : Int := ns.foldl (fun a b => a * b) 1
def manyF (f : List (List P2)) : Int := prodI (f.map szF)
theorem foldl_mul (ns : List Int) : ∀ a : Int, ns.foldl (fun a b => a * b) a = a * prodI ns := by
  induction ns with
  | nil => intro a; simp [prodI]
  | cons x r ih => intro a; unfold prodI; rw [List.foldl_cons, List.foldl_cons, ih, ih, Int.one_mul, Int.mul_assoc]
theorem prodI_cons (x : Int) (ns : List Int) : prodI (x :: ns) = x * prodI ns := by
  unfold prodI; rw [List.foldl_cons, Int.one_mul, foldl_mul]; rfl
theorem prodI_append (ns ms : List Int) : prodI (ns ++ ms) = prodI ns * prodI ms := by
  unfold prodI; rw [List.foldl_append, foldl_mul]; rfl
theorem prodI_pos : ∀ {ns : List Int}, (∀ n ∈ ns, 1 ≤ n) → 1 ≤ prodI ns
  | [], _ => by decide
  | x :: r, h => by
    rw [prodI_cons]
    have h1 := h x List.mem_cons_self
    have h2 := prodI_pos fun n hn => h n (List.mem_cons_of_mem _ hn)
    have := Int.mul_le_mul h1 h2 (by omega) (by omega)
    omega
theorem szF_pos (r : List P2) : 1 ≤ szF r := by unfold szF; split <;> omega
theorem szF_le (r : List P2) : (r.length : Int) ≤ szF r := by unfold szF; split <;> omega
theorem manyF_pos (f : List (List P2)) : 1 ≤ manyF f := prodI_pos fun n hn => by
  obtain ⟨r, _, rfl⟩ := List.mem_map.mp hn
  exact szF_pos r
theorem manyF_append (f g : List (List P2)) : manyF (f ++ g) = manyF f * manyF g := by unfold manyF; rw [List.map_append, prodI_append]
theorem manyF_take (f : List (List P2)) (i : Nat) : manyF (f.take i) ≤ manyF f := by
  have h : manyF f = manyF (f.take i) * manyF (f.drop i) := by rw [← manyF_append, List.take_append_drop]
  have h1 := manyF_pos (f.take i)
  have h2 := manyF_pos (f.drop i)
  rw [h]
  have := Int.mul_le_mul_of_nonneg_left h2 (show 0 ≤ manyF (f.take i) by omega)
  omega
theorem prodI_le_one : ∀ {ns : List Int}, (∀ n ∈ ns, n = 1) → prodI ns = 1
  | [], _ => rfl
  | x :: r, h => by rw [prodI_cons, h x List.mem_cons_self, prodI_le_one fun n hn => h n (List.mem_cons_of_mem _ hn)]; rfl
def sumL (f : List (List P2)) : Nat := (f.map List.length).sum
theorem sumL_set {f : List (List P2)} {i : Nat} {r r' : List P2} (h : f[i]? = some r) (hr : r'.length < r.length) : sumL (f.set i r') < sumL f ∧ sumL (f.set i r') + r.length = sumL f + r'.length := by
  induction f generalizing i with
  | nil => simp at h
  | cons x f ih =>
    cases i with
    | zero => simp at h; subst h; simp [sumL]; omega
    | succ i =>
      have := ih (i := i) (by simpa using h)
      simp only [List.set_cons_succ, sumL, List.map_cons, List.sum_cons] at this ⊢
      omega
theorem first_of {ns : List Int} {m : Int} (h : m ∈ ns) : ∃ j : Nat, ns[j]? = some m ∧ ∀ (i : Nat) n, i < j → ns[i]? = some n → n ≠ m := by
  induction ns with
  | nil => cases h
  | cons x r ih =>
    by_cases e : x = m
    · exact ⟨0, by rw [e]; rfl, fun i n hi _ => by omega⟩
    · rcases List.mem_cons.mp h with z | z
      · exact absurd z.symm e
      · obtain ⟨j, h1, h2⟩ := ih z
        refine ⟨j + 1, h1, fun i n hi hn => ?_⟩
        cases i with
        | zero => simp at hn; subst hn; exact e
        | succ i => exact h2 i n (by omega) hn
theorem subF_set {f g : List (List P2)} {i : Nat} {r r' : List P2} (h : SubF f g) (hr : f[i]? = some r) (hs : r'.Sublist r) : SubF (f.set i r') g := by
  refine ⟨by rw [List.length_set]; exact h.len, fun k x hx => ?_⟩
  by_cases e : i = k
  · subst e
    rw [List.getElem?_set_self (List.getElem?_eq_some_iff.mp hr).1] at hx
    cases hx
    obtain ⟨r0, h1, h2⟩ := h.sub i r hr
    exact ⟨r0, h1, hs.trans h2⟩
  · rw [List.getElem?_set_ne e] at hx
    exact h.sub k x hx
/-- rows with ways keep one -/
def KeepF (f g : List (List P2)) : Prop := ∀ (i : Nat) r r', f[i]? = some r → g[i]? = some r' → r' ≠ [] → r ≠ []
def w_f_law_few_1 : DE := wCB bMax2 (wCons (wC (.int 1)) (wCons (wCB bLen (wCons (wVar 8) (wNil))) (wNil)))
def w_f_law_few_2 : DS := wAsg (wOp dMul (wVar 4) (wVar 5)) (gNm 4)
def w_f_law_few_3 : DT := wTest (wC (.bl true))
def w_f_law_few_4 : DS := wSeq (wAsg (wComp false (iSeq (wVar 1)) (.nm 8) wYes w_f_law_few_1 [8]) (gNm 3)) (wSeq (wAsg (wC (.int 1)) (gNm 4)) (wSeq (wFor (iSeq (wVar 3)) (gNm 5) w_f_law_few_2) (wSeq (wIf (wTest (wOp dLe (wVar 4) (wVar 2))) (wRet (wVar 1)) ((fun D env st => D.nx env st))) (wSeq (wAsg (wM mIndex (wVar 3) (wCons (wCB bMax1 (wCons (wVar 3) (wNil))) (wNil))) (gNm 6)) (wSeq (wAsg (wOp dMod (wCall S_f_law_next (wCons (wVar 0) (wNil))) (wOp dIx (wVar 3) (wVar 6))) (gNm 7)) (wAsg (wCall S_f_law_put (wCons (wVar 1) (wCons (wVar 6) (wCons (wOp dAdd (wSl false (wOp dIx (wVar 1) (wVar 6)) oNo (oPart (wVar 7))) (wSl false (wOp dIx (wVar 1) (wVar 6)) (oPart (wOp dAdd (wVar 7) (wC (.int 1)))) oNo)) (wNil))))) (gNm 1)))))))
def w_f_law_few : DS := wWhile w_f_law_few_3 w_f_law_few_4
def S_f_law_few : DL.Spec := deckS 3 10000001 (fun (x : List (List P2) × Int) => [encF x.1, .int x.2]) (fun x => fewR x.1 ∧ 1 ≤ x.2) fun x d => ∃ f', d = encF f' ∧ SubF f' x.1 ∧ KeepF f' x.1 ∧ manyF f' ≤ x.2
theorem sumL_le {f : List (List P2)} (h : fewR f) : sumL f ≤ 10000000 := by
  have : ∀ g : List (List P2), (∀ r ∈ g, r.length ≤ 100000) → sumL g ≤ g.length * 100000 := fun g => by
    induction g with
    | nil => intro _; simp [sumL]
    | cons r g ih =>
      intro hb
      have h1 := ih fun r hr => hb r (List.mem_cons_of_mem _ hr)
      have h2 := hb r List.mem_cons_self
      simp only [sumL, List.map_cons, List.sum_cons, List.length_cons] at h1 ⊢
      omega
  have h1 := this f h.2
  have h2 := h.1
  omega
theorem vc_f_law_few : ∀ g sto, (S_f_law_few.args g).length = S_f_law_few.n → S_f_law_few.pre g sto → w_f_law_few (bodyEnds (S_f_law_few.post g sto)) (startE ["_law_deck_here", "_law_field", "_law_most", "_law_sizes", "_law_many", "_law_size", "_law_at", "_law_spot", "_law_row"] (S_f_law_few.args g)) sto := by
  rintro ⟨rest, B, f, most⟩ sto _ ⟨hD, hB, hf, hm⟩
  dsimp only at hD hB hf hm
  have hsl := sumL_le hf
  simp? only [w_f_law_few, S_f_law_few, deckS]
  refine ⟨fun m e st => ∃ cur x3 x4 x5 x6 x7, e = [some (.ref 2), some (encF cur), some (.int most), x3, x4, x5, x6, x7, none] ∧ SubF cur f ∧ KeepF cur f ∧ m = sumL cur ∧ sumL cur ≤ sumL f ∧ Dk (B + (sumL f - sumL cur : Nat)) rest st, ?_, ?_⟩
  · exact ⟨_, f, _, _, _, _, _, rfl, .refl f, fun i r r' h1 h2 h3 => by rw [h1] at h2; cases h2; exact h3, rfl, Nat.le_refl _, hD.mono (by omega)⟩
  · rintro m e st ⟨cur, x3, x4, x5, x6, x7, rfl, hS, hK, rfl, hle, hD⟩
    have hcl : cur.length ≤ 100 := by rw [hS.len]; exact hf.1
    simp? only [w_f_law_few_3, w_f_law_few_4, encF, wComp, wipeE, wFor]
    refine ⟨by rw [sizeLine_eq]; omega, compL_all encR szF D.int trivial _ (fun r hr R hR => ?_) ?_⟩
    · simp? only [Tg.dg, wYes, w_f_law_few_1, encR]
      exact hR
    · (try simp? only [true_and])
      refine forL_fold D.int (fun a b => a * b) (fun k z e st' => ∃ x5, e = [some (.ref 2), some (encF cur), some (.int most), some (.lst ((cur.map szF).map .int)), some (.int z), x5, x6, x7, none] ∧ st' = st ∧ ((k = 0 ∧ z = 1) ∨ True)) _ 1 _ _ ?_ ?_ ⟨_, rfl, rfl, .inr trivial⟩
      · rintro k z x e st' hk hx ⟨x5, rfl, rfl, _⟩ R hR
        refine ⟨trivial, ?_⟩
        simp? only [w_f_law_few_2]
        obtain ⟨r, hr, rfl⟩ := List.mem_map.mp hx
        have hsz : szF r ≤ 100000 := by
          obtain ⟨i, hi, rfl⟩ := List.getElem_of_mem hr
          obtain ⟨r0, h1, h2⟩ := hS.sub i _ (List.getElem?_eq_getElem hi)
          have := hf.2 r0 (List.mem_of_getElem? h1)
          have := h2.length_le
          unfold szF
          split <;> omega
        have hsp := szF_pos r
        exact ⟨.inr ⟨by omega, by omega⟩, hR _ _ ⟨_, rfl, rfl, .inr trivial⟩⟩
      · rintro e st' ⟨x5, rfl, rfl, _⟩
        refine ⟨trivial, ?_⟩
        have em : (cur.map szF).foldl (fun a b => a * b) 1 = manyF cur := rfl
        rw [em]
        (try simp? only [true_and])
        by_cases hc : manyF cur ≤ most
        · rw [if_pos hc]
          exact ⟨⟨cur, rfl, hS, hK, hc⟩, hD.mono (by omega)⟩
        · rw [if_neg hc]
          have hne : 0 < (cur.map szF).length := by
            cases cur with
            | nil => exact absurd (show manyF [] ≤ most from hm) hc
            | cons _ _ => simp
          refine ⟨_, _, _, rfl, rfl, ints_map _, hne, fun mx hmx => ?_⟩
          obtain ⟨j, hj, hj2⟩ := first_of hmx.1
          rw [List.getElem?_map] at hj
          cases hr : cur[j]? with
          | none => rw [hr] at hj; cases hj
          | some r =>
            rw [hr] at hj
            have hj' : szF r = mx := Option.some.inj hj
            have hjl := (List.getElem?_eq_some_iff.mp hr).1
            have hmx2 : 2 ≤ mx := by
              refine Int.not_lt.mp fun hlt => hc ?_
              have : prodI (cur.map szF) = 1 := prodI_le_one fun n hn => by
                have h1 := hmx.2 n hn
                obtain ⟨r, _, rfl⟩ := List.mem_map.mp hn
                have h2 := szF_pos r
                omega
              show prodI (cur.map szF) ≤ most
              omega
            have hrl : (r.length : Int) = mx ∧ 2 ≤ r.length := by
              have h0 := hj'
              unfold szF at h0
              split at h0 <;> omega
            obtain ⟨r0, hr0, hrs⟩ := hS.sub j r hr
            have hr00 := hf.2 r0 (List.mem_of_getElem? hr0)
            have hrs' := hrs.length_le
            refine ⟨_, _, j, .int mx, rfl, rfl, okL_ints _, by rw [depL_ints]; exact Nat.zero_le _, rfl, Nat.zero_le _, by rw [List.getElem?_map, List.getElem?_map, hr]; show some (D.int (szF r)) = _; rw [hj'], by simp [D.eqv], fun i z' hi hz => ?_, ?_⟩
            · rw [List.getElem?_map] at hz
              cases e : (cur.map szF)[i]? with
              | none => rw [e] at hz; cases hz
              | some n =>
                rw [e] at hz
                cases hz
                have := hj2 i n hi e
                simpa [D.eqv] using this
            (try simp? only [true_and])
            refine next_use hD (by omega) fun y st1 y0 y1 hD => ?_
            (try simp? only [true_and])
            have at1 : atI ((cur.map szF).map D.int) (j : Int) = some (.int mx) := atI_of (by omega) (by rw [Int.toNat_natCast, List.getElem?_map, List.getElem?_map, hr]; show some (D.int (szF r)) = _; rw [hj'])
            have at2 : atI (cur.map encR) (j : Int) = some (encR r) := atI_of (by omega) (by rw [Int.toNat_natCast, List.getElem?_map, hr]; rfl)
            obtain ⟨k, hk⟩ : ∃ k : Nat, y % mx = k := ⟨(y % mx).toNat, by have := modb y (show 0 < mx by omega); omega⟩
            have hkb := modb y (show 0 < mx by omega)
            have e1 : ((k : Int) + 1) = ((k + 1 : Nat) : Int) := by omega
            simp? only [at1, at2, encF, encR, v_slT, cut_take, cut_drop, hk, e1]
            have hkl : k < r.length := by omega
            refine ⟨by omega, by rw [List.length_take, List.length_drop, List.length_map, sizeLine_eq]; omega, ?_⟩
            have e2 : (r.map encP).take k ++ (r.map encP).drop (k + 1) = (r.take k ++ r.drop (k + 1)).map encP := by rw [List.map_append, List.map_take, List.map_drop]
            rw [e2]
            have hsub : (r.take k ++ r.drop (k + 1)).Sublist r := by
              have h := List.Sublist.append (List.Sublist.refl (r.take k)) (List.drop_sublist_drop_left r (show k ≤ k + 1 by omega))
              rwa [List.take_append_drop] at h
            have hlen : (r.take k ++ r.drop (k + 1)).length + 1 = r.length := by rw [List.length_append, List.length_take, List.length_drop]; omega
            generalize r.take k ++ r.drop (k + 1) = r' at hsub hlen
            refine put_use (ds := cur.map encR) (i := j) (x := encR r') ⟨by rw [List.length_map]; exact hjl, by rw [List.length_map]; omega⟩ ?_
            try dsimp only
            rw [← show encF (cur.set j r') = .tup ((cur.map encR).set j (encR r')) by unfold encF; rw [List.map_set]]
            have hset := sumL_set hr (r' := r') (by omega)
            refine ⟨_, ?_, cur.set j r', _, _, _, _, _, rfl, subF_set hS hr hsub, fun i a a' h1 h2 h3 => ?_, rfl, by omega, hD.mono (by omega)⟩
            · exact hset.1
            · by_cases e : j = i
              · subst e
                rw [List.getElem?_set_self hjl] at h1
                cases h1
                intro hz
                rw [hz] at hlen
                simp at hlen
                omega
              · rw [List.getElem?_set_ne e] at h1
                exact hK i a a' h1 h2 h3
def w_f_law_plans_1 : DT := wTest (wCall S_f_law_goes (wCons (wVar 0) (wCons (wVar 6) (wCons (wVar 3) (wCons (wVar 7) (wNil))))))
def w_f_law_plans_2 : DE := wOp dAdd (wVar 6) (wTup (wCons (wVar 7) (wNil)))
def w_f_law_plans_3 : DS := wDrop (wM mExtend (wVar 5) (wCons (wComp false (iSeq (wVar 4)) (.nm 7) w_f_law_plans_1 w_f_law_plans_2 [7]) (wNil)))
def w_f_law_plans_4 : DS := wSeq (wAsg (wLst true (wNil)) (gNm 5)) (wSeq (wFor (iSeq (wVar 2)) (gNm 6) w_f_law_plans_3) (wAsg (wVar 5) (gNm 2)))
def w_f_law_plans : DS := wSeq (wIf (wTest (wOp dIn (wTup (wNil)) (wVar 1))) (wRet (wLst false (wNil))) ((fun D env st => D.nx env st))) (wSeq (wAsg (wLst false (wCons (wTup (wNil)) (wNil))) (gNm 2)) (wSeq (wFor (iEnum (wVar 1)) (gTp 2 (gCn (gNm 3) (gCn (gNm 4) gNl))) w_f_law_plans_4) (wRet (wFrzA 2))))
def plansN (s : Sy) (f : List (List P2)) : Nat → List (List P2)
  | 0 => [[]]
  | i + 1 => (plansN s f i).flatMap fun ps => (((f[i]?).getD []).filter (goesF s ps i)).map fun p => ps ++ [p]
def plansF (s : Sy) (f : List (List P2)) : List (List P2) := if f.any List.isEmpty then [] else plansN s f f.length
structure IsPl (s : Sy) (f : List (List P2)) (i : Nat) (ps : List P2) : Prop where
  len : ps.length = i
  mem : ∀ (k : Nat) r p, f[k]? = some r → ps[k]? = some p → p ∈ r
  ok : ∀ (j k : Nat) q p, j < k → ps[j]? = some q → ps[k]? = some p → clF j k (wkAt s j) (wkAt s k) q p = false
theorem mem_plansN {s : Sy} {f : List (List P2)} : ∀ {i : Nat} {ps : List P2}, i ≤ f.length → (ps ∈ plansN s f i ↔ IsPl s f i ps)
  | 0, ps, _ => by
    constructor
    · intro h
      have : ps = [] := by simpa [plansN] using h
      subst this
      exact ⟨rfl, fun k r p _ h => by simp at h, fun j k q p _ h => by simp at h⟩
    · intro h
      have : ps = [] := List.length_eq_zero_iff.mp h.len
      subst this
      simp [plansN]
  | i + 1, ps, hi => by
    have hf : f[i]? = some f[i] := List.getElem?_eq_getElem (by omega)
    simp only [plansN, List.mem_flatMap, List.mem_map, List.mem_filter, hf, Option.getD_some]
    constructor
    · rintro ⟨qs, hq, p, ⟨hp, hg⟩, rfl⟩
      have h := (mem_plansN (s := s) (f := f) (i := i) (by omega)).mp hq
      refine ⟨by rw [List.length_append, h.len]; rfl, fun k r x hr hx => ?_, fun j k q x hjk hq' hx => ?_⟩
      · by_cases hk : k < qs.length
        · rw [List.getElem?_append_left hk] at hx; exact h.mem k r x hr hx
        · rw [List.getElem?_append_right (by omega)] at hx
          have e0 : k - qs.length = 0 := by have := (List.getElem?_eq_some_iff.mp hx).1; rw [List.length_singleton] at this; omega
          rw [e0] at hx
          cases hx
          have : k = i := by have := h.len; omega
          subst this
          rw [hf] at hr
          cases hr
          exact hp
      · by_cases hk : k < qs.length
        · rw [List.getElem?_append_left hk] at hx
          rw [List.getElem?_append_left (by omega)] at hq'
          exact h.ok j k q x hjk hq' hx
        · rw [List.getElem?_append_right (by omega)] at hx
          have e0 : k - qs.length = 0 := by have := (List.getElem?_eq_some_iff.mp hx).1; rw [List.length_singleton] at this; omega
          rw [e0] at hx
          cases hx
          have : k = i := by have := h.len; omega
          subst this
          rw [List.getElem?_append_left (by omega)] at hq'
          exact goes_iff.mp hg j q hq'
    · intro h
      have hl := h.len
      have hx : ps[i]? = some ps[i] := List.getElem?_eq_getElem (by omega)
      refine ⟨ps.take i, (mem_plansN (by omega)).mpr ⟨by rw [List.length_take]; omega, fun k r p hr hp => ?_, fun j k q p hjk hq hp => ?_⟩, ps[i], ⟨h.mem i _ _ hf hx, goes_iff.mpr fun k q hq => ?_⟩, ?_⟩
      · rw [List.getElem?_take] at hp
        split at hp
        · exact h.mem k r p hr hp
        · cases hp
      · rw [List.getElem?_take] at hp hq
        split at hp
        · split at hq
          · exact h.ok j k q p hjk hq hp
          · cases hq
        · cases hp
      · rw [List.getElem?_take] at hq
        split at hq
        · rename_i hki
          exact h.ok k i q _ hki hq hx
        · cases hq
      · have := take_snoc hx
        rw [← this, List.take_of_length_le (by omega)]
theorem plansN_len {s : Sy} {f : List (List P2)} : ∀ {i : Nat}, i ≤ f.length → ((plansN s f i).length : Int) ≤ manyF (f.take i)
  | 0, _ => by simp [plansN, manyF, prodI]
  | i + 1, hi => by
    have hf : f[i]? = some f[i] := List.getElem?_eq_getElem (by omega)
    have ih := plansN_len (s := s) (f := f) (i := i) (by omega)
    rw [take_snoc hf, manyF_append]
    have e : manyF [f[i]] = szF f[i] := by simp [manyF, prodI]
    rw [e]
    have h2 := szF_le f[i]
    have hle : ∀ qs : List (List P2), (qs.flatMap fun ps => (((f[i]?).getD []).filter (goesF s ps i)).map fun p => ps ++ [p]).length ≤ qs.length * (f[i]).length := fun qs => by
      induction qs with
      | nil => simp
      | cons q qs ih =>
        rw [List.flatMap_cons, List.length_append, List.length_cons, Nat.succ_mul, List.length_map]
        have : (((f[i]?).getD []).filter (goesF s q i)).length ≤ (f[i]).length := by rw [hf]; exact List.length_filter_le _ _
        omega
    have h3 := hle (plansN s f i)
    have h4 : ((plansN s f (i + 1)).length : Int) ≤ ((plansN s f i).length : Int) * ((f[i]).length : Int) := by
      have : (plansN s f (i + 1)).length ≤ (plansN s f i).length * (f[i]).length := h3
      exact_mod_cast this
    have h5 : ((plansN s f i).length : Int) * ((f[i]).length : Int) ≤ manyF (f.take i) * szF f[i] := Int.mul_le_mul ih h2 (by omega) (by have := manyF_pos (f.take i); omega)
    omega
theorem okL_encR : ∀ f : List (List P2), D.okL (f.map encR) = true
  | [] => rfl
  | r :: f => by rw [List.map_cons]; simp only [D.okL, encR, D.ok, okL_encP, okL_encR f, Bool.and_self]
theorem any_emp (f : List (List P2)) : (f.map encR).any (fun z => z.eqv (.tup [])) = f.any List.isEmpty := by
  rw [List.any_map]
  congr 1
  funext r
  cases r with
  | nil => simp [encR, D.eqv, D.eqvL]
  | cons p r => simp [encR, D.eqv, D.eqvL]
theorem v_inN {f : List (List P2)} {g : Bool → Bool} {st : Sto} {Q : DK} : dInB g (.tup []) (encF f) st Q = Q (.bl (g (f.any List.isEmpty))) st := by
  apply propext
  constructor
  · rintro ⟨ds, h, _, _, _, q⟩
    rcases h with h | h
    · cases h
    · cases h
      rw [← any_emp]
      exact q
  · intro q
    exact ⟨f.map encR, .inr rfl, rfl, okL_encR f, Nat.le_trans (Nat.min_le_right _ _) (by simp [D.dep, D.depL]), by rw [← any_emp] at q; exact q⟩
def S_f_law_plans : DL.Spec := pureS 2 (fun (x : Sy × List (List P2)) => [x.1.d, encF x.2]) (fun x => x.2.length ≤ x.1.works.length ∧ x.1.works.length ≤ 1000 ∧ (¬x.2.any List.isEmpty = true → manyF x.2 ≤ 1000000)) (fun x => .lst ((plansF x.1 x.2).map encR))
theorem blw_encRs (n : Nat) : ∀ f : List (List P2), D.blwL n (f.map encR) = true
  | [] => rfl
  | r :: fs => by rw [List.map_cons]; simp only [D.blwL, encR, D.blw, blw_encP, blw_encRs n fs, Bool.and_self]
theorem rowsize {f : List (List P2)} {r : List P2} (h : r ∈ f) : (r.length : Int) ≤ manyF f := by
  obtain ⟨i, hi, rfl⟩ := List.getElem_of_mem h
  have h1 := manyF_take f (i + 1)
  rw [take_snoc (List.getElem?_eq_getElem hi), manyF_append] at h1
  have e : manyF [f[i]] = szF f[i] := by simp [manyF, prodI]
  rw [e] at h1
  have h2 := szF_le f[i]
  have h3 := manyF_pos (f.take i)
  have h4 := szF_pos f[i]
  have := Int.mul_le_mul_of_nonneg_right h3 (show 0 ≤ szF f[i] by omega)
  omega
theorem vc_f_law_plans : ∀ g sto, (S_f_law_plans.args g).length = S_f_law_plans.n → S_f_law_plans.pre g sto → w_f_law_plans (bodyEnds (popEnds sto.length sto (S_f_law_plans.post g sto))) (startE ["_law_system", "_law_field", "_law_found", "_law_work_here", "_law_row", "_law_longer_rows", "_law_ways_here", "_law_way"] (S_f_law_plans.args g)) sto := by
  rintro ⟨s, f⟩ sto _ ⟨hl, hw, hm⟩
  dsimp only at hl hw hm
  have z1 : 1 ≤ sizeLine := by decide
  simp? only [w_f_law_plans, S_f_law_plans, pureS, wFor, v_inN]
  by_cases hE : f.any List.isEmpty = true
  · rw [if_pos hE]
    refine ⟨Nat.zero_le _, Nat.zero_le _, sto, [], by simp, rfl, rfl, fun i c h => .inl h, rfl, by simp [plansF, hE]⟩
  · rw [if_neg hE]
    have hm := hm hE
    have e0 : plansF s f = plansN s f f.length := by unfold plansF; rw [if_neg hE]
    rw [e0]
    refine ⟨Nat.zero_le _, Nat.zero_le _, z1, ?_⟩
    show seqJ (encF f) _ _
    refine forL_inv (fun i e st => ∃ X2 x3 x4 x5 x6 ex, e = [some s.d, some (encF f), some X2, x3, x4, x5, x6, none] ∧ st = sto ++ ex ∧ rd st X2 = .lst ((plansN s f i).map encR) ∧ (X2 = .lst ((plansN s f i).map encR) ∨ ∃ n, X2 = .ref n ∧ sto.length ≤ n)) ?_ ?_ _ _ ⟨_, _, _, _, _, [], rfl, by simp, rfl, .inl rfl⟩
    · rintro i e st d ⟨X2, x3, x4, x5, x6, ex, rfl, rfl, hrd, hX⟩ he R hR
      obtain ⟨r, hr, rfl⟩ := enum_at he
      have hil := (List.getElem?_eq_some_iff.mp hr).1
      refine ⟨trivial, ?_⟩
      simp? only [w_f_law_plans_4, wFor]
      refine ⟨Nat.zero_le _, ?_⟩
      refine seqI_of (rd_app (ex := [.lst []]) hrd) fun G hG => ?_
      have hrl := rowsize (List.mem_of_getElem? hr)
      have hpl := plansN_len (s := s) (f := f) (i := i) (by omega)
      have hpl2 : ((plansN s f i).length : Int) * r.length ≤ 1000000 := by
        have h1 := manyF_take f (i + 1)
        rw [take_snoc hr, manyF_append] at h1
        have e : manyF [r] = szF r := by simp [manyF, prodI]
        rw [e] at h1
        have h5 : ((plansN s f i).length : Int) * (r.length : Int) ≤ manyF (f.take i) * szF r := Int.mul_le_mul hpl (szF_le r) (by omega) (by have := manyF_pos (f.take i); omega)
        omega
      have hpl3 : (plansN s f i).length * r.length ≤ 1000000 := by
        have h : (((plansN s f i).length * r.length : Nat) : Int) ≤ ((1000000 : Nat) : Int) := by rw [Int.natCast_mul]; exact hpl2
        exact Int.ofNat_le.mp h
      refine forL_fold encR (fun acc ps => acc ++ ((r.filter (goesF s ps i)).map fun p => ps ++ [p])) (fun k acc e st => ∃ x6, e = [some s.d, some (encF f), some X2, some (.int (i : Nat)), some (encR r), some (.ref (sto ++ ex).length), x6, none] ∧ st = sto ++ ex ++ [.lst (acc.map encR)] ∧ acc.length ≤ k * r.length) _ [] _ _ ?_ ?_ ⟨_, rfl, rfl, Nat.zero_le _⟩
      · rintro k acc ps e st hk hps ⟨x6, rfl, rfl, hacc⟩ R2 hR2
        have hpl4 := ((mem_plansN (s := s) (f := f) (i := i) (by omega)).mp hps).len
        refine ⟨hG _ (rd_app hrd), ?_⟩
        simp? only [w_f_law_plans_3, wComp, wipeE, rd_ref' (get_last _ _), encR]
        refine ⟨by rw [sizeLine_eq]; omega, ?_⟩
        refine compL_flt encP (goesF s ps i) (fun p => ps ++ [p]) encR trivial _ (fun p hp R3 hR3 => ?_) ?_
        · simp? only [Tg.dg, w_f_law_plans_1, w_f_law_plans_2]
          refine ⟨(s, encR ps, ps, i, p), rfl, rfl, ⟨.inr rfl, by show ps.length ≤ s.works.length; omega, by show i < s.works.length; omega, hw⟩, ?_⟩
          rintro _ _ ⟨rfl, rfl⟩
          refine ⟨_, rfl, ?_⟩
          cases hg : goesF s ps i p with
          | true =>
            rw [hg, if_pos rfl] at hR3
            simp only [encR, List.map_append, List.map_cons, List.map_nil] at hR3 ⊢
            (try simp? only [true_and])
            exact ⟨z1, by rw [sizeLine_eq]; omega, hR3⟩
          | false =>
            rw [hg, if_neg (by decide)] at hR3
            (try simp? only [true_and])
            exact hR3
        · have hfl : (r.filter (goesF s ps i)).length ≤ r.length := List.length_filter_le _ _
          have hkk : (k + 1) * r.length ≤ (plansN s f i).length * r.length := Nat.mul_le_mul_right _ (by omega)
          have hac : (acc ++ ((r.filter (goesF s ps i)).map fun p => ps ++ [p])).length ≤ (k + 1) * r.length := by
            rw [List.length_append, List.length_map, Nat.succ_mul]; omega
          have hac2 := hac
          rw [List.length_append, List.length_map] at hac2
          refine ⟨_, _, _, _, rfl, rfl, get_last _ _, rfl, by rw [List.length_map, List.length_map, List.length_map, sizeLine_eq]; omega, ?_⟩
          rw [set_last, ← List.map_append]
          exact hR2 _ _ ⟨_, rfl, rfl, hac⟩
      · rintro e st ⟨x6, rfl, rfl, _⟩
        refine ⟨hG _ (rd_app hrd), ?_⟩
        (try simp? only [true_and])
        have e2 : (plansN s f i).foldl (fun acc ps => acc ++ ((r.filter (goesF s ps i)).map fun p => ps ++ [p])) [] = plansN s f (i + 1) := by
          have key : ∀ (qs : List (List P2)) (acc : List (List P2)), qs.foldl (fun acc ps => acc ++ ((r.filter (goesF s ps i)).map fun p => ps ++ [p])) acc = acc ++ qs.flatMap fun ps => (r.filter (goesF s ps i)).map fun p => ps ++ [p] := fun qs => by
            induction qs with
            | nil => intro acc; simp
            | cons q qs ih => intro acc; rw [List.foldl_cons, ih, List.flatMap_cons, List.append_assoc]
          rw [key, List.nil_append]
          simp only [plansN, hr, Option.getD_some]
        rw [e2]
        refine hR _ _ ⟨_, _, _, _, _, ex ++ [.lst ((plansN s f (i + 1)).map encR)], rfl, by rw [List.append_assoc], rd_ref' (get_last _ _), .inr ⟨_, rfl, by rw [List.length_append]; omega⟩⟩
    · rintro e st ⟨X2, x3, x4, x5, x6, ex, rfl, rfl, hrd, hX⟩
      rw [enum_len, List.length_map] at hrd hX
      refine ⟨trivial, ?_⟩
      rcases hX with rfl | ⟨n, rfl, hn⟩
      · exact .inl ⟨_, rfl, sto, ex, rfl, rfl, blw_encRs _ _, fun i c h => .inl h, rfl, rfl⟩
      · refine .inr ⟨n, _, rfl, cell_of hrd, sto, ex.set (n - sto.length) .dead, ?_, rfl, blw_encRs _ _, fun i c h => .inl h, rfl, rfl⟩
        rw [List.set_append_right _ _ hn]
theorem ways_flat (s : Sy) (w : Wk) : waysF s w = (rangeI 0 (s.days - w.len + 1).toNat).flatMap fun b => (w.able.filter fun h => freeF (rowOf s h) b (b + w.len)).map fun h => (b, h) := by
  have inner : ∀ (b : Int) (hs : List Int) (acc : List P2), hs.foldl (fun acc h => if freeF (rowOf s h) b (b + w.len) = true then acc ++ [(b, h)] else acc) acc = acc ++ (hs.filter fun h => freeF (rowOf s h) b (b + w.len)).map fun h => (b, h) := fun b hs => by
    induction hs with
    | nil => intro acc; simp
    | cons h r ih =>
      intro acc
      rw [List.foldl_cons, ih, List.filter_cons]
      cases freeF (rowOf s h) b (b + w.len) with
      | true => simp
      | false => simp
  have outer : ∀ (bs : List Int) (acc : List P2), bs.foldl (fun acc b => w.able.foldl (fun acc h => if freeF (rowOf s h) b (b + w.len) = true then acc ++ [(b, h)] else acc) acc) acc = acc ++ bs.flatMap fun b => (w.able.filter fun h => freeF (rowOf s h) b (b + w.len)).map fun h => (b, h) := fun bs => by
    induction bs with
    | nil => intro acc; simp
    | cons b r ih => intro acc; rw [List.foldl_cons, ih, inner, List.flatMap_cons, List.append_assoc]
  unfold waysF
  rw [outer, List.nil_append]
theorem mem_ways {s : Sy} {w : Wk} {p : P2} : p ∈ waysF s w ↔ (0 ≤ p.1 ∧ p.1 < (s.days - w.len + 1).toNat) ∧ p.2 ∈ w.able ∧ freeF (rowOf s p.2) p.1 (p.1 + w.len) = true := by
  rw [ways_flat]
  simp only [List.mem_flatMap, List.mem_map, List.mem_filter]
  constructor
  · rintro ⟨b, hb, h, ⟨h1, h2⟩, rfl⟩
    have := mem_rangeI.mp hb
    exact ⟨by dsimp only; omega, h1, h2⟩
  · rintro ⟨h1, h2, h3⟩
    exact ⟨p.1, mem_rangeI.mpr (by omega), p.2, ⟨h2, h3⟩, rfl⟩
theorem free_iff {row : List Int} {a b : Int} : freeF row a b = true ↔ ∀ d ∈ row, ¬(a ≤ d ∧ d < b) := by
  unfold freeF
  rw [Bool.not_eq_true', List.any_eq_false]
  constructor
  · intro h d hd ⟨h1, h2⟩
    refine h _ (List.mem_map_of_mem hd) ?_
    simp [h1, h2]
  · intro h x hx
    obtain ⟨d, hd, rfl⟩ := List.mem_map.mp hx
    have := h d hd
    by_cases h1 : a ≤ d
    · simp [h1]; omega
    · simp [h1]
theorem nodup_len {α : Type} [BEq α] [LawfulBEq α] : ∀ {l m : List α}, l.Nodup → (∀ x ∈ l, x ∈ m) → l.length ≤ m.length
  | [], _, _, _ => Nat.zero_le _
  | x :: r, m, hn, hs => by
    rw [List.nodup_cons] at hn
    have hx := hs x List.mem_cons_self
    have ih := nodup_len (m := m.erase x) hn.2 fun y hy => (List.mem_erase_of_ne (fun e => hn.1 (by rw [← e]; exact hy))).mpr (hs y (List.mem_cons_of_mem _ hy))
    rw [List.length_erase_of_mem hx] at ih
    have := List.length_pos_of_mem hx
    rw [List.length_cons]
    omega
theorem sum_cast {α : Type} (g : α → Nat) : ∀ l : List α, (((l.map g).sum : Nat) : Int) = (l.map fun x => (g x : Int)).sum
  | [] => rfl
  | x :: r => by rw [List.map_cons, List.map_cons, List.sum_cons, List.sum_cons, Int.natCast_add, sum_cast g r]
def slots (p : P2) (n : Int) : List P2 := (rangeI p.1 n.toNat).map fun d => (d, p.2)
theorem mem_slots {p x : P2} {n : Int} : x ∈ slots p n ↔ p.1 ≤ x.1 ∧ x.1 < p.1 + n.toNat ∧ x.2 = p.2 := by
  unfold slots
  rw [List.mem_map]
  constructor
  · rintro ⟨d, hd, rfl⟩
    have := mem_rangeI.mp hd
    exact ⟨this.1, this.2, rfl⟩
  · rintro ⟨h1, h2, h3⟩
    exact ⟨x.1, mem_rangeI.mpr ⟨h1, h2⟩, by rw [← h3]⟩
theorem slots_nodup (p : P2) (n : Int) : (slots p n).Nodup := by
  unfold slots rangeI
  rw [List.map_map]
  refine List.Pairwise.map _ (fun a b h => ?_) List.nodup_range
  intro e
  have := congrArg Prod.fst e
  dsimp at this
  omega
theorem stand_snoc (s : Sy) (f : List (List P2)) (r : List P2) (a b : Int) : standF s (f ++ [r]) a b = stepF s a b (standF s f a b) (r, f.length) := by
  unfold standF
  rw [List.zipIdx_append, List.foldl_append, Nat.zero_add]
  rfl
def inW (s : Sy) (a b : Int) (i : Nat) (r : List P2) : Prop := r.all (withinF (wkAt s i) a b) = true
theorem stand_all {s : Sy} {f : List (List P2)} {a b : Int} {ps : List P2} (hp : IsPl s f f.length ps) (hlen : ∀ i, i < f.length → 1 ≤ (wkAt s i).len) : ∀ i : Nat, i ≤ f.length →
    ∃ L : List P2, L.Nodup ∧ (L.length : Int) = (standF s (f.take i) a b).1 ∧ (∀ x ∈ L, ∃ j r p, j < i ∧ f[j]? = some r ∧ ps[j]? = some p ∧ inW s a b j r ∧ x ∈ slots p (wkAt s j).len) ∧ (∀ j r, j < i → f[j]? = some r → inW s a b j r → ∀ q ∈ r, q.2 ∈ (standF s (f.take i) a b).2)
  | 0, _ => ⟨[], .nil, rfl, fun _ h => (nomatch h), fun j _ h => by omega⟩
  | i + 1, hi => by
    obtain ⟨L, h1, h2, h3, h4⟩ := stand_all (a := a) (b := b) hp hlen i (by omega)
    have hf : f[i]? = some f[i] := List.getElem?_eq_getElem (by omega)
    have hpl := hp.len
    have hpi : ps[i]? = some ps[i] := List.getElem?_eq_getElem (by omega)
    have htl : (f.take i).length = i := by rw [List.length_take]; omega
    rw [take_snoc hf, stand_snoc, htl]
    unfold stepF
    by_cases hc : f[i].all (withinF (wkAt s i) a b) = true
    · rw [if_pos hc]
      refine ⟨L ++ slots ps[i] (wkAt s i).len, ?_, ?_, fun x hx => ?_, fun j r hj hr hw q hq => ?_⟩
      · rw [List.nodup_append]
        refine ⟨h1, slots_nodup _ _, fun x hx y hy e => ?_⟩
        subst e
        obtain ⟨j, r, p, hj, hr, hpj, hw, hxs⟩ := h3 x hx
        have m1 := mem_slots.mp hxs
        have m2 := mem_slots.mp hy
        have l1 := hlen j (by omega)
        have l2 := hlen i (by omega)
        have hno := hp.ok j i p _ hj hpj hpi
        unfold clF at hno
        have e1 : (p.2 == ps[i].2) = true := by rw [← m1.2.2, ← m2.2.2]; exact beq_self_eq_true _
        have e2 : decide (p.1 < ps[i].1 + (wkAt s i).len) = true := decide_eq_true (by omega)
        have e3 : decide (ps[i].1 < p.1 + (wkAt s j).len) = true := decide_eq_true (by omega)
        rw [e1, e2, e3] at hno
        simp at hno
      · rw [List.length_append, Int.natCast_add, h2]
        have : (slots ps[i] (wkAt s i).len).length = (wkAt s i).len.toNat := by unfold slots; rw [List.length_map, rangeI_len]
        have := hlen i (by omega)
        dsimp only
        omega
      · rcases List.mem_append.mp hx with z | z
        · obtain ⟨j, r, p, hj, r1⟩ := h3 x z
          exact ⟨j, r, p, by omega, r1⟩
        · exact ⟨i, f[i], ps[i], by omega, hf, hpi, hc, z⟩
      · dsimp only
        rw [List.mem_append]
        by_cases e : j = i
        · subst e
          rw [hf] at hr
          cases hr
          exact .inr (List.mem_map_of_mem hq)
        · exact .inl (h4 j r (by omega) hr hw q hq)
    · rw [if_neg hc]
      refine ⟨L, h1, h2, fun x hx => ?_, fun j r hj hr hw q hq => ?_⟩
      · obtain ⟨j, r, p, hj, r1⟩ := h3 x hx
        exact ⟨j, r, p, by omega, r1⟩
      · by_cases e : j = i
        · subst e
          rw [hf] at hr
          cases hr
          exact absurd hw hc
        · exact h4 j r (by omega) hr hw q hq
theorem full_none {s : Sy} {f : List (List P2)} {a b : Int} {ps : List P2} (hs : Good s) (hf : FieldOf s f) (hp : IsPl s f f.length ps) : fullF s f a b = false := by
  have hwl : f.length = s.works.length := by rw [hf.len]; unfold wholeF; rw [List.length_map]
  have hwk : ∀ i, i < f.length → s.works[i]? = some (wkAt s i) := fun i hi => by
    unfold wkAt
    rw [List.getElem?_eq_getElem (by omega)]
    rfl
  obtain ⟨L, h1, h2, h3, h4⟩ := stand_all (a := a) (b := b) hp (fun i hi => (hs.work i _ (hwk i hi)).len.1) f.length (Nat.le_refl _)
  rw [List.take_length] at h2 h4
  unfold fullF
  rw [decide_eq_false_iff_not]
  rw [← h2]
  have hM : sumF s (standF s f a b).2 a b = (((((rangeI 0 s.hands.length).filter fun h => (standF s f a b).2.any (· == h)).flatMap fun h => ((rangeI a (b - a).toNat).filter fun d => !(handAt s h).any (· == d)).map fun d => (d, h)) : List P2).length : Int) := by
    rw [List.length_flatMap, sum_cast]
    unfold sumF givenF
    simp only [List.length_map]
  rw [hM]
  have := nodup_len h1 (m := ((rangeI 0 s.hands.length).filter fun h => (standF s f a b).2.any (· == h)).flatMap fun h => ((rangeI a (b - a).toNat).filter fun d => !(handAt s h).any (· == d)).map fun d => (d, h)) fun x hx => by
    obtain ⟨j, r, p, hj, hr, hpj, hw, hxs⟩ := h3 x hx
    have hpr := hp.mem j r p hr hpj
    obtain ⟨w, hw1, hsub⟩ := mem_field hf hr
    have ew : w = wkAt s j := by have := hwk j hj; rw [hw1] at this; exact Option.some.inj this
    subst ew
    have hmw := mem_ways.mp (hsub.subset hpr)
    have ow := hs.work j _ hw1
    have hab := ow.able.2 p.2 hmw.2.1
    have m := mem_slots.mp hxs
    have hl := ow.len
    have hin : withinF (wkAt s j) a b p = true := List.all_eq_true.mp hw p hpr
    unfold withinF at hin
    have hin2 : a ≤ p.1 ∧ p.1 + (wkAt s j).len ≤ b := by
      by_cases ha : a ≤ p.1
      · rw [if_pos ha] at hin; exact ⟨ha, by simpa using hin⟩
      · rw [if_neg ha] at hin; cases hin
    have hst := h4 j r hj hr hw p hpr
    refine List.mem_flatMap.mpr ⟨x.2, List.mem_filter.mpr ⟨mem_rangeI.mpr (by rw [m.2.2]; omega), ?_⟩, List.mem_map.mpr ⟨x.1, List.mem_filter.mpr ⟨mem_rangeI.mpr (by omega), ?_⟩, rfl⟩⟩
    · rw [List.any_eq_true]
      exact ⟨p.2, hst, by rw [m.2.2]; exact beq_self_eq_true _⟩
    · rw [Bool.not_eq_true', List.any_eq_false]
      intro d hd hdx
      have e : d = x.1 := by simpa using hdx
      subst e
      have hfr := free_iff.mp hmw.2.2
      refine hfr x.1 ?_ ⟨m.1, by omega⟩
      rw [m.2.2] at hd
      exact hd
  omega
def D.isNum : D → Bool
  | .int _ => true
  | _ => false
def fromF (d : D) (a b : Int) : Bool := match d with
  | .int i => if a ≤ i then decide (i ≤ b) else false
  | _ => false
theorem noRef_of {d : D} (h : d.blw 0 = true) : d.noRef := by
  cases d with
  | ref n => simp [D.blw] at h
  | fn => simp [D.blw] at h
  | exc => simp [D.blw] at h
  | _ => trivial
def w_p_is_number : DS := wRet (wAndV (wIsi "int" (wVar 0)) (wNotV (wIsi "bool" (wVar 0))))
def S_p_is_number : DL.Spec := pureS 1 (fun d : D => [d]) D.noRef (fun d => .bl (D.isNum d))
theorem vc_p_is_number : ∀ g sto, (S_p_is_number.args g).length = S_p_is_number.n → S_p_is_number.pre g sto → w_p_is_number (bodyEnds (S_p_is_number.post g sto)) (startE ["thing"] (S_p_is_number.args g)) sto := by
  rintro (d : D) sto _ (h : d.noRef)
  simp? only [w_p_is_number, S_p_is_number, pureS, wIsi]
  refine ⟨h, ?_⟩
  cases d with
  | ref n => exact h.elim
  | fn => exact h.elim
  | exc => exact h.elim
  | _ => simp [D.isa, D.ty, D.isNum, D.noRef]
def w_p_is_from : DS := wRet (wAndV (wCall S_p_is_number (wCons (wVar 0) (wNil))) (wChain dLe dLe (wVar 1) (wVar 0) (wVar 2)))
def S_p_is_from : DL.Spec := pureS 3 (fun x : D × Int × Int => [x.1, .int x.2.1, .int x.2.2]) (fun x => x.1.noRef) (fun x => .bl (fromF x.1 x.2.1 x.2.2))
theorem vc_p_is_from : ∀ g sto, (S_p_is_from.args g).length = S_p_is_from.n → S_p_is_from.pre g sto → w_p_is_from (bodyEnds (S_p_is_from.post g sto)) (startE ["thing", "low", "high"] (S_p_is_from.args g)) sto := by
  rintro ⟨d, a, b⟩ sto _ h
  simp? only [w_p_is_from, S_p_is_from, pureS]
  refine use_pure d rfl rfl h ?_
  cases d with
  | int i =>
    simp? only [D.isNum, fromF]
    by_cases h : a ≤ i
    · simp [h]
    · simp [h]
  | _ => simp [D.isNum, fromF]
theorem blw_items {ds : List D} {n : Nat} (h : D.blw n (.tup ds) = true) : ∀ d ∈ ds, d.blw n = true := by
  simp only [D.blw] at h
  induction ds with
  | nil => intro d hd; cases hd
  | cons x r ih =>
    simp only [D.blwL, Bool.and_eq_true] at h
    intro d hd
    rcases List.mem_cons.mp hd with z | z
    · subst z; exact h.1
    · exact ih h.2 d z
theorem v_inP' {p : P2} {ps : List P2} {f : Bool → Bool} {st : Sto} {Q : DK} : dInB f (encP p) (.tup (ps.map encP)) st Q = Q (.bl (f (ps.any (· == p)))) st := by
  have e : (ps.map encP).any (fun z => z.eqv (rd st (encP p))) = ps.any (· == p) := by
    rw [List.any_map]
    congr 1
    funext x
    exact eqv_encP x p
  apply propext
  constructor
  · rintro ⟨ds, h, _, _, _, q⟩
    rcases h with h | h
    · cases h
    · cases h
      rw [← e]; exact q
  · intro q
    refine ⟨ps.map encP, .inr rfl, rfl, okL_encP ps, Nat.le_trans (Nat.min_le_right _ _) (show D.dep (.tup [.int p.1, .int p.2]) ≤ 60 by simp [D.dep, D.depL]), ?_⟩
    rw [e]; exact q
theorem good30 {s : Sy} (hs : S30 s) : Good s := good_of hs (by omega) (by omega) (by omega) (by omega) (by omega)
section
variable {st : Sto} {Q : DK} {u : Ws}
theorem ws_ix0 : dIx u.d (.int 0) st Q = Q (.int u.work) st := by unfold Ws.d; rw [v_ixT]; simp only [at0, v_some]
theorem ws_ix1 : dIx u.d (.int 1) st Q = Q (.int u.kind) st := by unfold Ws.d; rw [v_ixT]; simp only [at1, v_some]
theorem ws_ix2 : dIx u.d (.int 2) st Q = Q (.int u.day) st := by unfold Ws.d; rw [v_ixT]; simp only [at2, v_some]
theorem ws_ix3 : dIx u.d (.int 3) st Q = Q (.int u.weight) st := by unfold Ws.d; rw [v_ixT]; simp only [at3, v_some]
theorem ws_ix4 : dIx u.d (.int 4) st Q = Q (.int u.rank) st := by unfold Ws.d; rw [v_ixT]; simp only [at4, v_some]
theorem ws_sl3 : dSl false u.d none (some 3) st Q = Q (.tup [.int u.work, .int u.kind, .int u.day]) st := rfl
end
def keptF (s : Sy) (u : Ws) (p : P2) : Bool := if (u.kind == 0) = true then decide (u.day ≤ p.1) else decide (p.1 + (wkAt s u.work.toNat).len ≤ u.day)
def addW (f : List Int) (r : Nat) (x : Int) : List Int := f.set r ((f[r]?).getD 0 + x)
def weightsF (k : Ws → Bool) (us : List Ws) : List Int := us.foldl (fun f u => if k u = true then addW f u.rank.toNat u.weight else f) [0, 0, 0, 0]
theorem addW_len (f : List Int) (r : Nat) (x : Int) : (addW f r x).length = f.length := by unfold addW; rw [List.length_set]
theorem addW_zero (f : List Int) (r : Nat) : addW f r 0 = f := by
  unfold addW
  refine List.ext_getElem? fun i => ?_
  by_cases h : r = i
  · subst h
    by_cases hl : r < f.length
    · rw [List.getElem?_set_self hl, List.getElem?_eq_getElem hl]
      simp
    · rw [List.getElem?_eq_none (by rw [List.length_set]; omega), List.getElem?_eq_none (by omega)]
  · rw [List.getElem?_set_ne h]
theorem rank_ix {f : List Int} {i : Int} (h : f.length = 4) (h0 : 0 ≤ i ∧ i ≤ 3) : atI (f.map D.int) i = some (.int ((f[i.toNat]?).getD 0)) ∧ ixN (f.map D.int).length i = some i.toNat := by
  have hl : i.toNat < f.length := by omega
  have e : ixN 4 i = some i.toNat := by unfold ixN; rw [if_pos h0.1, if_pos (by omega)]
  rw [List.length_map, h]
  refine ⟨?_, e⟩
  unfold atI
  rw [List.length_map, h, e]
  show (f.map D.int)[i.toNat]? = _
  rw [List.getElem?_map, List.getElem?_eq_getElem hl]
  rfl
theorem wk_of {s : Sy} {u : Ws} {d : Int} (h : u.Ok s.works.length d) : atI s.works u.work = some (wkAt s u.work.toNat) := by
  have := h.work
  have e := wk_at (s := s) (i := u.work.toNat) (by omega)
  rwa [Int.toNat_of_nonneg this.1] at e
def wayOf (ps : List P2) (u : Ws) : P2 := (ps[u.work.toNat]?).getD (0, 0)
theorem way_ix {s : Sy} {u : Ws} {d : Int} {ps : List P2} (h : u.Ok s.works.length d) (hl : ps.length = s.works.length) : atI (ps.map encP) u.work = some (encP (wayOf ps u)) := by
  have := h.work
  refine atI_map ?_
  unfold atI ixN wayOf
  rw [if_pos this.1, if_pos (by omega)]
  show ps[u.work.toNat]? = _
  rw [List.getElem?_eq_getElem (by omega)]
  rfl
def w_f_law_kept : DS := wSeq (wIf (wTest (wOp dEq (wOp dIx (wVar 1) (wC (.int 1))) (wC (.int 0)))) (wRet (wOp dGe (wOp dIx (wVar 2) (wC (.int 0))) (wOp dIx (wVar 1) (wC (.int 2))))) ((fun D env st => D.nx env st))) (wRet (wOp dLe (wOp dAdd (wOp dIx (wVar 2) (wC (.int 0))) (wOp dIx (wOp dIx (wOp dIx (wVar 0) (wC (.int 2))) (wOp dIx (wVar 1) (wC (.int 0)))) (wC (.int 0)))) (wOp dIx (wVar 1) (wC (.int 2)))))
def S_f_law_kept : DL.Spec := pureS 3 (fun x : Sy × Ws × P2 => [x.1.d, x.2.1.d, encP x.2.2]) (fun x => x.2.1.Ok x.1.works.length x.1.days) (fun x => .bl (keptF x.1 x.2.1 x.2.2))
theorem vc_f_law_kept : ∀ g sto, (S_f_law_kept.args g).length = S_f_law_kept.n → S_f_law_kept.pre g sto → w_f_law_kept (bodyEnds (S_f_law_kept.post g sto)) (startE ["_law_system", "_law_wish_here", "_law_way"] (S_f_law_kept.args g)) sto := by
  rintro ⟨s, u, p⟩ sto _ (hu : u.Ok s.works.length s.days)
  simp? only [w_f_law_kept, S_f_law_kept, pureS, ws_ix0, ws_ix1, ws_ix2, p_ix0]
  cases h : u.kind == 0 with
  | true => simp? only [keptF, h]
  | false =>
    (try simp? only [true_and])
    refine ⟨_, atI_map (wk_of hu), ?_⟩
    simp? only [keptF, h]
inductive AllLe : List Int → List Int → Prop
  | nil : AllLe [] []
  | cons {x y : Int} {xs ys : List Int} : x ≤ y → AllLe xs ys → AllLe (x :: xs) (y :: ys)
theorem AllLe.refl : ∀ xs : List Int, AllLe xs xs
  | [] => .nil
  | x :: r => .cons (Int.le_refl x) (AllLe.refl r)
theorem AllLe.lex : ∀ {a b : List Int}, AllLe a b → HT.lexLt b a = false
  | _, _, .nil => rfl
  | _, _, .cons (x := x) (y := y) h t => by
    rw [HT.lexLt_cons]
    split
    · exact t.lex
    · simp; omega
theorem AllLe.append : ∀ {a b c d : List Int}, AllLe a b → AllLe c d → AllLe (a ++ c) (b ++ d)
  | _, _, _, _, .nil, h => h
  | _, _, _, _, .cons h t, h2 => .cons h (t.append h2)
theorem AllLe.addW : ∀ {f g : List Int} (r : Nat) {x y : Int}, AllLe f g → x ≤ y → AllLe (M.addW f r x) (M.addW g r y)
  | _, _, _, _, _, .nil, _ => by unfold M.addW; exact .nil
  | _, _, 0, _, _, .cons h t, hx => by
    unfold M.addW
    simp only [List.set_cons_zero, List.getElem?_cons_zero, Option.getD_some]
    exact .cons (by omega) t
  | _, _, r + 1, _, _, .cons h t, hx => by
    have := AllLe.addW r t hx
    unfold M.addW at this ⊢
    simp only [List.set_cons_succ, List.getElem?_cons_succ]
    exact .cons h this
theorem weights_le {k1 k2 : Ws → Bool} : ∀ (us : List Ws) (f g : List Int), (∀ u ∈ us, 0 ≤ u.weight ∧ (k1 u = true → k2 u = true)) → AllLe f g →
    AllLe (us.foldl (fun f u => if k1 u = true then addW f u.rank.toNat u.weight else f) f) (us.foldl (fun f u => if k2 u = true then addW f u.rank.toNat u.weight else f) g)
  | [], _, _, _, h => h
  | u :: us, f, g, hu, h => by
    rw [List.foldl_cons, List.foldl_cons]
    refine weights_le us _ _ (fun v hv => hu v (List.mem_cons_of_mem _ hv)) ?_
    obtain ⟨h1, h2⟩ := hu u List.mem_cons_self
    cases e1 : k1 u with
    | true =>
      rw [h2 e1, if_pos rfl, if_pos rfl]
      exact h.addW _ (Int.le_refl _)
    | false =>
      rw [if_neg (by decide)]
      cases e2 : k2 u with
      | true =>
        rw [if_pos rfl]
        have := h.addW u.rank.toNat h1
        rwa [addW_zero] at this
      | false =>
        rw [if_neg (by decide)]
        exact h
theorem len_blk : ∀ ds : List D, ds.length ≤ D.blkL ds
  | [] => Nat.zero_le _
  | d :: r => by simp only [D.blkL, List.length_cons]; have := len_blk r; omega
structure Any (d : D) : Prop where
  blw : d.blw 0 = true
  blk : d.blk ≤ 1000000
theorem Any.noRef {d : D} (h : Any d) : d.noRef := noRef_of h.blw
theorem Any.len {ds : List D} (h : Any (.tup ds)) : ds.length ≤ 1000000 := by have := len_blk ds; have h2 := h.blk; simp only [D.blk] at h2; omega
theorem isa_tup {d : D} : (∃ ds, d = .tup ds) ∨ (d.isa "tuple" = false ∧ ∀ ds, d ≠ .tup ds) := by
  cases d with
  | tup ds => exact .inl ⟨ds, rfl⟩
  | _ => exact .inr ⟨rfl, fun ds h => nomatch h⟩
theorem isa_tupT {ds : List D} : D.isa "tuple" (.tup ds) = true := rfl
def nodeSz : Int → Nat
  | 3 => 1
  | _ => 3
def w_p_is_a_node : DS := wSeq (wIf (wOr (wNot (wTest (wIsi "tuple" (wVar 0)))) (wOr (wTest (wOp dEq (wCB bLen (wCons (wVar 0) (wNil))) (wC (.int 0)))) (wNot (wTest (wCall S_p_is_from (wCons (wOp dIx (wVar 0) (wC (.int 0))) (wCons (wC (.int 0)) (wCons (wC (.int 3)) (wNil))))))))) (wRet (wC (.bl false))) ((fun D env st => D.nx env st))) (wRet (wOp dEq (wCB bLen (wCons (wVar 0) (wNil))) (wOp dIx (wC (.tup [(.int 3), (.int 3), (.int 3), (.int 1)])) (wOp dIx (wVar 0) (wC (.int 0))))))
def isNode : D → Bool
  | .tup (.int k :: ds) => if 0 ≤ k then (if k ≤ 3 then (ds.length + 1 == nodeSz k) else false) else false
  | _ => false
theorem len0 {ds : List D} (h : ds ≠ []) : ((ds.length : Nat) == (0 : Int)) = false := by
  rw [beq_eq_false_iff_ne]
  have := List.length_pos_iff.mpr h
  omega
def S_p_is_a_node : DL.Spec := pureS 1 (fun d : D => [d]) (fun d => d.blw 0 = true) (fun d => .bl (isNode d))
theorem vc_p_is_a_node : ∀ g sto, (S_p_is_a_node.args g).length = S_p_is_a_node.n → S_p_is_a_node.pre g sto → w_p_is_a_node (bodyEnds (S_p_is_a_node.post g sto)) (startE ["thing"] (S_p_is_a_node.args g)) sto := by
  rintro (d : D) sto _ (hb : d.blw 0 = true)
  simp? only [w_p_is_a_node, S_p_is_a_node, pureS]
  refine ⟨noRef_of hb, ?_⟩
  rcases isa_tup (d := d) with ⟨ds, rfl⟩ | ⟨h1, h2⟩
  · cases ds with
    | nil =>
      simp? only [isa_tupT, isNode]
      rw [if_pos (by rfl)]
      trivial
    | cons x r =>
      have hx : x.noRef := noRef_of (blw_items hb x List.mem_cons_self)
      have e0 := len0 (ds := x :: r) (by simp)
      rw [List.length_cons] at e0
      simp? only [isa_tupT, e0]
      refine use_pure (x, 0, 3) rfl rfl hx ?_
      dsimp only
      cases x with
      | int k =>
        by_cases h0 : 0 ≤ k
        · by_cases h3 : k ≤ 3
          · have e2 : fromF (.int k) 0 3 = true := by simp [fromF]; omega
            simp? only [e2, isNode, h0, h3]
            rcases (show k = 0 ∨ k = 1 ∨ k = 2 ∨ k = 3 by omega) with rfl | rfl | rfl | rfl
            all_goals
              (try simp? only [true_and])
              congr 1
              rw [Bool.eq_iff_iff, beq_iff_eq, beq_iff_eq]
              simp only [nodeSz]
              omega
          · have e2 : fromF (.int k) 0 3 = false := by simp [fromF]; omega
            simp? only [e2, isNode, h0, h3]
        · have e2 : fromF (.int k) 0 3 = false := by simp [fromF]; omega
          simp? only [e2, isNode, h0]
      | ref n => exact hx.elim
      | fn => exact hx.elim
      | exc => exact hx.elim
      | _ => simp? only [fromF, isNode]
  · have e : isNode d = false := by
      cases d with
      | tup ds => exact absurd rfl (h2 ds)
      | _ => rfl
    simp? only [h1, e]
def w_p_has_one_way : DS := wRet (wAndV (wCall S_p_is_from (wCons (wVar 1) (wCons (wC (.int 0)) (wCons (wOp dSub (wCB bLen (wCons (wVar 0) (wNil))) (wC (.int 1))) (wNil))))) (wOp dEq (wCB bLen (wCons (wOp dIx (wVar 0) (wVar 1)) (wNil))) (wC (.int 1))))
def lone1 (f : List (List P2)) : D → Bool
  | .int i => if 0 ≤ i then (if i ≤ (f.length : Int) - 1 then ((f[i.toNat]?).getD []).length == 1 else false) else false
  | _ => false
def S_p_has_one_way : DL.Spec := pureS 2 (fun x : List (List P2) × D => [encF x.1, x.2]) (fun x => x.2.noRef) (fun x => .bl (lone1 x.1 x.2))
theorem vc_p_has_one_way : ∀ g sto, (S_p_has_one_way.args g).length = S_p_has_one_way.n → S_p_has_one_way.pre g sto → w_p_has_one_way (bodyEnds (S_p_has_one_way.post g sto)) (startE ["field", "work"] (S_p_has_one_way.args g)) sto := by
  rintro ⟨f, d⟩ sto _ (h : d.noRef)
  simp? only [w_p_has_one_way, S_p_has_one_way, pureS, encF]
  refine use_pure (d, 0, (f.length : Int) - 1) rfl rfl h ?_
  dsimp only
  cases d with
  | int i =>
    by_cases h0 : 0 ≤ i
    · by_cases h1 : i ≤ (f.length : Int) - 1
      · have hi : i.toNat < f.length := by omega
        have e : atI (f.map encR) i = some (encR f[i.toNat]) := by
          refine atI_map ?_
          unfold atI ixN
          rw [if_pos h0, if_pos (by omega)]
          exact List.getElem?_eq_getElem hi
        simp? only [fromF, h0, h1, e, lone1, encR, List.getElem?_eq_getElem hi, Option.getD_some]
        congr 1
        rw [Bool.eq_iff_iff, beq_iff_eq, beq_iff_eq]
        omega
      · simp? only [fromF, h0, h1, lone1]
    · simp? only [fromF, h0, lone1]
  | ref n => exact h.elim
  | fn => exact h.elim
  | exc => exact h.elim
  | _ => simp? only [fromF, lone1]
def w_p_clashes_rightly : DS := wSeq (wAsg (wSl false (wVar 2) (oPart (wC (.int 1))) oNo) (gTp 2 (gCn (gNm 3) (gCn (gNm 4) gNl)))) (wSeq (wIf (wOr (wNot (wTest (wCall S_p_has_one_way (wCons (wVar 1) (wCons (wVar 3) (wNil)))))) (wOr (wNot (wTest (wCall S_p_has_one_way (wCons (wVar 1) (wCons (wVar 4) (wNil)))))) (wTest (wOp dEq (wVar 3) (wVar 4))))) (wRet (wC (.bl false))) ((fun D env st => D.nx env st))) (wRet (wCall S_p_clash (wCons (wVar 0) (wCons (wVar 3) (wCons (wOp dIx (wOp dIx (wVar 1) (wVar 3)) (wC (.int 0))) (wCons (wVar 4) (wCons (wOp dIx (wOp dIx (wVar 1) (wVar 4)) (wC (.int 0))) (wNil)))))))))
def clashD (s : Sy) (f : List (List P2)) : D → D → Bool
  | .int i, .int j => if (lone1 f (.int i) && lone1 f (.int j) && !(i == j)) = true then clF i j (wkAt s i.toNat) (wkAt s j.toNat) ((((f[i.toNat]?).getD [])[0]?).getD (0, 0)) ((((f[j.toNat]?).getD [])[0]?).getD (0, 0)) else false
  | _, _ => false
theorem lone1_int {f : List (List P2)} : ∀ {d : D}, lone1 f d = true → ∃ i p, d = .int i ∧ 0 ≤ i ∧ i < f.length ∧ f[i.toNat]? = some [p]
  | .int i, h => by
    by_cases h0 : 0 ≤ i
    · by_cases h1 : i ≤ (f.length : Int) - 1
      · have hi : i.toNat < f.length := by omega
        have h2 : (((f[i.toNat]?).getD []).length == 1) = true := by simpa only [lone1, h0, h1, if_true] using h
        rw [List.getElem?_eq_getElem hi, Option.getD_some, beq_iff_eq] at h2
        obtain ⟨p, hp⟩ := List.length_eq_one_iff.mp h2
        exact ⟨i, p, rfl, h0, by omega, by rw [List.getElem?_eq_getElem hi, hp]⟩
      · simp [lone1, h0, h1] at h
    · simp [lone1, h0] at h
  | .non, h => by simp [lone1] at h
  | .bl _, h => by simp [lone1] at h
  | .str _, h => by simp [lone1] at h
  | .tup _, h => by simp [lone1] at h
  | .lst _, h => by simp [lone1] at h
  | .scr _, h => by simp [lone1] at h
  | .dct _, h => by simp [lone1] at h
  | .ref _, h => by simp [lone1] at h
  | .fn _ _ _, h => by simp [lone1] at h
  | .exc _ _ _, h => by simp [lone1] at h
def S_p_clashes_rightly : DL.Spec := pureS 3 (fun x : Sy × List (List P2) × D × D => [x.1.d, encF x.2.1, .tup [.int 1, x.2.2.1, x.2.2.2]]) (fun x => x.2.1.length = x.1.works.length ∧ x.2.2.1.noRef ∧ x.2.2.2.noRef) (fun x => .bl (clashD x.1 x.2.1 x.2.2.1 x.2.2.2))
theorem vc_p_clashes_rightly : ∀ g sto, (S_p_clashes_rightly.args g).length = S_p_clashes_rightly.n → S_p_clashes_rightly.pre g sto → w_p_clashes_rightly (bodyEnds (S_p_clashes_rightly.post g sto)) (startE ["system", "field", "node", "one", "other"] (S_p_clashes_rightly.args g)) sto := by
  rintro ⟨s, f, a, b⟩ sto _ ⟨hl, ha, hb⟩
  dsimp only at hl ha hb
  simp? only [w_p_clashes_rightly, S_p_clashes_rightly, pureS, v_slT, show cutL [D.int 1, a, b] (some 1) none = [a, b] from rfl]
  refine use_pure (f, a) rfl rfl ha ?_
  dsimp only
  cases h1 : lone1 f a with
  | false =>
    (try simp? only [true_and])
    unfold clashD
    split
    · simp [h1]
    · rfl
  | true =>
    (try simp? only [true_and])
    refine use_pure (f, b) rfl rfl hb ?_
    dsimp only
    cases h2 : lone1 f b with
    | false =>
      (try simp? only [true_and])
      unfold clashD
      split
      · simp [h2]
      · rfl
    | true =>
      (try simp? only [true_and])
      obtain ⟨i, p, rfl, i0, i1, hi⟩ := lone1_int h1
      obtain ⟨j, q, rfl, j0, j1, hj⟩ := lone1_int h2
      have at1 : ∀ {i : Int} {p : P2}, 0 ≤ i → i < f.length → f[i.toNat]? = some [p] → atI (f.map encR) i = some (encR [p]) := fun h0 h1 h2 => atI_map (by unfold atI ixN; rw [if_pos h0, if_pos (by omega)]; exact h2)
      have wk1 : ∀ {i : Int}, 0 ≤ i → i < f.length → atI s.works i = some (wkAt s i.toNat) := fun {i} h0 h1 => by
        have := wk_at (s := s) (i := i.toNat) (by omega)
        rwa [Int.toNat_of_nonneg h0] at this
      cases hij : i == j with
      | true =>
        simp? only [hij]
        simp [clashD, hij]
      | false =>
        simp? only [encF, at1 i0 i1 hi, at1 j0 j1 hj, encR, hij]
        refine clash_use (wk1 i0 i1) (wk1 j0 j1) ?_
        refine ⟨rfl, ?_⟩
        simp [clashD, h1, h2, hij, hi, hj]
def w_p_is_kept : DS := wSeq (wAsg (wSl false (wVar 1) oNo (oPart (wC (.int 3)))) (gTp 3 (gCn (gNm 3) (gCn (gNm 4) (gCn (gNm 5) gNl))))) (wSeq (wIf (wTest (wOp dEq (wVar 4) (wC (.int 0)))) (wRet (wOp dGe (wOp dIx (wVar 2) (wC (.int 0))) (wVar 5))) ((fun D env st => D.nx env st))) (wRet (wOp dLe (wCall S_p_end_of (wCons (wVar 0) (wCons (wVar 3) (wCons (wVar 2) (wNil))))) (wVar 5))))
def S_p_is_kept : DL.Spec := pureS 3 (fun x : Sy × Ws × P2 => [x.1.d, x.2.1.d, encP x.2.2]) (fun x => x.2.1.Ok x.1.works.length x.1.days) (fun x => .bl (keptF x.1 x.2.1 x.2.2))
theorem vc_p_is_kept : ∀ g sto, (S_p_is_kept.args g).length = S_p_is_kept.n → S_p_is_kept.pre g sto → w_p_is_kept (bodyEnds (S_p_is_kept.post g sto)) (startE ["system", "wish", "way", "work", "sort", "day"] (S_p_is_kept.args g)) sto := by
  rintro ⟨s, u, p⟩ sto _ (hu : u.Ok s.works.length s.days)
  simp? only [w_p_is_kept, S_p_is_kept, pureS, ws_sl3]
  cases h : u.kind == 0 with
  | true => simp? only [p_ix0, keptF, h]
  | false =>
    (try simp? only [true_and])
    refine end_use (wk_of hu) ?_
    simp? only [h, keptF]
def w_p_weights_with_1 : D → (List D → Sto → DK → Prop) → DS := fun y L => wIf (wTest (wLam 1 y L (wCons (wVar 3) (wNil)))) (wAsg (wOp dAdd (wOp dIx (wVar 2) (wOp dIx (wVar 3) (wC (.int 4)))) (wOp dIx (wVar 3) (wC (.int 3)))) (gSet (wVar 2) (wOp dIx (wVar 3) (wC (.int 4))))) ((fun D env st => D.nx env st))
def w_p_weights_with (y : D) (L : List D → Sto → DK → Prop) : DS := wSeq (wAsg (wOp dMulM (wLst false (wCons (wC (.int 0)) (wNil))) (wC (.int 4))) (gNm 2)) (wSeq (wFor (iSeq (wOp dIx (wVar 0) (wC (.int 3)))) (gNm 3) (w_p_weights_with_1 y L)) (wRet (wCB bTuple (wCons (wVar 2) (wNil)))))
abbrev N_p_weights_with : List Str := ["system", "keeps", "found", "wish"]
theorem run_with {s : Sy} {y : D} {L : List D → Sto → DK → Prop} {k : Ws → Bool} {sto : Sto} {Q : DK} (hr : ∀ u ∈ s.wishes, 0 ≤ u.rank ∧ u.rank ≤ 3) (hL : ∀ u ∈ s.wishes, ∀ st Q, Q (.bl (k u)) st → L [u.d] st Q)
    (hQ : Q (.tup ((weightsF k s.wishes).map .int)) sto) : w_p_weights_with y L (bodyEnds (popEnds sto.length sto Q)) (startE N_p_weights_with [s.d, y]) sto := by
  simp? only [w_p_weights_with, N_p_weights_with, dMulM, wFor]
  refine ⟨by decide, [.int 0], 4, rfl, rfl, by decide, by decide, by decide, ?_⟩
  (try simp? only [true_and])
  refine forL_fold Ws.d (fun f u => if k u = true then addW f u.rank.toNat u.weight else f) (fun _ f e st => ∃ x, e = [some s.d, some y, some (.ref sto.length), x] ∧ st = sto ++ [.lst (f.map .int)] ∧ f.length = 4) s.wishes [0, 0, 0, 0] _ _ ?_ ?_ ⟨_, rfl, rfl, rfl⟩
  · rintro i f u e st hi hu ⟨x, rfl, rfl, hf⟩ R hR
    refine ⟨trivial, ?_⟩
    simp? only [w_p_weights_with_1, wLam]
    refine hL u hu _ _ ⟨_, rfl, ?_⟩
    obtain ⟨a1, a2⟩ := rank_ix hf (hr u hu)
    cases hk : k u with
    | true =>
      rw [hk, if_pos rfl] at hR
      simp? only [ws_ix3, ws_ix4, v_ixR (rd_ref' (get_last _ _)), a1, gSet]
      refine ⟨_, _, _, _, rfl, rfl, get_last _ _, a2, ?_⟩
      rw [set_last]
      refine hR _ _ ⟨_, rfl, ?_, by rw [addW_len]; exact hf⟩
      unfold addW
      rw [List.map_set]
    | false =>
      rw [hk, if_neg (by decide)] at hR
      simp? only [true_and]
      exact hR _ _ ⟨_, rfl, rfl, hf⟩
  · rintro e st ⟨x, rfl, rfl, hf⟩
    refine ⟨trivial, ?_⟩
    simp? only [v_tupL (rd_ref' (get_last _ _))]
    exact ⟨sto, _, rfl, rfl, by simp only [D.blw]; exact blwL_ints _ _, fun i c h => .inl h, hQ⟩
def w_f_law_weights_1 : DS := wSeq (wAsg (wOp dMul (wOp dIx (wVar 3) (wC (.int 3))) (wCB bInt (wCons (wCall S_f_law_kept (wCons (wVar 0) (wCons (wVar 3) (wCons (wOp dIx (wVar 1) (wOp dIx (wVar 3) (wC (.int 0)))) (wNil))))) (wNil)))) (gNm 4)) (wAsg (wOp dAdd (wOp dIx (wVar 2) (wOp dIx (wVar 3) (wC (.int 4)))) (wVar 4)) (gSet (wVar 2) (wOp dIx (wVar 3) (wC (.int 4)))))
def w_f_law_weights : DS := wSeq (wAsg (wLst true (wCons (wC (.int 0)) (wCons (wC (.int 0)) (wCons (wC (.int 0)) (wCons (wC (.int 0)) (wNil)))))) (gNm 2)) (wSeq (wFor (iSeq (wOp dIx (wVar 0) (wC (.int 3)))) (gNm 3) w_f_law_weights_1) (wRet (wCB bTuple (wCons (wVar 2) (wNil)))))
def S_f_law_weights : DL.Spec := pureS 2 (fun x : Sy × List P2 => [x.1.d, encR x.2]) (fun x => (∀ u ∈ x.1.wishes, u.Ok x.1.works.length x.1.days) ∧ x.2.length = x.1.works.length) (fun x => dInts (weightsF (fun u => keptF x.1 u (wayOf x.2 u)) x.1.wishes))
theorem vc_f_law_weights : ∀ g sto, (S_f_law_weights.args g).length = S_f_law_weights.n → S_f_law_weights.pre g sto → w_f_law_weights (bodyEnds (popEnds sto.length sto (S_f_law_weights.post g sto))) (startE ["_law_system", "_law_plan", "_law_found", "_law_wish_here", "_law_more"] (S_f_law_weights.args g)) sto := by
  rintro ⟨s, ps⟩ sto _ ⟨hu, hl⟩
  dsimp only at hu hl
  simp? only [w_f_law_weights, S_f_law_weights, pureS, wFor, encR]
  refine ⟨by decide, ?_⟩
  refine forL_fold Ws.d (fun f u => if keptF s u (wayOf ps u) = true then addW f u.rank.toNat u.weight else f) (fun _ f e st => ∃ x y, e = [some s.d, some (.tup (ps.map encP)), some (.ref sto.length), x, y] ∧ st = sto ++ [.lst (f.map .int)] ∧ f.length = 4) s.wishes [0, 0, 0, 0] _ _ ?_ ?_ ⟨_, _, rfl, rfl, rfl⟩
  · rintro i f u e st hi hm ⟨x, y, rfl, rfl, hf⟩ R hR
    refine ⟨trivial, ?_⟩
    simp? only [w_f_law_weights_1, ws_ix0, ws_ix3, way_ix (hu u hm) hl]
    refine use_pure (s, u, wayOf ps u) rfl rfl (hu u hm) ?_
    obtain ⟨a1, a2⟩ := rank_ix hf (hu u hm).rank
    simp? only [ws_ix4, v_ixR (rd_ref' (get_last _ _)), a1, gSet]
    refine ⟨by have := (hu u hm).weight; unfold CMul; split <;> omega, ?_⟩
    refine ⟨_, _, _, _, rfl, rfl, get_last _ _, a2, ?_⟩
    rw [set_last]
    refine hR _ _ ⟨_, _, rfl, ?_, ?_⟩
    · cases keptF s u (wayOf ps u) with
      | true => simp [addW, List.map_set]
      | false =>
        rw [if_neg (by decide)]
        have := addW_zero f u.rank.toNat
        unfold addW at this
        conv => rhs; rw [← this]
        simp [List.map_set]
    · split
      · rw [addW_len]; exact hf
      · exact hf
  · rintro e st ⟨x, y, rfl, rfl, hf⟩
    refine ⟨trivial, ?_⟩
    simp? only [v_tupL (rd_ref' (get_last _ _))]
    exact ⟨sto, _, rfl, rfl, by simp only [D.blw]; exact blwL_ints _ _, fun i c h => .inl h, rfl, rfl⟩
def endsL (s : Sy) (ps : List P2) : List Int := ps.zipIdx.map fun x => x.1.1 + (wkAt s x.2).len
def endsF (s : Sy) (ps : List P2) : Int := (endsL s ps).sum
theorem enum_enc {α : Type} (enc : α → D) (xs : List α) : enumD (xs.map enc) = xs.zipIdx.map fun x => .tup [.int (x.2 : Nat), enc x.1] := by
  unfold enumD
  refine List.ext_getElem? fun i => ?_
  simp only [List.getElem?_map, List.getElem?_zipIdx]
  cases xs[i]? <;> rfl
theorem ends_zip {s : Sy} {ps : List P2} (h : ps.length = s.works.length) : (ps.zip s.works).map (fun x => x.1.1 + x.2.len) = endsL s ps := by
  refine List.ext_getElem? fun i => ?_
  unfold endsL
  simp only [List.getElem?_map, List.getElem?_zipIdx, List.getElem?_zip_eq_some]
  by_cases hi : i < ps.length
  · have hi2 : i < s.works.length := by omega
    rw [List.getElem?_eq_getElem hi, List.getElem?_eq_getElem (l := ps.zip s.works) (by rw [List.length_zip]; omega)]
    simp only [Option.map_some, List.getElem_zip, wkAt, Nat.zero_add, List.getElem?_eq_getElem hi2, Option.getD_some]
  · rw [List.getElem?_eq_none (l := ps) (by omega), List.getElem?_eq_none (l := ps.zip s.works) (by rw [List.length_zip]; omega)]
    rfl
def w_f_law_ends_1 : DE := wOp dAdd (wOp dIx (wVar 2) (wC (.int 0))) (wOp dIx (wVar 3) (wC (.int 0)))
def w_f_law_ends : DS := wRet (wCB bSum (wCons (wComp false (iZip (wVar 1) (wOp dIx (wVar 0) (wC (.int 2)))) (.tp [2, 3]) wYes w_f_law_ends_1 [2, 3]) (wNil)))
def S_f_law_ends : DL.Spec := pureS 2 (fun x : Sy × List P2 => [x.1.d, encR x.2]) (fun x => x.2.length = x.1.works.length ∧ x.1.works.length ≤ 100) (fun x => .int (endsF x.1 x.2))
theorem vc_f_law_ends : ∀ g sto, (S_f_law_ends.args g).length = S_f_law_ends.n → S_f_law_ends.pre g sto → w_f_law_ends (bodyEnds (S_f_law_ends.post g sto)) (startE ["_law_system", "_law_plan", "_law_way", "_law_work_here"] (S_f_law_ends.args g)) sto := by
  rintro ⟨s, ps⟩ sto _ ⟨hl, hw⟩
  dsimp only at hl hw
  simp? only [w_f_law_ends, S_f_law_ends, pureS, encR, zip_map]
  refine ⟨by rw [List.length_zip, sizeLine_eq]; omega, compL_all (fun x : P2 × Wk => .tup [encP x.1, x.2.d]) (fun x => x.1.1 + x.2.len) D.int trivial _ (fun x hx R hR => ?_) ?_⟩
  · simp? only [Tg.dg, w_f_law_ends_1, p_ix0, List.foldr_cons, List.foldr_nil]
    exact hR
  · rw [ends_zip hl]
    simp? only [v_sum]
    rfl
def encO : Option P2 → D
  | none => .non
  | some p => encP p
def encB (bg : List (Option P2)) : D := .tup (bg.map encO)
theorem v_neP2 {f : Bool → Bool} {a b : P2} {st : Sto} {Q : DK} : dEqB f (encP a) (encP b) st Q = Q (.bl (f (a == b))) st := by
  show dEqB f (.tup [.int a.1, .int a.2]) (.tup [.int b.1, .int b.2]) st Q = _
  rw [v_eq2]
  rfl
def mvB (o : Option P2) (p : P2) : Bool := match o with
  | none => false
  | some q => !(q == p)
def movedF (ps : List P2) (old : List (Option P2)) : Int := (((ps.zip old).filter fun x => mvB x.2 x.1).length : Nat)
def w_f_law_moved_1 : DT := wAnd (wTest (wOp (dIsN fun b => !b) (wVar 3) (wC .non))) (wTest (wOp dNe (wVar 3) (wVar 2)))
def w_f_law_moved : DS := wRet (wCB bLen (wCons (wComp false (iZip (wVar 0) (wVar 1)) (.tp [2, 3]) w_f_law_moved_1 (wC (.int 1)) [2, 3]) (wNil)))
def S_f_law_moved : DL.Spec := pureS 2 (fun x : List P2 × List (Option P2) => [encR x.1, encB x.2]) (fun x => x.1.length ≤ 1000) (fun x => .int (movedF x.1 x.2))
theorem vc_f_law_moved : ∀ g sto, (S_f_law_moved.args g).length = S_f_law_moved.n → S_f_law_moved.pre g sto → w_f_law_moved (bodyEnds (S_f_law_moved.post g sto)) (startE ["_law_plan", "_law_old_here", "_law_way", "_law_pair"] (S_f_law_moved.args g)) sto := by
  rintro ⟨ps, old⟩ sto _ (hl : ps.length ≤ 1000)
  simp? only [w_f_law_moved, S_f_law_moved, pureS, encR, encB, zip_map]
  refine ⟨by rw [List.length_zip, sizeLine_eq]; omega, compL_flt (fun x : P2 × Option P2 => .tup [encP x.1, encO x.2]) (fun x => mvB x.2 x.1) (fun _ => (1 : Int)) D.int trivial _ (fun x hx R hR => ?_) ?_⟩
  · obtain ⟨p, o⟩ := x
    cases o with
    | none =>
      simp? only [Tg.dg, w_f_law_moved_1, List.foldr_cons, List.foldr_nil, encO, dIsN, D.isNon]
      exact hR
    | some q =>
      simp? only [Tg.dg, w_f_law_moved_1, List.foldr_cons, List.foldr_nil, encO, dIsN, D.isNon]
      rw [if_pos (by rfl)]
      simp? only [v_neP2]
      exact hR
  · simp? only [movedF]
def rowF (calm : Bool) (m : Int) (w : List Int) (e : Int) : List Int := if calm = true then (0 - m) :: (w ++ [0 - e]) else w ++ [0 - e, 0 - m]
def w_p_worth_row : DS := wSeq (wIf (wTest (wVar 0)) (wRet (wOp dAdd (wOp dAdd (wTup (wCons (wOp dSub (wC (.int 0)) (wVar 1)) (wNil))) (wVar 2)) (wTup (wCons (wOp dSub (wC (.int 0)) (wVar 3)) (wNil))))) ((fun D env st => D.nx env st))) (wRet (wOp dAdd (wVar 2) (wTup (wCons (wOp dSub (wC (.int 0)) (wVar 3)) (wCons (wOp dSub (wC (.int 0)) (wVar 1)) (wNil))))))
def S_p_worth_row : DL.Spec := pureS 4 (fun x : Bool × Int × List Int × Int => [.bl x.1, .int x.2.1, dInts x.2.2.1, .int x.2.2.2]) (fun x => x.2.2.1.length ≤ 100) (fun x => dInts (rowF x.1 x.2.1 x.2.2.1 x.2.2.2))
theorem vc_p_worth_row : ∀ g sto, (S_p_worth_row.args g).length = S_p_worth_row.n → S_p_worth_row.pre g sto → w_p_worth_row (bodyEnds (S_p_worth_row.post g sto)) (startE ["calm", "many", "weights", "ends"] (S_p_worth_row.args g)) sto := by
  rintro ⟨c, m, w, e⟩ sto _ (hl : w.length ≤ 100)
  simp? only [w_p_worth_row, S_p_worth_row, pureS, dInts]
  have z := sizeLine_eq
  cases c with
  | true =>
    simp? only [List.length_append]
    refine ⟨by omega, by omega, by omega, by omega, ?_⟩
    simp [rowF]
  | false =>
    (try simp? only [true_and])
    refine ⟨by omega, by omega, ?_⟩
    simp [rowF]
def w_f_law_row_of : DS := wSeq (wIf (wTest (wVar 0)) (wRet (wOp dAdd (wOp dAdd (wTup (wCons (wOp dSub (wC (.int 0)) (wVar 1)) (wNil))) (wVar 2)) (wTup (wCons (wOp dSub (wC (.int 0)) (wVar 3)) (wNil))))) ((fun D env st => D.nx env st))) (wRet (wOp dAdd (wVar 2) (wTup (wCons (wOp dSub (wC (.int 0)) (wVar 3)) (wCons (wOp dSub (wC (.int 0)) (wVar 1)) (wNil))))))
def S_f_law_row_of : DL.Spec := pureS 4 (fun x : Bool × Int × List Int × Int => [.bl x.1, .int x.2.1, dInts x.2.2.1, .int x.2.2.2]) (fun x => x.2.2.1.length ≤ 100) (fun x => dInts (rowF x.1 x.2.1 x.2.2.1 x.2.2.2))
theorem vc_f_law_row_of : ∀ g sto, (S_f_law_row_of.args g).length = S_f_law_row_of.n → S_f_law_row_of.pre g sto → w_f_law_row_of (bodyEnds (S_f_law_row_of.post g sto)) (startE ["_law_calm", "_law_others", "_law_weights_here", "_law_ends_here"] (S_f_law_row_of.args g)) sto := by
  rintro ⟨c, m, w, e⟩ sto _ (hl : w.length ≤ 100)
  simp? only [w_f_law_row_of, S_f_law_row_of, pureS, dInts]
  have z := sizeLine_eq
  cases c with
  | true =>
    simp? only [List.length_append]
    refine ⟨by omega, by omega, by omega, by omega, ?_⟩
    simp [rowF]
  | false =>
    (try simp? only [true_and])
    refine ⟨by omega, by omega, ?_⟩
    simp [rowF]
def worthF (s : Sy) (ps : List P2) (calm : Bool) (old : List (Option P2)) : List Int := rowF calm (movedF ps old) (weightsF (fun u => keptF s u (wayOf ps u)) s.wishes) (endsF s ps)
theorem weights_len (k : Ws → Bool) : ∀ (us : List Ws) (f : List Int), (us.foldl (fun f u => if k u = true then addW f u.rank.toNat u.weight else f) f).length = f.length
  | [], _ => rfl
  | u :: us, f => by
    rw [List.foldl_cons, weights_len k us]
    split
    · exact addW_len _ _ _
    · rfl
theorem weightsF_len (k : Ws → Bool) (us : List Ws) : (weightsF k us).length = 4 := weights_len k us _
def w_f_law_worth : DS := wRet (wCall S_f_law_row_of (wCons (wOp dIx (wVar 2) (wC (.int 0))) (wCons (wCall S_f_law_moved (wCons (wVar 1) (wCons (wOp dIx (wVar 2) (wC (.int 1))) (wNil)))) (wCons (wCall S_f_law_weights (wCons (wVar 0) (wCons (wVar 1) (wNil)))) (wCons (wCall S_f_law_ends (wCons (wVar 0) (wCons (wVar 1) (wNil)))) (wNil))))))
def S_f_law_worth : DL.Spec := pureS 3 (fun x : Sy × List P2 × Bool × List (Option P2) => [x.1.d, encR x.2.1, .tup [.bl x.2.2.1, encB x.2.2.2]]) (fun x => (∀ u ∈ x.1.wishes, u.Ok x.1.works.length x.1.days) ∧ x.2.1.length = x.1.works.length ∧ x.1.works.length ≤ 100) (fun x => dInts (worthF x.1 x.2.1 x.2.2.1 x.2.2.2))
theorem vc_f_law_worth : ∀ g sto, (S_f_law_worth.args g).length = S_f_law_worth.n → S_f_law_worth.pre g sto → w_f_law_worth (bodyEnds (S_f_law_worth.post g sto)) (startE ["_law_system", "_law_plan", "_law_aim"] (S_f_law_worth.args g)) sto := by
  rintro ⟨s, ps, c, old⟩ sto _ ⟨hu, hl, hw⟩
  dsimp only at hu hl hw
  simp? only [w_f_law_worth, S_f_law_worth, pureS]
  refine use_pure (ps, old) rfl rfl (by show ps.length ≤ 1000; omega) ?_
  (try simp? only [true_and])
  refine use_pure (s, ps) rfl rfl ⟨hu, hl⟩ ?_
  (try simp? only [true_and])
  refine use_pure (s, ps) rfl rfl ⟨hl, hw⟩ ?_
  (try simp? only [true_and])
  refine use_pure (c, movedF ps old, weightsF (fun u => keptF s u (wayOf ps u)) s.wishes, endsF s ps) rfl rfl (by show (weightsF _ _).length ≤ 100; rw [weightsF_len]; decide) ?_
  exact ⟨rfl, rfl⟩
def minL : List Int → Int
  | [] => 0
  | x :: r => match r with
    | [] => x
    | _ :: _ => min x (minL r)
theorem minL_is : ∀ {ns : List Int}, ns ≠ [] → minL ns ∈ ns ∧ ∀ y ∈ ns, minL ns ≤ y
  | [], h => absurd rfl h
  | [x], _ => ⟨by simp [minL], fun y hy => by rw [List.mem_singleton] at hy; subst hy; exact Int.le_refl _⟩
  | x :: z :: r, _ => by
    obtain ⟨h1, h2⟩ := minL_is (ns := z :: r) (by simp)
    have e : minL (x :: z :: r) = min x (minL (z :: r)) := rfl
    rw [e]
    refine ⟨?_, fun y hy => ?_⟩
    · by_cases h : x ≤ minL (z :: r)
      · rw [Int.min_eq_left h]; exact List.mem_cons_self
      · rw [Int.min_eq_right (by omega)]; exact List.mem_cons_of_mem _ h1
    · rcases List.mem_cons.mp hy with rfl | hy
      · exact Int.min_le_left _ _
      · exact Int.le_trans (Int.min_le_right _ _) (h2 y hy)
theorem minL_eq {ns : List Int} {m : Int} (h : m ∈ ns ∧ ∀ y ∈ ns, m ≤ y) : m = minL ns := by
  have := minL_is (ns := ns) (fun z => by rw [z] at h; exact absurd h.1 List.not_mem_nil)
  have h1 := h.2 _ this.1
  have h2 := this.2 _ h.1
  omega
theorem v_minL {ns : List Int} {st : Sto} {Q : DK} (h : ns ≠ []) (q : Q (.int (minL ns)) st) : bMin1 [.lst (ns.map .int)] st Q :=
  ⟨_, _, ns, rfl, rfl, ints_map _, List.length_pos_iff.mpr h, fun m hm => by rw [minL_eq hm]; exact q⟩
theorem minL_add {c : Int} {ns : List Int} (h : ns ≠ []) : minL (ns.map (· + c)) = minL ns + c := by
  have := minL_is h
  refine (minL_eq ⟨List.mem_map.mpr ⟨_, this.1, rfl⟩, fun y hy => ?_⟩).symm
  obtain ⟨z, hz, rfl⟩ := List.mem_map.mp hy
  have := this.2 z hz
  omega
def smB (r : List P2) (o : Option P2) : Bool := match o with
  | none => false
  | some q => !(r.any (· == q))
def smovedF (f : List (List P2)) (old : List (Option P2)) : Int := (((f.zip old).filter fun x => smB x.1 x.2).length : Nat)
theorem v_notInP {p : P2} {ps : List P2} {f : Bool → Bool} {st : Sto} {Q : DK} : dInB f (encP p) (encR ps) st Q = Q (.bl (f (ps.any (· == p)))) st := v_inP'
def w_p_surely_moved_1 : DT := wAnd (wTest (wOp (dIsN fun b => !b) (wVar 3) (wC .non))) (wTest (wOp dNotIn (wVar 3) (wVar 2)))
def w_p_surely_moved : DS := wRet (wCB bLen (wCons (wComp false (iZip (wVar 0) (wVar 1)) (.tp [2, 3]) w_p_surely_moved_1 (wVar 3) [2, 3]) (wNil)))
def S_p_surely_moved : DL.Spec := pureS 2 (fun x : List (List P2) × List (Option P2) => [encF x.1, encB x.2]) (fun x => x.1.length ≤ 1000) (fun x => .int (smovedF x.1 x.2))
theorem vc_p_surely_moved : ∀ g sto, (S_p_surely_moved.args g).length = S_p_surely_moved.n → S_p_surely_moved.pre g sto → w_p_surely_moved (bodyEnds (S_p_surely_moved.post g sto)) (startE ["field", "old", "row", "pair"] (S_p_surely_moved.args g)) sto := by
  rintro ⟨f, old⟩ sto _ (hl : f.length ≤ 1000)
  simp? only [w_p_surely_moved, S_p_surely_moved, pureS, encF, encB, zip_map]
  refine ⟨by rw [List.length_zip, sizeLine_eq]; omega, compL_flt (fun x : List P2 × Option P2 => .tup [encR x.1, encO x.2]) (fun x => smB x.1 x.2) (fun x => x.2) encO trivial _ (fun x hx R hR => ?_) ?_⟩
  · obtain ⟨r, o⟩ := x
    cases o with
    | none =>
      simp? only [Tg.dg, w_p_surely_moved_1, List.foldr_cons, List.foldr_nil, encO, dIsN, D.isNon]
      exact hR
    | some q =>
      simp? only [Tg.dg, w_p_surely_moved_1, List.foldr_cons, List.foldr_nil, encO, dIsN, D.isNon]
      rw [if_pos (by rfl)]
      simp? only [v_notInP]
      exact hR
  · simp? only [smovedF]
def hEndsL (s : Sy) (f : List (List P2)) : List Int := f.zipIdx.map fun x => minL (x.1.map fun p => p.1 + (wkAt s x.2).len)
def hEndsF (s : Sy) (f : List (List P2)) : Int := (hEndsL s f).sum
def RowsFull (f : List (List P2)) : Prop := ∀ r ∈ f, r ≠ [] ∧ r.length ≤ 10000
def w_p_hoped_ends_1 : DE := wCall S_p_end_of (wCons (wVar 0) (wCons (wVar 2) (wCons (wVar 4) (wNil))))
def w_p_hoped_ends_2 : DE := wCB bMin1 (wCons (wComp false (iSeq (wVar 3)) (.nm 4) wYes w_p_hoped_ends_1 [4]) (wNil))
def w_p_hoped_ends : DS := wRet (wCB bSum (wCons (wComp false (iEnum (wVar 1)) (.tp [2, 3]) wYes w_p_hoped_ends_2 [2, 3]) (wNil)))
def S_p_hoped_ends : DL.Spec := pureS 2 (fun x : Sy × List (List P2) => [x.1.d, encF x.2]) (fun x => x.2.length = x.1.works.length ∧ x.1.works.length ≤ 100 ∧ RowsFull x.2) (fun x => .int (hEndsF x.1 x.2))
theorem vc_p_hoped_ends : ∀ g sto, (S_p_hoped_ends.args g).length = S_p_hoped_ends.n → S_p_hoped_ends.pre g sto → w_p_hoped_ends (bodyEnds (S_p_hoped_ends.post g sto)) (startE ["system", "field", "work", "row", "way"] (S_p_hoped_ends.args g)) sto := by
  rintro ⟨s, f⟩ sto _ ⟨hl, hw, hf⟩
  dsimp only at hl hw hf
  simp? only [w_p_hoped_ends, S_p_hoped_ends, pureS, encF, enum_enc]
  refine ⟨by rw [List.length_zipIdx, sizeLine_eq]; omega, compL_all (fun x : List P2 × Nat => .tup [.int (x.2 : Nat), encR x.1]) (fun x => minL (x.1.map fun p => p.1 + (wkAt s x.2).len)) D.int trivial _ (fun x hx R hR => ?_) ?_⟩
  · have hi : x.2 < s.works.length := by have := (zip_at hx).1; omega
    have hr := hf x.1 (zip_at hx).2
    simp? only [Tg.dg, w_p_hoped_ends_2, List.foldr_cons, List.foldr_nil, encR]
    refine ⟨by rw [sizeLine_eq]; omega, compL_all encP (fun p => p.1 + (wkAt s x.2).len) D.int trivial _ (fun p hp R2 hR2 => ?_) ?_⟩
    · simp? only [Tg.dg, w_p_hoped_ends_1]
      exact end_use (wk_at hi) hR2
    · refine v_minL (fun z => hr.1 (List.map_eq_nil_iff.mp z)) ?_
      exact hR
  · simp? only [v_sum]
    rfl
def rowAt (f : List (List P2)) (u : Ws) : List P2 := (f[u.work.toNat]?).getD []
theorem row_ix {s : Sy} {u : Ws} {d : Int} {f : List (List P2)} (h : u.Ok s.works.length d) (hl : f.length = s.works.length) : atI (f.map encR) u.work = some (encR (rowAt f u)) ∧ rowAt f u ∈ f := by
  have := h.work
  have hi : u.work.toNat < f.length := by omega
  refine ⟨atI_map ?_, ?_⟩
  · unfold atI ixN rowAt
    rw [if_pos this.1, if_pos (by omega)]
    show f[u.work.toNat]? = _
    rw [List.getElem?_eq_getElem hi]
    rfl
  · unfold rowAt
    rw [List.getElem?_eq_getElem hi]
    exact List.getElem_mem hi
def hkeptF (s : Sy) (f : List (List P2)) (u : Ws) : Bool := (rowAt f u).any fun p => keptF s u p
def w_p_hoped_weights_1 : DE := wCall S_p_is_kept (wCons (wVar 0) (wCons (wVar 2) (wCons (wVar 3) (wNil))))
def w_p_hoped_weights_2 : DE := wCB bAny (wCons (wComp false (iSeq (wOp dIx (wVar 1) (wOp dIx (wVar 2) (wC (.int 0))))) (.nm 3) wYes w_p_hoped_weights_1 [3]) (wNil))
def w_p_hoped_weights : DS := wRet (wWith N_p_weights_with 2 w_p_weights_with (wVar 0) w_p_hoped_weights_2)
def HopePre (s : Sy) (f : List (List P2)) : Prop := (∀ u ∈ s.wishes, u.Ok s.works.length s.days) ∧ f.length = s.works.length ∧ s.works.length ≤ 100 ∧ RowsFull f
def S_p_hoped_weights : DL.Spec := pureS 2 (fun x : Sy × List (List P2) => [x.1.d, encF x.2]) (fun x => HopePre x.1 x.2) (fun x => dInts (weightsF (hkeptF x.1 x.2) x.1.wishes))
theorem vc_p_hoped_weights : ∀ g sto, (S_p_hoped_weights.args g).length = S_p_hoped_weights.n → S_p_hoped_weights.pre g sto → w_p_hoped_weights (bodyEnds (S_p_hoped_weights.post g sto)) (startE ["system", "field", "wish", "way"] (S_p_hoped_weights.args g)) sto := by
  rintro ⟨s, f⟩ sto _ ⟨hu, hl, hw, hf⟩
  dsimp only at hu hl hw hf
  simp? only [w_p_hoped_weights, S_p_hoped_weights, pureS, wWith, encF]
  refine ⟨_, fun _ _ h => h, fun a io0 F0 => run_with (fun u h => (hu u h).rank) (fun u h st Q q => ?_) ⟨rfl, rfl⟩⟩
  obtain ⟨h1, h2⟩ := row_ix (hu u h) hl
  have hr := hf _ h2
  refine ⟨_, rfl, Q, fun _ _ h => h, ?_⟩
  simp? only [w_p_hoped_weights_2, ws_ix0, h1, encR]
  refine ⟨by rw [sizeLine_eq]; omega, compL_all encP (fun p => keptF s u p) D.bl trivial _ (fun p hp R2 hR2 => ?_) ?_⟩
  · simp? only [Tg.dg, w_p_hoped_weights_1]
    exact use_pure (s, u, p) rfl rfl (hu u h) hR2
  · simp? only [v_any]
    rw [List.any_map]
    exact q
def hopeF (s : Sy) (f : List (List P2)) (calm : Bool) (old : List (Option P2)) : List Int := rowF calm (smovedF f old) (weightsF (hkeptF s f) s.wishes) (hEndsF s f)
def w_p_hope_of : DS := wRet (wCall S_p_worth_row (wCons (wOp dIx (wVar 2) (wC (.int 0))) (wCons (wCall S_p_surely_moved (wCons (wVar 1) (wCons (wOp dIx (wVar 2) (wC (.int 1))) (wNil)))) (wCons (wCall S_p_hoped_weights (wCons (wVar 0) (wCons (wVar 1) (wNil)))) (wCons (wCall S_p_hoped_ends (wCons (wVar 0) (wCons (wVar 1) (wNil)))) (wNil))))))
def S_p_hope_of : DL.Spec := pureS 3 (fun x : Sy × List (List P2) × Bool × List (Option P2) => [x.1.d, encF x.2.1, .tup [.bl x.2.2.1, encB x.2.2.2]]) (fun x => HopePre x.1 x.2.1) (fun x => dInts (hopeF x.1 x.2.1 x.2.2.1 x.2.2.2))
theorem vc_p_hope_of : ∀ g sto, (S_p_hope_of.args g).length = S_p_hope_of.n → S_p_hope_of.pre g sto → w_p_hope_of (bodyEnds (S_p_hope_of.post g sto)) (startE ["system", "field", "aim"] (S_p_hope_of.args g)) sto := by
  rintro ⟨s, f, c, old⟩ sto _ (hp : HopePre s f)
  obtain ⟨hu, hl, hw, hf⟩ := hp
  simp? only [w_p_hope_of, S_p_hope_of, pureS]
  refine use_pure (f, old) rfl rfl (by show f.length ≤ 1000; omega) ?_
  (try simp? only [true_and])
  refine use_pure (s, f) rfl rfl ⟨hu, hl, hw, hf⟩ ?_
  (try simp? only [true_and])
  refine use_pure (s, f) rfl rfl ⟨hl, hw, hf⟩ ?_
  (try simp? only [true_and])
  refine use_pure (c, smovedF f old, weightsF (hkeptF s f) s.wishes, hEndsF s f) rfl rfl (by show (weightsF _ _).length ≤ 100; rw [weightsF_len]; decide) ?_
  exact ⟨rfl, rfl⟩
def w_p_with_one_way : DS := wRet (wOp dAdd (wOp dAdd (wSl false (wVar 0) oNo (oPart (wVar 1))) (wTup (wCons (wTup (wCons (wVar 2) (wNil))) (wNil)))) (wSl false (wVar 0) (oPart (wOp dAdd (wVar 1) (wC (.int 1)))) oNo))
def oneF (f : List (List P2)) (i : Nat) (p : P2) : List (List P2) := f.set i [p]
theorem set_cuts {α : Type} {f : List α} {i : Nat} (h : i < f.length) (x : α) : cutL f none (some (i : Int)) ++ [x] ++ cutL f (some ((i : Int) + 1)) none = f.set i x := by
  have e1 : ((i : Int) + 1) = ((i + 1 : Nat) : Int) := rfl
  rw [e1, cut_take, cut_drop, List.append_assoc, List.set_eq_take_append_cons_drop, if_pos h]
  rfl
def S_p_with_one_way : DL.Spec := pureS 3 (fun x : List (List P2) × Nat × P2 => [encF x.1, .int x.2.1, encP x.2.2]) (fun x => x.2.1 < x.1.length ∧ x.1.length ≤ 1000) (fun x => encF (oneF x.1 x.2.1 x.2.2))
theorem vc_p_with_one_way : ∀ g sto, (S_p_with_one_way.args g).length = S_p_with_one_way.n → S_p_with_one_way.pre g sto → w_p_with_one_way (bodyEnds (S_p_with_one_way.post g sto)) (startE ["field", "work", "way"] (S_p_with_one_way.args g)) sto := by
  rintro ⟨f, i, p⟩ sto _ ⟨hi, hl⟩
  dsimp only at hi hl
  have z1 : 1 ≤ sizeLine := by decide
  simp? only [w_p_with_one_way, S_p_with_one_way, pureS, encF, v_slT]
  have l1 := cutL_length (f.map encR) none (some (i : Int))
  have l2 := cutL_length (f.map encR) (some ((i : Int) + 1)) none
  rw [List.length_map] at l1 l2
  refine ⟨z1, z1, by rw [sizeLine_eq]; omega, by rw [List.length_append, List.length_singleton, sizeLine_eq]; omega, ?_⟩
  have e := set_cuts (f := f) hi [p]
  rw [cut_map, cut_map]
  refine congrArg D.tup ?_
  unfold oneF
  rw [← e, List.map_append, List.map_append]
  rfl
def w_p_parted_rightly : DS := wSeq (wAsg (wSl false (wVar 1) (oPart (wC (.int 1))) oNo) (gTp 2 (gCn (gNm 2) (gCn (gNm 3) gNl)))) (wSeq (wIf (wOr (wNot (wTest (wCall S_p_is_from (wCons (wVar 2) (wCons (wC (.int 0)) (wCons (wOp dSub (wCB bLen (wCons (wVar 0) (wNil))) (wC (.int 1))) (wNil))))))) (wNot (wTest (wIsi "tuple" (wVar 3))))) (wRet (wC (.bl false))) ((fun D env st => D.nx env st))) (wRet (wAndV (wOp dNe (wCB bLen (wCons (wOp dIx (wVar 0) (wVar 2)) (wNil))) (wC (.int 1))) (wOp dEq (wCB bLen (wCons (wVar 3) (wNil))) (wCB bLen (wCons (wOp dIx (wVar 0) (wVar 2)) (wNil)))))))
def partD (f : List (List P2)) : D → D → Bool
  | .int i, .tup ns => if 0 ≤ i then (if i ≤ (f.length : Int) - 1 then (!((f[i.toNat]?).getD []).length == 1) && ns.length == ((f[i.toNat]?).getD []).length else false) else false
  | _, _ => false
def S_p_parted_rightly : DL.Spec := pureS 2 (fun x : List (List P2) × D × D => [encF x.1, .tup [.int 0, x.2.1, x.2.2]]) (fun x => x.2.1.noRef ∧ x.2.2.noRef) (fun x => .bl (partD x.1 x.2.1 x.2.2))
theorem vc_p_parted_rightly : ∀ g sto, (S_p_parted_rightly.args g).length = S_p_parted_rightly.n → S_p_parted_rightly.pre g sto → w_p_parted_rightly (bodyEnds (S_p_parted_rightly.post g sto)) (startE ["field", "node", "work", "nodes"] (S_p_parted_rightly.args g)) sto := by
  rintro ⟨f, a, b⟩ sto _ ⟨ha, hb⟩
  dsimp only at ha hb
  simp? only [w_p_parted_rightly, S_p_parted_rightly, pureS, v_slT, encF, show cutL [D.int 0, a, b] (some 1) none = [a, b] from rfl]
  refine use_pure (a, 0, (f.length : Int) - 1) rfl rfl ha ?_
  dsimp only
  cases a with
  | int i =>
    by_cases h0 : 0 ≤ i
    · by_cases h1 : i ≤ (f.length : Int) - 1
      · have hi : i.toNat < f.length := by omega
        have e : atI (f.map encR) i = some (encR f[i.toNat]) := by
          refine atI_map ?_
          unfold atI ixN
          rw [if_pos h0, if_pos (by omega)]
          exact List.getElem?_eq_getElem hi
        simp? only [fromF, h0, h1]
        refine ⟨hb, ?_⟩
        rcases isa_tup (d := b) with ⟨ds, rfl⟩ | ⟨g1, g2⟩
        · simp? only [isa_tupT, e, encR, partD, h0, h1, List.getElem?_eq_getElem hi, Option.getD_some]
          have q1 : (((f[i.toNat].length : Nat) : Int) == 1) = (f[i.toNat].length == 1) := by rw [Bool.eq_iff_iff, beq_iff_eq, beq_iff_eq]; omega
          have q2 : (((ds.length : Nat) : Int) == ((f[i.toNat].length : Nat) : Int)) = (ds.length == f[i.toNat].length) := by rw [Bool.eq_iff_iff, beq_iff_eq, beq_iff_eq]; omega
          rw [q1, q2]
          cases f[i.toNat].length == 1 <;> simp
        · have e2 : partD f (.int i) b = false := by
            cases b with
            | tup ds => exact absurd rfl (g2 ds)
            | _ => rfl
          simp? only [g1, e2]
      · have e2 : partD f (.int i) b = false := by
          cases b <;> simp [partD, h0, h1]
        simp? only [fromF, h0, h1, e2, decide_false]
    · have e2 : partD f (.int i) b = false := by
        cases b <;> simp [partD, h0]
      simp? only [fromF, h0, e2]
  | ref n => exact ha.elim
  | fn => exact ha.elim
  | exc => exact ha.elim
  | _ => simp? only [fromF, partD]
def w_p_full_rightly : DS := wSeq (wAsg (wSl false (wVar 2) (oPart (wC (.int 1))) oNo) (gTp 2 (gCn (gNm 3) (gCn (gNm 4) gNl)))) (wSeq (wIf (wOr (wNot (wTest (wCall S_p_is_from (wCons (wVar 4) (wCons (wC (.int 1)) (wCons (wOp dIx (wVar 0) (wC (.int 0))) (wNil))))))) (wNot (wTest (wCall S_p_is_from (wCons (wVar 3) (wCons (wC (.int 0)) (wCons (wOp dSub (wVar 4) (wC (.int 1))) (wNil)))))))) (wRet (wC (.bl false))) ((fun D env st => D.nx env st))) (wRet (wCall S_p_is_full (wCons (wVar 0) (wCons (wVar 1) (wCons (wVar 3) (wCons (wVar 4) (wNil))))))))
def fullD (s : Sy) (f : List (List P2)) : D → D → Bool
  | .int a, .int b => if 1 ≤ b then (if b ≤ s.days then (if 0 ≤ a then (if a ≤ b - 1 then fullF s f a b else false) else false) else false) else false
  | _, _ => false
def S_p_full_rightly : DL.Spec := pureS 3 (fun x : Sy × List (List P2) × D × D => [x.1.d, encF x.2.1, .tup [.int 2, x.2.2.1, x.2.2.2]]) (fun x => FieldOk x.1 x.2.1 ∧ x.1.days ≤ 1000 ∧ x.2.2.1.noRef ∧ x.2.2.2.noRef) (fun x => .bl (fullD x.1 x.2.1 x.2.2.1 x.2.2.2))
theorem vc_p_full_rightly : ∀ g sto, (S_p_full_rightly.args g).length = S_p_full_rightly.n → S_p_full_rightly.pre g sto → w_p_full_rightly (bodyEnds (S_p_full_rightly.post g sto)) (startE ["system", "field", "node", "first", "last"] (S_p_full_rightly.args g)) sto := by
  rintro ⟨s, f, a, b⟩ sto _ ⟨hf, hd, ha, hb⟩
  dsimp only at hf hd ha hb
  simp? only [w_p_full_rightly, S_p_full_rightly, pureS, v_slT, show cutL [D.int 2, a, b] (some 1) none = [a, b] from rfl]
  refine use_pure (b, 1, s.days) rfl rfl hb ?_
  dsimp only
  cases b with
  | int j =>
    by_cases h0 : 1 ≤ j
    · by_cases h1 : j ≤ s.days
      · simp? only [fromF, h0, h1]
        refine use_pure (a, 0, j - 1) rfl rfl ha ?_
        dsimp only
        cases a with
        | int i =>
          by_cases h2 : 0 ≤ i
          · by_cases h3 : i ≤ j - 1
            · simp? only [fromF, h2, h3, fullD, h0, h1, decide_false]
              exact ⟨(s, f, i, j), rfl, rfl, ⟨hf, h2, by omega, by omega, by omega⟩, fun d s2 ⟨e1, e2⟩ => ⟨e1, e2⟩⟩
            · simp? only [fromF, h2, h3, fullD, h0, h1, decide_false]
          · simp? only [fromF, h2, fullD, h0, h1]
        | ref n => exact ha.elim
        | fn => exact ha.elim
        | exc => exact ha.elim
        | _ => simp? only [fromF, fullD]
      · have e2 : fullD s f a (.int j) = false := by
          cases a <;> simp [fullD, h0, h1]
        simp? only [fromF, h0, h1, e2, decide_false]
    · have e2 : fullD s f a (.int j) = false := by
        cases a <;> simp [fullD, h0]
      simp? only [fromF, h0, e2]
  | ref n => exact hb.elim
  | fn => exact hb.elim
  | exc => exact hb.elim
  | _ =>
    simp? only [fromF]
    refine congrArg D.bl ?_
    cases a <;> rfl
def w_p_hopeless_rightly : DS := wSeq (wIf (wOr (wTest (wOp (dIsN fun b => b) (wVar 3) (wC .non))) (wTest (wOp dIn (wTup (wNil)) (wVar 1)))) (wRet (wC (.bl false))) ((fun D env st => D.nx env st))) (wRet (wOp dLe (wCall S_p_hope_of (wCons (wVar 0) (wCons (wVar 1) (wCons (wVar 2) (wNil))))) (wVar 3)))
def encW : Option (List Int) → D
  | none => .non
  | some w => dInts w
def hopelF (s : Sy) (f : List (List P2)) (c : Bool) (old : List (Option P2)) : Option (List Int) → Bool
  | none => false
  | some w => if (f.any fun r => r.isEmpty) = true then false else !HT.lexLt w (hopeF s f c old)
theorem eqv_nilR (r : List P2) : (encR r).eqv (.tup []) = r.isEmpty := by
  unfold encR
  simp only [D.eqv, isE_eqvL, isE_map]
theorem v_inNil {f : List (List P2)} {g : Bool → Bool} {st : Sto} {Q : DK} (q : Q (.bl (g (f.any fun r => r.isEmpty))) st) : dInB g (.tup []) (encF f) st Q := by
  refine ⟨f.map encR, .inr rfl, rfl, okL_encR f, by show min _ 1 ≤ 60; omega, ?_⟩
  rw [List.any_map]
  have e : ((fun z => D.eqv z (rd st (.tup []))) ∘ encR) = fun r : List P2 => r.isEmpty := funext fun r => eqv_nilR r
  rw [e]
  exact q
theorem v_leInts {a b : List Int} {st : Sto} {Q : DK} (q : Q (.bl (!HT.lexLt b a)) st) : dLe (dInts a) (dInts b) st Q := ⟨a, b, ints_map a, ints_map b, q⟩
structure CaseOk (s : Sy) (f : List (List P2)) : Prop where
  wish : ∀ u ∈ s.wishes, u.Ok s.works.length s.days
  len : f.length = s.works.length
  few : s.works.length ≤ 100
  row : ∀ r ∈ f, r.length ≤ 10000
  hands : s.hands.length ≤ 1000
  days : s.days ≤ 1000
theorem CaseOk.hope {s : Sy} {f : List (List P2)} (h : CaseOk s f) (hn : (f.any fun r => r.isEmpty) = false) : HopePre s f := by
  refine ⟨h.wish, h.len, h.few, fun r hr => ⟨fun e => ?_, h.row r hr⟩⟩
  rw [List.any_eq_false] at hn
  exact hn r hr (by rw [e]; rfl)
theorem CaseOk.field {s : Sy} {f : List (List P2)} (h : CaseOk s f) : FieldOk s f := ⟨Nat.le_of_eq h.len, by have := h.few; omega, h.row, h.hands⟩
theorem CaseOk.one {s : Sy} {f : List (List P2)} (h : CaseOk s f) (i : Nat) (p : P2) : CaseOk s (oneF f i p) := by
  refine ⟨h.wish, by unfold oneF; rw [List.length_set]; exact h.len, h.few, fun r hr => ?_, h.hands, h.days⟩
  rcases List.mem_or_eq_of_mem_set hr with hr | rfl
  · exact h.row r hr
  · show 1 ≤ 10000; decide
def S_p_hopeless_rightly : DL.Spec := pureS 4 (fun x : Sy × List (List P2) × (Bool × List (Option P2)) × Option (List Int) => [x.1.d, encF x.2.1, .tup [.bl x.2.2.1.1, encB x.2.2.1.2], encW x.2.2.2]) (fun x => CaseOk x.1 x.2.1) (fun x => .bl (hopelF x.1 x.2.1 x.2.2.1.1 x.2.2.1.2 x.2.2.2))
theorem vc_p_hopeless_rightly : ∀ g sto, (S_p_hopeless_rightly.args g).length = S_p_hopeless_rightly.n → S_p_hopeless_rightly.pre g sto → w_p_hopeless_rightly (bodyEnds (S_p_hopeless_rightly.post g sto)) (startE ["system", "field", "aim", "worth"] (S_p_hopeless_rightly.args g)) sto := by
  rintro ⟨s, f, ⟨c, old⟩, w⟩ sto _ (hp : CaseOk s f)
  cases w with
  | none =>
    simp? only [w_p_hopeless_rightly, S_p_hopeless_rightly, pureS, encW, dIsN, D.isNon, hopelF]
  | some w =>
    simp? only [w_p_hopeless_rightly, S_p_hopeless_rightly, pureS, encW, dIsN, D.isNon, hopelF]
    rw [if_neg (by simp [dInts])]
    refine ⟨Nat.zero_le _, v_inNil ?_⟩
    cases he : f.any fun r => r.isEmpty with
    | true => (try simp? only [true_and])
    | false =>
      (try simp? only [true_and])
      refine use_pure (s, f, c, old) rfl rfl (hp.hope he) ?_
      exact v_leInts ⟨rfl, rfl⟩
def w_p_led_down_1 : DS := wSeq (wIf (wOr (wNot (wTest (wCall S_p_is_from (wCons (wVar 5) (wCons (wOp dAdd (wVar 2) (wC (.int 1))) (wCons (wOp dSub (wCB bLen (wCons (wVar 3) (wNil))) (wC (.int 1))) (wNil))))))) (wTest (wOp (dIsN fun b => !b) (wOp dIx (wVar 3) (wVar 5)) (wC .non)))) (wRet (wC (.bl false))) ((fun D env st => D.nx env st))) (wAsg (wCall S_p_with_one_way (wCons (wVar 0) (wCons (wOp dIx (wVar 1) (wC (.int 1))) (wCons (wVar 4) (wNil))))) (gSet (wVar 3) (wVar 5)))
def w_p_led_down : DS := wSeq (wFor (iZip (wOp dIx (wVar 0) (wOp dIx (wVar 1) (wC (.int 1)))) (wOp dIx (wVar 1) (wC (.int 2)))) (gTp 2 (gCn (gNm 4) (gCn (gNm 5) gNl))) w_p_led_down_1) (wRet (wC (.bl true)))
def encFO : Option (List (List P2)) → D
  | none => .non
  | some f => encF f
def ledG (f : List (List P2)) (i at_ : Nat) : List (P2 × D) → List (Option (List (List P2))) → Option (List (Option (List (List P2))))
  | [], fs => some fs
  | x :: r, fs => match x.2 with
    | .int t => if (at_ : Int) + 1 ≤ t then (if t ≤ (fs.length : Int) - 1 then (match fs[t.toNat]? with
      | some none => ledG f i at_ r (fs.set t.toNat (some (oneF f i x.1)))
      | _ => none) else none) else none
    | _ => none
theorem ledG_append {f : List (List P2)} {i at_ : Nat} : ∀ (a b : List (P2 × D)) (fs : List (Option (List (List P2)))), ledG f i at_ (a ++ b) fs = (ledG f i at_ a fs).bind (ledG f i at_ b)
  | [], b, fs => rfl
  | x :: r, b, fs => by
    rw [List.cons_append]
    unfold ledG
    split
    · split
      · split
        · split
          · exact ledG_append r b _
          · rfl
        · rfl
      · rfl
    · rfl
theorem set_self {α : Type} {l : List α} {n : Nat} {x : α} (h : l[n]? = some x) : l.set n x = l := by
  obtain ⟨hn, e⟩ := List.getElem?_eq_some_iff.mp h
  rw [← e]
  exact List.set_getElem_self hn
def rowN (f : List (List P2)) (i : Nat) : List P2 := (f[i]?).getD []
structure LedG where
  f : List (List P2)
  i : Nat
  ns : List D
  at_ : Nat
  n : Nat
  fs : List (Option (List (List P2)))
def S_p_led_down : DL.Spec := ⟨4, LedG, fun x => [encF x.f, .tup [.int 0, .int x.i, .tup x.ns], .int x.at_, .ref x.n], fun x st => x.i < x.f.length ∧ x.f.length ≤ 1000 ∧ (∀ d ∈ x.ns, d.noRef) ∧ st[x.n]? = some (.lst (x.fs.map encFO)),
  fun x st d st' => (ledG x.f x.i x.at_ ((rowN x.f x.i).zip x.ns) x.fs = none ∧ d = .bl false ∧ ∃ fs', st' = st.set x.n (.lst (List.map encFO fs'))) ∨ ∃ fs', ledG x.f x.i x.at_ ((rowN x.f x.i).zip x.ns) x.fs = some fs' ∧ d = .bl true ∧ st' = st.set x.n (.lst (fs'.map encFO))⟩
theorem vc_p_led_down : ∀ g sto, (S_p_led_down.args g).length = S_p_led_down.n → S_p_led_down.pre g sto → w_p_led_down (bodyEnds (S_p_led_down.post g sto)) (startE ["field", "node", "at", "fields", "way", "there"] (S_p_led_down.args g)) sto := by
  rintro ⟨f, i, ns, at_, n, fs⟩ sto _ ⟨hi, hfl, hns, hst⟩
  dsimp only at hi hfl hns hst
  have hrow : f[i]? = some (rowN f i) := by unfold rowN; rw [List.getElem?_eq_getElem hi]; rfl
  have hat : atI (f.map encR) (i : Int) = some (encR (rowN f i)) := atI_map (atI_of (by omega) (by rw [Int.toNat_natCast]; exact hrow))
  simp? only [w_p_led_down, S_p_led_down, encF, wFor, hat, encR]
  have hn : n < sto.length := (List.getElem?_eq_some_iff.mp hst).1
  generalize hr : rowN f i = row at *
  refine forL_inv (fun k e st => ∃ x4 x5 fs', e = [some (encF f), some (.tup [.int 0, .int i, .tup ns]), some (.int at_), some (.ref n), x4, x5] ∧ st = sto.set n (.lst (fs'.map encFO)) ∧ ledG f i at_ ((row.zip ns).take k) fs = some fs') ?_ ?_ _ _ ⟨_, _, fs, rfl, (set_self hst).symm, by rw [List.take_zero]; rfl⟩
  · rintro k e st d ⟨x4, x5, fs', rfl, rfl, hl⟩ he R hR
    have hk := (List.getElem?_eq_some_iff.mp he).1
    obtain ⟨p', t, h1, h2, h3⟩ := zipD_at hk
    rw [h3] at he
    cases he
    rw [List.getElem?_map] at h1
    cases hp : row[k]? with
    | none => rw [hp] at h1; cases h1
    | some p =>
      rw [hp] at h1
      cases h1
      have hz : (row.zip ns)[k]? = some (p, t) := by rw [List.getElem?_zip_eq_some]; exact ⟨hp, h2⟩
      have htn := hns t (List.mem_of_getElem? h2)
      have hnew : (sto.set n (.lst (fs'.map encFO)))[n]? = some (.lst (fs'.map encFO)) := List.getElem?_set_self hn
      have hsplit : ∀ b, row.zip ns = (row.zip ns).take k ++ (p, t) :: b → ledG f i at_ (row.zip ns) fs = ledG f i at_ ((p, t) :: b) fs' := fun b e => by
        rw [e, ledG_append, hl]
        rfl
      have e5 : row.zip ns = (row.zip ns).take k ++ (p, t) :: (row.zip ns).drop (k + 1) := by
        have := List.take_append_drop k (row.zip ns)
        have h6 := List.drop_eq_getElem_cons (List.getElem?_eq_some_iff.mp hz).1
        rw [(List.getElem?_eq_some_iff.mp hz).2] at h6
        rw [h6] at this
        exact this.symm
      have e6 := hsplit _ e5
      refine ⟨trivial, ?_⟩
      simp? only [w_p_led_down_1, v_lenR (rd_ref' hnew)]
      have hz1 := take_snoc hz
      refine use_pure (t, (at_ : Int) + 1, (fs'.length : Int) - 1) rfl rfl htn ?_
      dsimp only
      have no : ledG f i at_ ((p, t) :: (row.zip ns).drop (k + 1)) fs' = none → ledG f i at_ (row.zip ns) fs = none := fun h => by rw [e6, h]
      cases t with
      | int j =>
        by_cases h0 : (at_ : Int) + 1 ≤ j
        · by_cases h1 : j ≤ (fs'.length : Int) - 1
          · have hj : j.toNat < fs'.length := by omega
            have hq : atI (fs'.map encFO) j = some (encFO fs'[j.toNat]) := by
              refine atI_map ?_
              unfold atI ixN
              rw [if_pos (by omega), if_pos (by omega)]
              exact List.getElem?_eq_getElem hj
            simp? only [fromF, h0, h1, v_ixR (rd_ref' hnew), hq]
            cases hc : fs'[j.toNat] with
            | none =>
              simp? only [encFO, dIsN, D.isNon]
              refine use_pure (f, i, p) rfl rfl ⟨hi, hfl⟩ ?_
              refine ⟨_, rfl, _, rfl, n, _, j, j.toNat, rfl, rfl, hnew, ?_, ?_⟩
              rotate_left
              · rw [List.set_set]
                refine hR _ _ ⟨_, _, fs'.set j.toNat (some (oneF f i p)), rfl, ?_, ?_⟩
                · rw [List.map_set]
                  rfl
                · rw [hz1, ledG_append, hl]
                  show ledG f i at_ [(p, D.int j)] fs' = _
                  rw [ledG]
                  simp only [h0, h1, if_true, List.getElem?_eq_getElem hj, hc]
                  rw [ledG]
              · unfold ixN
                rw [if_pos (by omega), if_pos (by rw [List.length_map]; omega)]
            | some g =>
              simp? only [encFO, encF, dIsN, D.isNon]
              refine .inl ⟨no ?_, _, rfl⟩
              rw [ledG]
              simp [h0, h1, List.getElem?_eq_getElem hj, hc]
          · simp? only [fromF, h0, h1, decide_false]
            refine .inl ⟨no ?_, _, rfl⟩
            rw [ledG]
            simp [h0, h1]
        · simp? only [fromF, h0]
          refine .inl ⟨no ?_, _, rfl⟩
          rw [ledG]
          simp [h0]
      | ref n => exact htn.elim
      | fn => exact htn.elim
      | exc => exact htn.elim
      | _ =>
        simp? only [fromF]
        refine .inl ⟨no ?_, _, rfl⟩
        rw [ledG]
  · rintro e st ⟨x4, x5, fs', rfl, rfl, hl⟩
    rw [zipD_len, List.length_map, ← List.length_zip, List.take_length] at hl
    refine ⟨trivial, ?_⟩
    (try simp? only [true_and])
    exact .inr ⟨fs', hl, rfl⟩
def w_p_holds_at : DS := wSeq (wIf (wNot (wTest (wCall S_p_is_a_node (wCons (wVar 4) (wNil))))) (wRet (wC (.bl false))) ((fun D env st => D.nx env st))) (wSeq (wIf (wTest (wOp dEq (wOp dIx (wVar 4) (wC (.int 0))) (wC (.int 0)))) (wRet (wCall S_p_parted_rightly (wCons (wVar 1) (wCons (wVar 4) (wNil))))) ((fun D env st => D.nx env st))) (wSeq (wIf (wTest (wOp dEq (wOp dIx (wVar 4) (wC (.int 0))) (wC (.int 1)))) (wRet (wCall S_p_clashes_rightly (wCons (wVar 0) (wCons (wVar 1) (wCons (wVar 4) (wNil)))))) ((fun D env st => D.nx env st))) (wSeq (wIf (wTest (wOp dEq (wOp dIx (wVar 4) (wC (.int 0))) (wC (.int 2)))) (wRet (wCall S_p_full_rightly (wCons (wVar 0) (wCons (wVar 1) (wCons (wVar 4) (wNil)))))) ((fun D env st => D.nx env st))) (wRet (wCall S_p_hopeless_rightly (wCons (wVar 0) (wCons (wVar 1) (wCons (wVar 2) (wCons (wVar 3) (wNil))))))))))
def holdsD (s : Sy) (f : List (List P2)) (c : Bool) (old : List (Option P2)) (w : Option (List Int)) (d : D) : Bool := match d with
  | .tup (.int k :: r) => if k = 0 then (match r with | [a, b] => partD f a b | _ => false) else if k = 1 then (match r with | [a, b] => clashD s f a b | _ => false) else if k = 2 then (match r with | [a, b] => fullD s f a b | _ => false) else if k = 3 then (match r with | [] => hopelF s f c old w | _ => false) else false
  | _ => false
theorem isNode_sh {d : D} (h : isNode d = true) : (∃ k a b, d = .tup [.int k, a, b] ∧ (k = 0 ∨ k = 1 ∨ k = 2)) ∨ d = .tup [.int 3] := by
  unfold isNode at h
  split at h
  · rename_i k ds
    split at h
    · split at h
      · rcases (show k = 0 ∨ k = 1 ∨ k = 2 ∨ k = 3 by omega) with rfl | rfl | rfl | rfl
        all_goals
          rw [beq_iff_eq] at h
          simp only [nodeSz] at h
        iterate 3
          · match ds, h with
            | [a, b], _ => exact .inl ⟨_, a, b, rfl, by decide⟩
        · match ds, h with
          | [], _ => exact .inr rfl
      · cases h
    · cases h
  · cases h
theorem holdsD_not {s : Sy} {f : List (List P2)} {c : Bool} {old : List (Option P2)} {w : Option (List Int)} {d : D} (h : isNode d = false) : holdsD s f c old w d = false := by
  unfold holdsD
  unfold isNode at h
  split
  · rename_i k r
    split
    · subst k
      split
      · simp [nodeSz] at h
      · rfl
    · split
      · subst k
        split
        · simp [nodeSz] at h
        · rfl
      · split
        · subst k
          split
          · simp [nodeSz] at h
          · rfl
        · split
          · subst k
            split
            · simp [nodeSz] at h
            · rfl
          · rfl
  · rfl
def S_p_holds_at : DL.Spec := pureS 5 (fun x : Sy × List (List P2) × (Bool × List (Option P2)) × Option (List Int) × D => [x.1.d, encF x.2.1, .tup [.bl x.2.2.1.1, encB x.2.2.1.2], encW x.2.2.2.1, x.2.2.2.2]) (fun x => CaseOk x.1 x.2.1 ∧ x.2.2.2.2.blw 0 = true) (fun x => .bl (holdsD x.1 x.2.1 x.2.2.1.1 x.2.2.1.2 x.2.2.2.1 x.2.2.2.2))
theorem vc_p_holds_at : ∀ g sto, (S_p_holds_at.args g).length = S_p_holds_at.n → S_p_holds_at.pre g sto → w_p_holds_at (bodyEnds (S_p_holds_at.post g sto)) (startE ["system", "field", "aim", "worth", "node"] (S_p_holds_at.args g)) sto := by
  rintro ⟨s, f, ⟨c, old⟩, w, d⟩ sto _ ⟨hp, hd⟩
  dsimp only at hp hd
  simp? only [w_p_holds_at, S_p_holds_at, pureS]
  refine use_pure d rfl rfl hd ?_
  cases hN : isNode d with
  | false =>
    simp? only [holdsD_not hN]
  | true =>
    rcases isNode_sh hN with ⟨k, a, b, rfl, hk⟩ | rfl
    · have ha : a.noRef := noRef_of (blw_items hd a (by simp))
      have hb : b.noRef := noRef_of (blw_items hd b (by simp))
      rcases hk with rfl | rfl | rfl
      · (try simp? only [true_and])
        exact use_pure (f, a, b) rfl rfl ⟨ha, hb⟩ ⟨rfl, rfl⟩
      · (try simp? only [true_and])
        exact use_pure (s, f, a, b) rfl rfl ⟨hp.len, ha, hb⟩ ⟨rfl, rfl⟩
      · (try simp? only [true_and])
        exact use_pure (s, f, a, b) rfl rfl ⟨hp.field, hp.days, ha, hb⟩ ⟨rfl, rfl⟩
    · (try simp? only [true_and])
      exact use_pure (s, f, (c, old), w) rfl rfl hp ⟨rfl, rfl⟩
def w_p_cases_hold_1 : DS := wSeq (wAsg (wOp dIx (wVar 5) (wVar 6)) (gNm 8)) (wSeq (wIf (wOr (wTest (wOp (dIsN fun b => b) (wVar 8) (wC .non))) (wNot (wTest (wCall S_p_holds_at (wCons (wVar 0) (wCons (wVar 8) (wCons (wVar 2) (wCons (wVar 3) (wCons (wVar 7) (wNil)))))))))) (wRet (wC (.bl false))) ((fun D env st => D.nx env st))) (wIf (wAnd (wTest (wOp dEq (wOp dIx (wVar 7) (wC (.int 0))) (wC (.int 0)))) (wNot (wTest (wCall S_p_led_down (wCons (wVar 8) (wCons (wVar 7) (wCons (wVar 6) (wCons (wVar 5) (wNil))))))))) (wRet (wC (.bl false))) ((fun D env st => D.nx env st))))
def w_p_cases_hold : DS := wSeq (wIf (wOr (wNot (wTest (wIsi "tuple" (wVar 4)))) (wNot (wTest (wChain dLe dLe (wC (.int 1)) (wCB bLen (wCons (wVar 4) (wNil))) (wC (.int 30000)))))) (wRet (wC (.bl false))) ((fun D env st => D.nx env st))) (wSeq (wAsg (wOp dAddM (wLst false (wCons (wVar 1) (wNil))) (wOp dMul (wLst false (wCons (wC .non) (wNil))) (wOp dSub (wCB bLen (wCons (wVar 4) (wNil))) (wC (.int 1))))) (gNm 5)) (wSeq (wFor (iEnum (wVar 4)) (gTp 2 (gCn (gNm 6) (gCn (gNm 7) gNl))) w_p_cases_hold_1) (wRet (wC (.bl true)))))
def ledN (f : List (List P2)) (at_ : Nat) (d : D) (fs : List (Option (List (List P2)))) : Option (List (Option (List (List P2)))) := match d with
  | .tup [.int k, .int i, .tup ns] => if k = 0 then ledG f i.toNat at_ ((rowN f i.toNat).zip ns) fs else some fs
  | _ => some fs
def casesG (s : Sy) (c : Bool) (old : List (Option P2)) (w : Option (List Int)) : Nat → List D → List (Option (List (List P2))) → Bool
  | _, [], _ => true
  | at_, d :: r, fs => match fs[at_]? with
    | some (some f) => if holdsD s f c old w d = true then (match ledN f at_ d fs with
      | some fs' => casesG s c old w (at_ + 1) r fs'
      | none => false) else false
    | _ => false
def casesD (s : Sy) (f : List (List P2)) (c : Bool) (old : List (Option P2)) (w : Option (List Int)) : D → Bool
  | .tup ds => if 1 ≤ ds.length then (if ds.length ≤ 30000 then casesG s c old w 0 ds (some f :: List.replicate (ds.length - 1) none) else false) else false
  | _ => false
theorem ledN_not {f : List (List P2)} {k : Nat} {kk : Int} {a b : D} {fs : List (Option (List (List P2)))} (h : kk ≠ 0) : ledN f k (.tup [.int kk, a, b]) fs = some fs := by
  unfold ledN
  split
  · rename_i e
    injection e with e
    injection e with e1 e2
    injection e1 with e1
    subst e1
    rw [if_neg h]
  · rfl
theorem partD_int {f : List (List P2)} {a b : D} (h : partD f a b = true) : ∃ (i : Nat) (ns : List D), a = .int i ∧ b = .tup ns ∧ i < f.length := by
  unfold partD at h
  split at h
  · rename_i i ns
    split at h
    · split at h
      · rename_i h0 h1
        exact ⟨i.toNat, ns, by rw [Int.toNat_of_nonneg h0], rfl, by omega⟩
      · cases h
    · cases h
  · cases h
theorem ledG_ok {P : List (List P2) → Prop} {f : List (List P2)} {i at_ : Nat} (hP : ∀ p, P (oneF f i p)) : ∀ (xs : List (P2 × D)) (fs fs' : List (Option (List (List P2)))), ledG f i at_ xs fs = some fs' → (∀ g, some g ∈ fs → P g) → fs'.length = fs.length ∧ ∀ g, some g ∈ fs' → P g
  | [], fs, fs', h, hp => by cases h; exact ⟨rfl, hp⟩
  | x :: r, fs, fs', h, hp => by
    unfold ledG at h
    split at h
    · split at h
      · split at h
        · split at h
          · obtain ⟨h1, h2⟩ := ledG_ok hP r _ _ h fun g hg => by
              rcases List.mem_or_eq_of_mem_set hg with hg | hg
              · exact hp g hg
              · cases hg; exact hP _
            rw [List.length_set] at h1
            exact ⟨h1, h2⟩
          · cases h
        · cases h
      · cases h
    · cases h
def S_p_cases_hold : DL.Spec := pureS 5 (fun x : Sy × List (List P2) × (Bool × List (Option P2)) × Option (List Int) × D => [x.1.d, encF x.2.1, .tup [.bl x.2.2.1.1, encB x.2.2.1.2], encW x.2.2.2.1, x.2.2.2.2]) (fun x => CaseOk x.1 x.2.1 ∧ x.2.2.2.2.blw 0 = true) (fun x => .bl (casesD x.1 x.2.1 x.2.2.1.1 x.2.2.1.2 x.2.2.2.1 x.2.2.2.2))
theorem vc_p_cases_hold : ∀ g sto, (S_p_cases_hold.args g).length = S_p_cases_hold.n → S_p_cases_hold.pre g sto → w_p_cases_hold (bodyEnds (popEnds sto.length sto (S_p_cases_hold.post g sto))) (startE ["system", "field", "aim", "worth", "thing", "fields", "at", "node", "own"] (S_p_cases_hold.args g)) sto := by
  rintro ⟨s, f0, ⟨c, old⟩, w, d⟩ sto _ ⟨hp, hd⟩
  dsimp only at hp hd
  have z1 : 1 ≤ sizeLine := by decide
  simp? only [w_p_cases_hold, S_p_cases_hold, pureS, dAddM, wFor]
  refine ⟨noRef_of hd, ?_⟩
  rcases isa_tup (d := d) with ⟨ds, rfl⟩ | ⟨h1, h2⟩
  · simp? only [isa_tupT]
    have stop : ∀ {b : Bool} {c' : Cel}, casesD s f0 c old w (.tup ds) = b → popEnds (List.length sto) sto (fun d st' => st' = sto ∧ d = D.bl (casesD s f0 c old w (D.tup ds))) (D.bl b) (sto ++ [c']) := fun h => ⟨sto, _, rfl, rfl, rfl, fun i c h => .inl h, rfl, by rw [h]⟩
    have stop0 : ∀ {b : Bool}, casesD s f0 c old w (.tup ds) = b → popEnds (List.length sto) sto (fun d st' => st' = sto ∧ d = D.bl (casesD s f0 c old w (D.tup ds))) (D.bl b) sto := fun h => ⟨sto, [], (List.append_nil _).symm, rfl, rfl, fun i c h => .inl h, rfl, by rw [h]⟩
    by_cases h1 : 1 ≤ ds.length
    · by_cases h2 : ds.length ≤ 30000
      · rw [if_pos (by omega), if_neg (by simp; omega)]
        rw [v_mulL, flat_one]
        refine ⟨z1, z1, by omega, by omega, by rw [List.length_singleton, sizeLine_eq]; omega, _, _, rfl, rfl, by rw [List.length_singleton, List.length_replicate, sizeLine_eq]; omega, ?_⟩
        have e0 : [encF f0] ++ List.replicate ((ds.length : Int) - 1).toNat D.non = (some f0 :: List.replicate (ds.length - 1) none).map encFO := by
          rw [List.map_cons, List.map_replicate, show ((ds.length : Int) - 1).toNat = ds.length - 1 by omega]
          rfl
        rw [e0]
        have eD : casesD s f0 c old w (.tup ds) = casesG s c old w 0 ds (some f0 :: List.replicate (ds.length - 1) none) := by
          show (if _ then _ else _) = _
          rw [if_pos h1, if_pos h2]
        refine forL_inv (fun k e st => ∃ x6 x7 x8 fs, e = [some s.d, some (encF f0), some (.tup [.bl c, encB old]), some (encW w), some (.tup ds), some (.ref sto.length), x6, x7, x8] ∧ st = sto ++ [.lst (List.map encFO fs)] ∧ fs.length = ds.length ∧ (∀ g, some g ∈ fs → CaseOk s g) ∧ casesD s f0 c old w (.tup ds) = casesG s c old w k (ds.drop k) fs) ?_ ?_ _ _ ⟨_, _, _, _, rfl, rfl, by rw [List.length_cons, List.length_replicate]; omega, fun g hg => ?_, eD⟩
        · rintro k e st d ⟨x6, x7, x8, fs, rfl, rfl, hfl, hok, hc⟩ he R hR
          rw [← List.map_id ds] at he
          obtain ⟨node, hnode, rfl⟩ := enum_at he
          have hk := (List.getElem?_eq_some_iff.mp hnode).1
          have hnb := blw_items hd node (List.mem_of_getElem? hnode)
          have hdrop := List.drop_eq_getElem_cons hk
          rw [(List.getElem?_eq_some_iff.mp hnode).2] at hdrop
          rw [hdrop] at hc
          refine ⟨trivial, ?_⟩
          have hkf : k < fs.length := by omega
          have hat : atI (fs.map encFO) (k : Int) = some (encFO fs[k]) := atI_map (atI_of (by omega) (by rw [Int.toNat_natCast]; exact List.getElem?_eq_getElem hkf))
          simp? only [id, w_p_cases_hold_1, v_ixR (rd_ref' (get_last _ _)), hat]
          rw [casesG, List.getElem?_eq_getElem hkf] at hc
          cases ho : fs[k] with
          | none =>
            rw [ho] at hc
            simp? only [encFO, dIsN, D.isNon]
            exact stop hc
          | some f =>
            rw [ho] at hc
            have hcf := hok f (ho ▸ List.getElem_mem hkf)
            simp? only [encFO, dIsN, D.isNon]
            rw [if_neg (by simp [encF])]
            refine use_pure (s, f, (c, old), w, node) rfl rfl ⟨hcf, hnb⟩ ?_
            dsimp only at hc ⊢
            cases hh : holdsD s f c old w node with
            | false =>
              rw [hh] at hc
              (try simp? only [true_and])
              exact stop hc
            | true =>
              rw [hh, if_pos rfl] at hc
              (try simp? only [true_and])
              have hN : isNode node = true := by
                cases hN : isNode node with
                | true => rfl
                | false => rw [holdsD_not hN] at hh; cases hh
              have same : ∀ {e}, ledN f k node fs = some fs → e = [some s.d, some (encF f0), some (D.tup [D.bl c, encB old]), some (encW w), some (D.tup ds), some (D.ref (List.length sto)), some (D.int (k : Nat)), some node, some (encF f)] → R e (sto ++ [Cel.lst (List.map encFO fs)]) := fun h e => by
                rw [h] at hc
                exact hR _ _ ⟨_, _, _, fs, e, rfl, hfl, hok, hc⟩
              rcases isNode_sh hN with ⟨kk, a, b, rfl, hkk⟩ | rfl
              · by_cases hk0 : kk = 0
                · subst hk0
                  have hpt : partD f a b = true := hh
                  obtain ⟨i, ns, rfl, rfl, hi⟩ := partD_int hpt
                  (try simp? only [true_and])
                  refine ⟨⟨f, i, ns, k, sto.length, fs⟩, rfl, rfl, ⟨hi, by have := hcf.len; have := hcf.few; show f.length ≤ 1000; omega, fun d hd' => noRef_of (blw_items (blw_items hnb _ (by simp)) d hd'), get_last _ _⟩, ?_⟩
                  have hled : ledN f k (.tup [.int 0, .int i, .tup ns]) fs = ledG f i k ((rowN f i).zip ns) fs := by
                    simp only [ledN, if_true, Int.toNat_natCast]
                  rw [hled] at hc
                  rintro d s2 (⟨h3, rfl, fs', rfl⟩ | ⟨fs', h3, rfl, rfl⟩)
                  · dsimp only at h3
                    rw [h3] at hc
                    refine ⟨_, rfl, ?_⟩
                    rw [set_last]
                    exact stop hc
                  · dsimp only at h3
                    rw [h3] at hc
                    obtain ⟨g1, g2⟩ := ledG_ok (P := CaseOk s) (fun p => hcf.one i p) _ _ _ h3 hok
                    refine ⟨_, rfl, ?_⟩
                    rw [set_last]
                    exact hR _ _ ⟨_, _, _, fs', rfl, rfl, by omega, g2, hc⟩
                · have hne : (kk == 0) = false := by rw [beq_eq_false_iff_ne]; exact hk0
                  simp? only [hne]
                  exact same (ledN_not hk0) rfl
              · (try simp? only [true_and])
                exact same rfl rfl
        · rintro e st ⟨x6, x7, x8, fs, rfl, rfl, hfl, hok, hc⟩
          rw [enum_len, List.drop_length, casesG] at hc
          exact ⟨trivial, stop hc⟩
        · rcases List.mem_cons.mp hg with h | h
          · cases h; exact hp
          · have := List.eq_of_mem_replicate h; cases this
      · rw [if_pos (by omega), if_pos (by simp; omega)]
        refine stop0 ?_
        show (if _ then _ else _) = _
        rw [if_pos h1, if_neg h2]
    · rw [if_neg (by omega)]
      refine stop0 ?_
      show (if _ then _ else _) = _
      rw [if_neg h1]
  · have e : casesD s f0 c old w d = false := by
      cases d with
      | tup ds => exact absurd rfl (h2 ds)
      | _ => rfl
    simp? only [h1, e]
    exact ⟨sto, [], (List.append_nil _).symm, rfl, rfl, fun i c h => .inl h, rfl, rfl⟩
theorem hends_zip {s : Sy} {f : List (List P2)} (h : f.length = s.works.length) (hf : RowsFull f) : (f.zip s.works).map (fun x => minL (x.1.map (·.1)) + x.2.len) = hEndsL s f := by
  refine List.ext_getElem? fun i => ?_
  unfold hEndsL
  simp only [List.getElem?_map, List.getElem?_zipIdx]
  by_cases hi : i < f.length
  · have hi2 : i < s.works.length := by omega
    have hne := (hf _ (List.getElem_mem hi)).1
    rw [List.getElem?_eq_getElem hi, List.getElem?_eq_getElem (l := f.zip s.works) (by rw [List.length_zip]; omega)]
    simp only [Option.map_some, List.getElem_zip, wkAt, Nat.zero_add, List.getElem?_eq_getElem hi2, Option.getD_some]
    rw [← minL_add (fun z => hne (List.map_eq_nil_iff.mp z)), List.map_map]
    rfl
  · rw [List.getElem?_eq_none (l := f) (by omega), List.getElem?_eq_none (l := f.zip s.works) (by rw [List.length_zip]; omega)]
    rfl
theorem flt_empty {α : Type} (P : α → Bool) : ∀ xs : List α, (!(xs.filter P).isEmpty) = xs.any P
  | [] => rfl
  | x :: r => by
    rw [List.filter_cons, List.any_cons]
    cases P x with
    | true => rfl
    | false => exact flt_empty P r
def w_f_law_hope_1 : DT := wAnd (wTest (wOp (dIsN fun b => !b) (wVar 8) (wC .non))) (wTest (wOp dNotIn (wVar 8) (wVar 7)))
def w_f_law_hope_2 : DT := wTest (wCall S_f_law_kept (wCons (wVar 0) (wCons (wVar 5) (wCons (wVar 9) (wNil)))))
def w_f_law_hope_3 : DS := wIf (wTest (wOp dNe (wComp false (iSeq (wOp dIx (wVar 1) (wOp dIx (wVar 5) (wC (.int 0))))) (.nm 9) w_f_law_hope_2 (wVar 9) [9]) (wLst false (wNil)))) (wAsg (wOp dAdd (wOp dIx (wVar 4) (wOp dIx (wVar 5) (wC (.int 4)))) (wOp dIx (wVar 5) (wC (.int 3)))) (gSet (wVar 4) (wOp dIx (wVar 5) (wC (.int 4))))) ((fun D env st => D.nx env st))
def w_f_law_hope_4 : DE := wOp dIx (wVar 9) (wC (.int 0))
def w_f_law_hope_5 : DE := wOp dAdd (wCB bMin1 (wCons (wComp false (iSeq (wVar 7)) (.nm 9) wYes w_f_law_hope_4 [9]) (wNil))) (wOp dIx (wVar 10) (wC (.int 0)))
def w_f_law_hope : DS := wSeq (wAsg (wCB bLen (wCons (wComp false (iZip (wVar 1) (wOp dIx (wVar 2) (wC (.int 1)))) (.tp [7, 8]) w_f_law_hope_1 (wC (.int 1)) [7, 8]) (wNil))) (gNm 3)) (wSeq (wAsg (wLst true (wCons (wC (.int 0)) (wCons (wC (.int 0)) (wCons (wC (.int 0)) (wCons (wC (.int 0)) (wNil)))))) (gNm 4)) (wSeq (wFor (iSeq (wOp dIx (wVar 0) (wC (.int 3)))) (gNm 5) w_f_law_hope_3) (wSeq (wAsg (wCB bSum (wCons (wComp false (iZip (wVar 1) (wOp dIx (wVar 0) (wC (.int 2)))) (.tp [7, 10]) wYes w_f_law_hope_5 [7, 10]) (wNil))) (gNm 6)) (wRet (wCall S_f_law_row_of (wCons (wOp dIx (wVar 2) (wC (.int 0))) (wCons (wVar 3) (wCons (wCB bTuple (wCons (wVar 4) (wNil))) (wCons (wVar 6) (wNil))))))))))
def S_f_law_hope : DL.Spec := pureS 3 (fun x : Sy × List (List P2) × Bool × List (Option P2) => [x.1.d, encF x.2.1, .tup [.bl x.2.2.1, encB x.2.2.2]]) (fun x => HopePre x.1 x.2.1) (fun x => dInts (hopeF x.1 x.2.1 x.2.2.1 x.2.2.2))
theorem vc_f_law_hope : ∀ g sto, (S_f_law_hope.args g).length = S_f_law_hope.n → S_f_law_hope.pre g sto → w_f_law_hope (bodyEnds (popEnds sto.length sto (S_f_law_hope.post g sto))) (startE ["_law_system_here", "_law_field", "_law_aim_here", "_law_others", "_law_weights_here", "_law_wish_here", "_law_ends_here", "_law_row", "_law_pair", "_law_way", "_law_work_here"] (S_f_law_hope.args g)) sto := by
  rintro ⟨s, f, c, old⟩ sto _ (hp : HopePre s f)
  obtain ⟨hu, hl, hw, hf⟩ := hp
  simp? only [w_f_law_hope, S_f_law_hope, pureS, wFor, encF, encB, zip_map]
  refine ⟨by rw [List.length_zip, sizeLine_eq]; omega, compL_flt (fun x : List P2 × Option P2 => .tup [encR x.1, encO x.2]) (fun x => smB x.1 x.2) (fun _ => (1 : Int)) D.int trivial _ (fun x hx R hR => ?_) ?_⟩
  · obtain ⟨r, o⟩ := x
    cases o with
    | none =>
      simp? only [Tg.dg, w_f_law_hope_1, List.foldr_cons, List.foldr_nil, encO, dIsN, D.isNon]
      exact hR
    | some q =>
      simp? only [Tg.dg, w_f_law_hope_1, List.foldr_cons, List.foldr_nil, encO, dIsN, D.isNon]
      rw [if_pos (by rfl)]
      simp? only [v_notInP]
      exact hR
  · have esm : (((f.zip old).filter fun x => smB x.1 x.2).length : Int) = smovedF f old := rfl
    simp? only [esm]
    refine ⟨by decide, ?_⟩
    refine forL_fold Ws.d (fun g u => if hkeptF s f u = true then addW g u.rank.toNat u.weight else g) (fun _ g e st => ∃ x, e = [some s.d, some (.tup (f.map encR)), some (.tup [.bl c, .tup (old.map encO)]), some (.int (smovedF f old)), some (.ref sto.length), x, none, none, none, none, none] ∧ st = sto ++ [.lst (g.map .int)] ∧ g.length = 4) s.wishes [0, 0, 0, 0] _ _ ?_ ?_ ⟨_, rfl, rfl, rfl⟩
    · rintro i g u e st hi hm ⟨x, rfl, rfl, hg⟩ R hR
      obtain ⟨h1, h2⟩ := row_ix (hu u hm) hl
      have hr := hf _ h2
      refine ⟨trivial, ?_⟩
      simp? only [w_f_law_hope_3, wComp, wipeE, ws_ix0, h1, encR]
      refine ⟨by rw [sizeLine_eq]; omega, compL_flt encP (fun p => keptF s u p) id encP trivial _ (fun p hp R2 hR2 => ?_) ?_⟩
      · simp? only [Tg.dg, w_f_law_hope_2]
        refine use_pure (s, u, p) rfl rfl (hu u hm) ?_
        (try simp? only [true_and])
        cases hk : keptF s u p with
        | true => rw [hk] at hR2; exact hR2
        | false => rw [hk] at hR2; exact hR2
      · rw [List.map_id]
        have ea : (!((rowAt f u).filter fun p => keptF s u p).isEmpty) = hkeptF s f u := flt_empty _ _
        simp? only [okL_encP, isE_map, ea]
        refine ⟨Nat.zero_le _, ?_⟩
        obtain ⟨a1, a2⟩ := rank_ix hg (hu u hm).rank
        cases hk : hkeptF s f u with
        | true =>
          rw [hk, if_pos rfl] at hR
          simp? only [ws_ix3, ws_ix4, v_ixR (rd_ref' (get_last _ _)), a1, gSet]
          refine ⟨_, _, _, _, rfl, rfl, get_last _ _, a2, ?_⟩
          rw [set_last]
          refine hR _ _ ⟨_, rfl, ?_, by rw [addW_len]; exact hg⟩
          unfold addW
          rw [List.map_set]
        | false =>
          rw [hk, if_neg (by decide)] at hR
          simp? only [true_and]
          exact hR _ _ ⟨_, rfl, rfl, hg⟩
    · rintro e st ⟨x, rfl, rfl, hg⟩
      refine ⟨trivial, ?_⟩
      simp? only [wComp, wipeE, zip_map]
      refine ⟨by rw [List.length_zip, sizeLine_eq]; omega, compL_all (fun x : List P2 × Wk => .tup [encR x.1, x.2.d]) (fun x => minL (x.1.map (·.1)) + x.2.len) D.int trivial _ (fun x hx R hR => ?_) ?_⟩
      · have hr := hf x.1 (List.of_mem_zip hx).1
        simp? only [Tg.dg, w_f_law_hope_5, List.foldr_cons, List.foldr_nil, encR]
        refine ⟨by rw [sizeLine_eq]; omega, compL_all encP (fun p => p.1) D.int trivial _ (fun p hp R2 hR2 => ?_) ?_⟩
        · simp? only [Tg.dg, w_f_law_hope_4, p_ix0]
          exact hR2
        · refine v_minL (fun z => hr.1 (List.map_eq_nil_iff.mp z)) ?_
          (try simp? only [true_and])
          exact hR
      · rw [hends_zip hl hf]
        simp? only [v_sum]
        simp? only [v_tupL (rd_ref' (get_last _ _))]
        refine use_pure (c, smovedF f old, weightsF (hkeptF s f) s.wishes, hEndsF s f) rfl rfl (by show (weightsF _ _).length ≤ 100; rw [weightsF_len]; decide) ?_
        exact ⟨sto, _, rfl, rfl, by simp only [dInts, D.blw]; exact blwL_ints _ _, fun i c h => .inl h, rfl, rfl⟩
def AimOk (old : List (Option P2)) : Prop := ∀ o ∈ old, ∀ q, o = some q → (0 ≤ q.1 ∧ q.1 ≤ 1000) ∧ (0 ≤ q.2 ∧ q.2 ≤ 1000)
theorem blw_encB (n : Nat) (bs : List (Option P2)) : (encB bs).blw n = true := by
  unfold encB
  simp only [D.blw]
  induction bs with
  | nil => rfl
  | cons o bs ih =>
    rw [List.map_cons]
    simp only [D.blwL, ih, Bool.and_true]
    cases o <;> rfl
def loneF (ps : List P2) : List (List P2) := ps.map fun p => [p]
theorem hope_lone {s : Sy} {ps : List P2} (hl : ps.length = s.works.length) (hu : ∀ u ∈ s.wishes, u.Ok s.works.length s.days) (c : Bool) (old : List (Option P2)) : hopeF s (loneF ps) c old = worthF s ps c old := by
  have e1 : smovedF (loneF ps) old = movedF ps old := by
    unfold smovedF movedF loneF
    rw [List.zip_map_left, List.filter_map, List.length_map]
    congr 2
    refine List.filter_congr fun x _ => ?_
    obtain ⟨p, o⟩ := x
    cases o with
    | none => rfl
    | some q =>
      show (!([p].any (· == q))) = !(q == p)
      simp only [List.any_cons, List.any_nil, Bool.or_false]
      congr 1
      rw [Bool.eq_iff_iff, beq_iff_eq, beq_iff_eq]
      exact eq_comm
  have e2 : hEndsF s (loneF ps) = endsF s ps := by
    unfold hEndsF endsF hEndsL endsL loneF
    rw [List.zipIdx_map, List.map_map]
    rfl
  have e3 : weightsF (hkeptF s (loneF ps)) s.wishes = weightsF (fun u => keptF s u (wayOf ps u)) s.wishes := by
    have key : ∀ (us : List Ws) (g : List Int), (∀ u ∈ us, u ∈ s.wishes) → us.foldl (fun f u => if hkeptF s (loneF ps) u = true then addW f u.rank.toNat u.weight else f) g = us.foldl (fun f u => if keptF s u (wayOf ps u) = true then addW f u.rank.toNat u.weight else f) g := fun us => by
      induction us with
      | nil => intro g _; rfl
      | cons u us ih =>
        intro g h
        have hw := (hu u (h u List.mem_cons_self)).work
        have hi : u.work.toNat < ps.length := by omega
        have e : hkeptF s (loneF ps) u = keptF s u (wayOf ps u) := by
          unfold hkeptF rowAt loneF wayOf
          rw [List.getElem?_map, List.getElem?_eq_getElem hi]
          simp
        rw [List.foldl_cons, List.foldl_cons, e]
        exact ih _ fun v hv => h v (List.mem_cons_of_mem _ hv)
    exact key _ _ fun u h => h
  unfold hopeF worthF
  rw [e1, e2, e3]
inductive RS : List (List P2) → List (List P2) → Prop
  | nil : RS [] []
  | cons {a r : List P2} {g f : List (List P2)} : (∀ p ∈ a, p ∈ r) → a ≠ [] → RS g f → RS (a :: g) (r :: f)
theorem RS.refl : ∀ {f : List (List P2)}, (∀ r ∈ f, r ≠ []) → RS f f
  | [], _ => .nil
  | r :: f, h => .cons (fun _ h => h) (h r List.mem_cons_self) (RS.refl fun x hx => h x (List.mem_cons_of_mem _ hx))
theorem RS.one : ∀ {f : List (List P2)} {i : Nat} {r : List P2} {p : P2}, (∀ r ∈ f, r ≠ []) → f[i]? = some r → p ∈ r → RS (oneF f i p) f
  | [], _, _, _, _, h, _ => by cases h
  | q :: f, 0, r, p, hn, h, hp => by
    cases h
    exact .cons (fun x hx => by rw [List.mem_singleton] at hx; subst hx; exact hp) (by simp) (RS.refl fun x hx => hn x (List.mem_cons_of_mem _ hx))
  | q :: f, i + 1, r, p, hn, h, hp => .cons (fun _ h => h) (hn q List.mem_cons_self) (RS.one (f := f) (i := i) (fun x hx => hn x (List.mem_cons_of_mem _ hx)) h hp)
theorem smoved_mono : ∀ {g f : List (List P2)} (old : List (Option P2)), RS g f → smovedF f old ≤ smovedF g old
  | _, _, _, .nil => by simp [smovedF]
  | _, _, [], .cons _ _ _ => by simp [smovedF]
  | _, _, o :: old, .cons (a := a) (r := r) h _ t => by
    have ih := smoved_mono old t
    unfold smovedF at ih ⊢
    rw [List.zip_cons_cons, List.zip_cons_cons, List.filter_cons, List.filter_cons]
    have key : smB r o = true → smB a o = true := fun hs => by
      cases o with
      | none => cases hs
      | some q =>
        have h1 : (!(r.any (· == q))) = true := hs
        show (!(a.any (· == q))) = true
        rw [Bool.not_eq_true'] at h1 ⊢
        rw [List.any_eq_false] at h1 ⊢
        exact fun x hx => h1 x (h x hx)
    dsimp only
    cases e1 : smB r o with
    | true =>
      rw [key e1, if_pos rfl, if_pos rfl, List.length_cons, List.length_cons]
      omega
    | false =>
      rw [if_neg (by decide)]
      split
      · rw [List.length_cons]; omega
      · exact ih
theorem ends_mono (s : Sy) : ∀ {g f : List (List P2)} (n : Nat), RS g f → ((f.zipIdx n).map fun x => minL (x.1.map fun p => p.1 + (wkAt s x.2).len)).sum ≤ ((g.zipIdx n).map fun x => minL (x.1.map fun p => p.1 + (wkAt s x.2).len)).sum
  | _, _, _, .nil => by simp
  | _, _, n, .cons (a := a) (r := r) h hn t => by
    have ih := ends_mono s (n + 1) t
    rw [List.zipIdx_cons, List.zipIdx_cons, List.map_cons, List.map_cons, List.sum_cons, List.sum_cons]
    have ha := (minL_is (ns := a.map fun p => p.1 + (wkAt s n).len) (fun z => by rw [List.map_eq_nil_iff] at z; exact hn z)).1
    obtain ⟨p, hp, e⟩ := List.mem_map.mp ha
    have hr := h p hp
    have := (minL_is (ns := r.map fun p => p.1 + (wkAt s n).len) (fun z => by rw [List.map_eq_nil_iff] at z; rw [z] at hr; cases hr)).2 _ (List.mem_map.mpr ⟨p, hr, rfl⟩)
    dsimp only
    omega
theorem RS.row : ∀ {g f : List (List P2)}, RS g f → ∀ (k : Nat) (p : P2), p ∈ (g[k]?).getD [] → p ∈ (f[k]?).getD []
  | _, _, .nil, k, p, h => h
  | _, _, .cons h _ _, 0, p, hp => h p hp
  | _, _, .cons _ _ t, k + 1, p, hp => RS.row t k p hp
theorem hope_mono {s : Sy} {g f : List (List P2)} (hu : ∀ u ∈ s.wishes, 0 ≤ u.weight) (h : RS g f) (c : Bool) (old : List (Option P2)) : AllLe (hopeF s g c old) (hopeF s f c old) := by
  have h1 := smoved_mono old h
  have h2 : hEndsF s f ≤ hEndsF s g := ends_mono s 0 h
  have h3 : AllLe (weightsF (hkeptF s g) s.wishes) (weightsF (hkeptF s f) s.wishes) := by
    refine weights_le _ _ _ (fun u hm => ⟨hu u hm, fun hk => ?_⟩) (AllLe.refl _)
    obtain ⟨p, hp, hk⟩ := List.any_eq_true.mp hk
    exact List.any_eq_true.mpr ⟨p, h.row _ p hp, hk⟩
  unfold hopeF rowF
  cases c with
  | true =>
    simp only [if_true]
    exact .cons (by omega) (h3.append (.cons (by omega) .nil))
  | false =>
    simp only [Bool.false_eq_true, if_false]
    exact h3.append (.cons (by omega) (.cons (by omega) .nil))
theorem AllLe.trans : ∀ {a b c : List Int}, AllLe a b → AllLe b c → AllLe a c
  | _, _, _, .nil, .nil => .nil
  | _, _, _, .cons h t, .cons h2 t2 => .cons (Int.le_trans h h2) (t.trans t2)
/-- the walk of cases never ends without a node -/
def Lays (s : Sy) (f : List (List P2)) (c : Bool) (old : List (Option P2)) (w : Option (List Int)) : Prop := (∃ r ∈ f, r = []) ∨ ((∀ r ∈ f, r ≠ []) ∧ ∃ v, w = some v ∧ AllLe (hopeF s f c old) v)
theorem Lays.one {s : Sy} {f : List (List P2)} {c : Bool} {old : List (Option P2)} {w : Option (List Int)} (hu : ∀ u ∈ s.wishes, 0 ≤ u.weight) (h : Lays s f c old w) {i : Nat} {r : List P2} {p : P2} (hi : f[i]? = some r) (hp : p ∈ r) : Lays s (oneF f i p) c old w := by
  have hil := (List.getElem?_eq_some_iff.mp hi).1
  rcases h with ⟨q, hq, rfl⟩ | ⟨hn, v, rfl, hv⟩
  · refine .inl ⟨[], ?_, rfl⟩
    obtain ⟨k, hk⟩ := List.getElem?_of_mem hq
    have hki : i ≠ k := fun e => by
      subst e
      rw [hk] at hi
      cases hi
      cases hp
    refine List.mem_of_getElem? (i := k) ?_
    unfold oneF
    rw [List.getElem?_set_ne hki]
    exact hk
  · refine .inr ⟨fun q hq => ?_, v, rfl, (hope_mono hu (RS.one hn hi hp) c old).trans hv⟩
    rcases List.mem_or_eq_of_mem_set hq with hq | rfl
    · exact hn q hq
    · simp
def w_f_law_full_1 : DT := wOr (wTest (wOp dLt (wOp dIx (wVar 12) (wC (.int 0))) (wVar 2))) (wTest (wOp dGt (wOp dAdd (wOp dIx (wVar 12) (wC (.int 0))) (wVar 8)) (wVar 3)))
def w_f_law_full_2 : DE := wOp dIx (wVar 12) (wC (.int 1))
def w_f_law_full_3 : DS := wSeq (wAsg (wOp dIx (wOp dIx (wOp dIx (wVar 0) (wC (.int 2))) (wVar 6)) (wC (.int 0))) (gNm 8)) (wIf (wTest (wOp dEq (wComp false (iSeq (wVar 7)) (.nm 12) w_f_law_full_1 (wVar 12) [12]) (wLst false (wNil)))) (wSeq (wAsg (wOp dAdd (wVar 4) (wVar 8)) (gNm 4)) (wAsg (wOp dAdd (wVar 5) (wComp false (iSeq (wVar 7)) (.nm 12) wYes w_f_law_full_2 [12])) (gNm 5))) ((fun D env st => D.nx env st)))
def w_f_law_full_4 : DT := wTest (wOp dNotIn (wVar 13) (wVar 11))
def w_f_law_full_5 : DS := wIf (wTest (wOp dIn (wVar 10) (wVar 5))) (wAsg (wOp dAdd (wVar 9) (wCB bLen (wCons (wComp false (iRange2 (wCons (wVar 2) (wCons (wVar 3) (wNil)))) (.nm 13) w_f_law_full_4 (wVar 13) [13]) (wNil)))) (gNm 9)) ((fun D env st => D.nx env st))
def w_f_law_full : DS := wSeq (wAsg (wC (.int 0)) (gNm 4)) (wSeq (wAsg (wLst false (wNil)) (gNm 5)) (wSeq (wFor (iEnum (wVar 1)) (gTp 2 (gCn (gNm 6) (gCn (gNm 7) gNl))) w_f_law_full_3) (wSeq (wAsg (wC (.int 0)) (gNm 9)) (wSeq (wFor (iEnum (wOp dIx (wVar 0) (wC (.int 1)))) (gTp 2 (gCn (gNm 10) (gCn (gNm 11) gNl))) w_f_law_full_5) (wRet (wOp dGt (wVar 4) (wVar 9)))))))
def S_f_law_full : DL.Spec := pureS 4 (fun (x : Sy × List (List (Int × Int)) × Int × Int) => [x.1.d, encF x.2.1, .int x.2.2.1, .int x.2.2.2]) (fun x => FieldOk x.1 x.2.1 ∧ 0 ≤ x.2.2.1 ∧ x.2.2.1 ≤ 1000 ∧ 0 ≤ x.2.2.2 ∧ x.2.2.2 ≤ 1000) (fun x => .bl (fullF x.1 x.2.1 x.2.2.1 x.2.2.2))
def outF (w : Wk) (a b : Int) (p : Int × Int) : Bool := if p.1 < a then true else decide (b < p.1 + w.len)
theorem out_within (w : Wk) (a b : Int) (r : List (Int × Int)) : (!r.any (outF w a b)) = r.all (withinF w a b) := by
  rw [List.not_any_eq_all_not]
  congr 1
  funext p
  unfold outF withinF
  by_cases h : p.1 < a
  · rw [if_pos h, if_neg (by omega)]; rfl
  · rw [if_neg h, if_pos (by omega)]
    by_cases h2 : p.1 + w.len ≤ b
    · simp [h2]
    · simp [h2]; omega
theorem vc_f_law_full : ∀ g sto, (S_f_law_full.args g).length = S_f_law_full.n → S_f_law_full.pre g sto → w_f_law_full (bodyEnds (S_f_law_full.post g sto)) (startE ["_law_system_here", "_law_field", "_law_first", "_law_last", "_law_lengths", "_law_hands", "_law_work_here", "_law_row", "_law_length", "_law_given", "_law_hand", "_law_gone", "_law_way", "_law_day"] (S_f_law_full.args g)) sto := by
  rintro ⟨s, f, a, b⟩ sto _ ⟨fo, a0, a1, b0, b1⟩
  have fl := fo.len
  have ff := fo.few
  simp? only [w_f_law_full, S_f_law_full, pureS, encF, wFor] at *
  rw [enumF]
  refine ⟨Nat.zero_le _, ?_⟩
  refine forL_fold encE (stepF s a b) (fun k z e st => ∃ x6 x7 x8, e = [some s.d, some (.tup (f.map encR)), some (.int a), some (.int b), some (.int z.1), some (.lst (z.2.map .int)), x6, x7, x8, none, none, none, none, none] ∧ st = sto ∧ z.2.length ≤ k * 10000) _ (0, []) _ _ ?_ ?_ ⟨_, _, _, rfl, rfl, Nat.le_refl _⟩
  · rintro k z x e st hk hx ⟨x6, x7, x8, rfl, rfl, hl⟩ R hR
    obtain ⟨hx1, hx2⟩ := zip_at hx
    rw [List.length_zipIdx] at hk
    refine ⟨trivial, ?_⟩
    have hw : s.works[x.2]? = some (wkAt s x.2) := by
      have : x.2 < s.works.length := by omega
      unfold wkAt
      rw [List.getElem?_eq_getElem this]
      rfl
    have hwi : atI s.works (x.2 : Int) = some (wkAt s x.2) := atI_of (by omega) (by rw [Int.toNat_natCast]; exact hw)
    have hr := fo.row _ hx2
    unfold stepF at hR
    simp? only [encE, encR, w_f_law_full_3, wComp, wipeE]
    refine ⟨_, atI_map hwi, ?_⟩
    (try simp? only [true_and])
    refine ⟨by rw [sizeLine_eq]; omega, ?_⟩
    refine compL_flt encP (outF (wkAt s x.2) a b) id encP trivial _ (fun p hp R2 hR2 => ?_) ?_
    · simp? only [Tg.dg, w_f_law_full_1, p_ix0]
      unfold outF at hR2
      by_cases h : p.1 < a
      · simp? only [h] at hR2 ⊢; exact hR2
      · simp? only [h] at hR2 ⊢; exact hR2
    · rw [List.map_id]
      simp? only [isE_map, isE_filter, out_within]
      refine ⟨Nat.zero_le _, okL_encP _, ?_⟩
      by_cases hc : x.1.all (withinF (wkAt s x.2) a b) = true
      · simp only [hc, if_true] at hR ⊢
        (try simp? only [true_and])
        refine ⟨by rw [sizeLine_eq]; omega, ?_⟩
        refine compL_all encP (fun p : Int × Int => p.2) D.int trivial _ (fun p hp R2 hR2 => ?_) ?_
        · simp? only [Tg.dg, wYes, w_f_law_full_2, p_ix1]
          exact hR2
        · have lz : (z.2 ++ x.1.map (·.2)).length ≤ (k + 1) * 10000 := by rw [List.length_append, List.length_map]; omega
          simp? only [true_and]
          refine ⟨by rw [sizeLine_eq]; omega, ?_⟩
          rw [← List.map_append]
          exact hR _ _ ⟨_, _, _, rfl, rfl, lz⟩
      · simp? only [hc] at hR ⊢
        exact hR _ _ ⟨_, _, _, rfl, rfl, by omega⟩
  · rintro e st ⟨x6, x7, x8, rfl, rfl, hl⟩
    refine ⟨trivial, ?_⟩
    have hh := fo.hands
    generalize hz : f.zipIdx.foldl (stepF s a b) (0, []) = z
    have hsz : standF s f a b = z := hz
    rw [hz] at hl
    rw [List.length_zipIdx] at hl
    simp? only [true_and]
    have key : ∀ n : Nat, sumF s z.2 a b = sumF s z.2 a b := fun _ => rfl
    refine forL_inv (fun i e st' => ∃ v x10 x11, e = [some s.d, some (.tup (f.map encR)), some (.int a), some (.int b), some (.int z.1), some (.lst (z.2.map .int)), x6, x7, x8, some (.int v), x10, x11, none, none] ∧ v = (((rangeI 0 i).filter fun h => z.2.any (· == h)).map fun h => givenF (handAt s h) a b).sum ∧ st' = st) ?_ ?_ _ _ ⟨_, _, _, rfl, rfl, rfl⟩
    · rintro i e st d ⟨v, x10, x11, rfl, rfl, rfl⟩ he R hR
      obtain ⟨row, hrow, rfl⟩ := enum_at he
      have hi := (List.getElem?_eq_some_iff.mp hrow).1
      have hat : handAt s (i : Int) = row := by
        unfold handAt
        rw [atI_of (i := (i : Int)) (by omega) (by rw [Int.toNat_natCast]; exact hrow)]
        rfl
      refine ⟨trivial, ?_⟩
      simp? only [w_f_law_full_5, wComp, wipeE]
      refine v_inL rfl ⟨_, rfl, ?_⟩
      rw [rangeI_succ, List.filter_append, List.map_append, List.sum_append] at hR
      by_cases hc : z.2.any (· == (i : Int)) = true
      · rw [if_pos hc]
        (try simp? only [true_and])
        refine ⟨⟨by omega, by omega, by omega, by omega⟩, by rw [rangeD_len, sizeLine_eq]; omega, ?_⟩
        rw [rangeD_eq]
        refine compL_flt D.int (fun x => !row.any (· == x)) id D.int trivial _ (fun x hx R2 hR2 => ?_) ?_
        · simp? only [Tg.dg, w_f_law_full_4]
          exact v_notInI ⟨_, rfl, hR2⟩
        · rw [List.map_id]
          (try simp? only [true_and])
          refine hR _ _ ⟨_, _, _, rfl, ?_, rfl⟩
          have e1 : [0 + (i : Int)].filter (fun h => z.2.any (· == h)) = [(i : Int)] := by
            rw [Int.zero_add, List.filter_cons, if_pos hc]; rfl
          rw [e1]
          simp only [List.map_cons, List.map_nil, List.sum_cons, List.sum_nil, hat, givenF, Int.add_zero]
      · rw [if_neg hc]
        refine hR _ _ ⟨_, _, _, rfl, ?_, rfl⟩
        have e1 : [0 + (i : Int)].filter (fun h => z.2.any (· == h)) = [] := by
          rw [Int.zero_add, List.filter_cons, if_neg hc]; rfl
        rw [e1]
        simp only [List.map_nil, List.sum_nil, Int.add_zero]
    · rintro e st' ⟨v, x10, x11, rfl, rfl, rfl⟩
      refine ⟨trivial, ?_⟩
      rw [enum_len, List.length_map]
      unfold fullF
      rw [hsz]
      simp? only [true_and]
      rfl
theorem v_gtInts {a b : List Int} {st : Sto} {Q : DK} (q : Q (.bl (HT.lexLt b a)) st) : dGt (dInts a) (dInts b) st Q := ⟨a, b, ints_map a, ints_map b, q⟩
inductive Nd where
  | clash (a b : Nat) | full (a b : Int) | hope | part (w : Nat) (ks : List Nat)
def Nd.d : Nd → D
  | .clash a b => .tup [.int 1, .int a, .int b]
  | .full a b => .tup [.int 2, .int a, .int b]
  | .hope => .tup [.int 3]
  | .part w ks => .tup [.int 0, .int w, .tup (ks.map fun k => .int (k : Nat))]
def Nd.Leaf : Nd → Prop
  | .clash a b => a < 12 ∧ b < 12
  | .full a b => (0 ≤ a ∧ a ≤ 30) ∧ 0 ≤ b ∧ b ≤ 30
  | .hope => True
  | .part _ _ => False
theorem blw_nd (n : Nat) : ∀ l : Nd, l.d.blw n = true
  | .clash _ _ => rfl
  | .full _ _ => rfl
  | .hope => rfl
  | .part w ks => by
    have h : ∀ ks : List Nat, D.blwL n (ks.map fun k : Nat => D.int (k : Nat)) = true := fun ks => by
      induction ks with
      | nil => rfl
      | cons k ks ih => rw [List.map_cons]; simp only [D.blwL, D.blw, ih, Bool.and_self]
    simp only [Nd.d, D.blw, D.blwL, h, Bool.and_self]
theorem blw_nds (ls : List Nd) (n : Nat) : (D.lst (ls.map Nd.d)).blw n = true := by
  have h : ∀ ls : List Nd, D.blwL n (ls.map Nd.d) = true := fun ls => by
    induction ls with
    | nil => rfl
    | cons l ls ih => rw [List.map_cons]; simp only [D.blwL, blw_nd, ih, Bool.and_self]
  simp only [D.blw, h]
theorem range_nat (n : Nat) : rangeD 0 n = (List.range n).map fun k : Nat => D.int (k : Nat) := by
  unfold rangeD
  refine List.map_congr_left fun i _ => ?_
  rw [Int.zero_add]
structure LayOk (s : Sy) (f : List (List P2)) : Prop where
  s30 : S30 s
  co : CaseOk s f
  few : f.length ≤ 12
/-- a leaf that holds -/
def LfH (s : Sy) (f : List (List P2)) (c : Bool) (old : List (Option P2)) (w : Option (List Int)) (l : Nd) : Prop := l.Leaf ∧ holdsD s f c old w l.d = true
/-- two works of one way each that clash -/
def ClAt (s : Sy) (f : List (List P2)) (a b : Nat) : Prop := a < f.length ∧ b < f.length ∧ a ≠ b ∧ ∃ p q, rowN f a = [p] ∧ rowN f b = [q] ∧ clF (a : Int) (b : Int) (wkAt s a) (wkAt s b) p q = true
theorem lfH_clash {s : Sy} {f : List (List P2)} {c : Bool} {old : List (Option P2)} {w : Option (List Int)} {a b : Nat} (h12 : f.length ≤ 12) (h : ClAt s f a b) : LfH s f c old w (.clash a b) := by
  obtain ⟨h1, h2, h3, p, q, h4, h5, h6⟩ := h
  refine ⟨⟨by omega, by omega⟩, ?_⟩
  have e : holdsD s f c old w (Nd.clash a b).d = clashD s f (.int a) (.int b) := rfl
  rw [e]
  have l : ∀ {k : Nat} {p : P2}, k < f.length → rowN f k = [p] → lone1 f (.int k) = true ∧ f[k]? = some [p] := fun {k p} hk e => by
    have e2 : f[k]? = some (rowN f k) := by unfold rowN; rw [List.getElem?_eq_getElem hk]; rfl
    rw [e] at e2
    refine ⟨?_, e2⟩
    unfold lone1
    dsimp only
    rw [if_pos (by omega), if_pos (by omega), Int.toNat_natCast, e2]
    rfl
  obtain ⟨a1, a2⟩ := l h1 h4
  obtain ⟨b1, b2⟩ := l h2 h5
  unfold clashD
  dsimp only
  rw [a1, b1, Int.toNat_natCast, Int.toNat_natCast, a2, b2]
  have e3 : ((a : Int) == (b : Int)) = false := by rw [beq_eq_false_iff_ne]; omega
  rw [e3, if_pos (by rfl)]
  exact h6
theorem lfH_full {s : Sy} {f : List (List P2)} {c : Bool} {old : List (Option P2)} {w : Option (List Int)} {a b : Int} (hd : s.days ≤ 30) (h0 : 0 ≤ a) (h1 : a < b) (h2 : b ≤ s.days) (h : fullF s f a b = true) : LfH s f c old w (.full a b) := by
  refine ⟨⟨⟨h0, by omega⟩, by omega, by omega⟩, ?_⟩
  show fullD s f (.int a) (.int b) = true
  unfold fullD
  dsimp only
  rw [if_pos (by omega), if_pos h2, if_pos h0, if_pos (by omega)]
  exact h
theorem lfH_hope {s : Sy} {f : List (List P2)} {c : Bool} {old : List (Option P2)} {v : List Int} (h1 : (f.any fun r => r.isEmpty) = false) (h2 : HT.lexLt v (hopeF s f c old) = false) : LfH s f c old (some v) .hope := by
  refine ⟨trivial, ?_⟩
  show hopelF s f c old (some v) = true
  unfold hopelF
  dsimp only
  rw [h1, if_neg (by decide), h2]
  rfl
def S_f_law_leaves : DL.Spec := ⟨4, Sy × List (List P2) × Option (List Int) × Bool × List (Option P2), fun x => [x.1.d, encF x.2.1, encW x.2.2.1, .tup [.bl x.2.2.2.1, encB x.2.2.2.2]], fun x _ => LayOk x.1 x.2.1,
  fun x st d st' => st' = st ∧ ∃ ls : List Nd, d = .lst (ls.map Nd.d) ∧ (∀ l ∈ ls, LfH x.1 x.2.1 x.2.2.2.1 x.2.2.2.2 x.2.2.1 l) ∧ ls.length ≤ 300 ∧ ((∀ r ∈ x.2.1, r ≠ []) → ∀ v, x.2.2.1 = some v → HT.lexLt v (hopeF x.1 x.2.1 x.2.2.2.1 x.2.2.2.2) = false → ls ≠ []) ∧ ((∃ a b, ClAt x.1 x.2.1 a b) → ls ≠ [])⟩
def w_f_law_leaves_1 : DT := wTest (wOp dEq (wCB bLen (wCons (wOp dIx (wVar 1) (wVar 9)) (wNil))) (wC (.int 1)))
def w_f_law_leaves_2 : DS := wIf (wTest (wOp dNe (wVar 6) (wVar 7))) (wIf (wTest (wCall S_f_law_clash (wCons (wVar 0) (wCons (wVar 6) (wCons (wOp dIx (wOp dIx (wVar 1) (wVar 6)) (wC (.int 0))) (wCons (wVar 7) (wCons (wOp dIx (wOp dIx (wVar 1) (wVar 7)) (wC (.int 0))) (wNil)))))))) (wDrop (wM mAppend (wVar 4) (wCons (wTup (wCons (wC (.int 1)) (wCons (wVar 6) (wCons (wVar 7) (wNil))))) (wNil)))) ((fun D env st => D.nx env st))) ((fun D env st => D.nx env st))
def w_f_law_leaves_3 : DS := wFor (iSeq (wVar 5)) (gNm 7) w_f_law_leaves_2
def w_f_law_leaves_4 : DS := wSeq (wIf (wTest (wCall S_f_law_full (wCons (wVar 0) (wCons (wVar 1) (wCons (wVar 8) (wCons (wOp dIx (wVar 0) (wC (.int 0))) (wNil))))))) (wDrop (wM mAppend (wVar 4) (wCons (wTup (wCons (wC (.int 2)) (wCons (wVar 8) (wCons (wOp dIx (wVar 0) (wC (.int 0))) (wNil))))) (wNil)))) ((fun D env st => D.nx env st))) (wIf (wTest (wCall S_f_law_full (wCons (wVar 0) (wCons (wVar 1) (wCons (wC (.int 0)) (wCons (wOp dAdd (wVar 8) (wC (.int 1))) (wNil))))))) (wDrop (wM mAppend (wVar 4) (wCons (wTup (wCons (wC (.int 2)) (wCons (wC (.int 0)) (wCons (wOp dAdd (wVar 8) (wC (.int 1))) (wNil))))) (wNil)))) ((fun D env st => D.nx env st)))
def w_f_law_leaves : DS := wSeq (wAsg (wLst true (wNil)) (gNm 4)) (wSeq (wAsg (wComp false (iRange1 (wCons (wCB bLen (wCons (wVar 1) (wNil))) (wNil))) (.nm 9) w_f_law_leaves_1 (wVar 9) [9]) (gNm 5)) (wSeq (wFor (iSeq (wVar 5)) (gNm 6) w_f_law_leaves_3) (wSeq (wFor (iRange1 (wCons (wOp dIx (wVar 0) (wC (.int 0))) (wNil))) (gNm 8) w_f_law_leaves_4) (wSeq (wIf (wAnd (wTest (wOp (dIsN fun b => !b) (wVar 2) (wC .non))) (wAnd (wTest (wOp dNotIn (wTup (wNil)) (wVar 1))) (wNot (wTest (wOp dGt (wCall S_f_law_hope (wCons (wVar 0) (wCons (wVar 1) (wCons (wVar 3) (wNil))))) (wVar 2)))))) (wDrop (wM mAppend (wVar 4) (wCons (wTup (wCons (wC (.int 3)) (wNil))) (wNil)))) ((fun D env st => D.nx env st))) (wRet (wFrz 4))))))
theorem vc_f_law_leaves : ∀ g sto, (S_f_law_leaves.args g).length = S_f_law_leaves.n → S_f_law_leaves.pre g sto → w_f_law_leaves (bodyEnds (popEnds sto.length sto (S_f_law_leaves.post g sto))) (startE ["_law_system", "_law_field", "_law_worth", "_law_aim", "_law_found", "_law_lone", "_law_one", "_law_other", "_law_day", "_law_work"] (S_f_law_leaves.args g)) sto := by
  rintro ⟨s, f, w, c, old⟩ sto _ ⟨hs, hp, h12⟩
  dsimp only at hs hp h12
  have hd := hs.days
  have hl := hp.len
  simp? only [w_f_law_leaves, S_f_law_leaves, wFor, wComp, wipeE, encF, List.length_map]
  rw [range_nat]
  refine ⟨by decide, ?_⟩
  refine ⟨⟨by omega, by omega⟩, by rw [List.length_map, List.length_range, sizeLine_eq]; omega, ?_⟩
  have at0 : ∀ {k : Nat}, k < f.length → atI (f.map encR) (k : Int) = some (encR (rowN f k)) := fun {k} hk => by
    have e : rowN f k = f[k] := by unfold rowN; rw [List.getElem?_eq_getElem hk]; rfl
    rw [e]
    exact atI_map (atI_of (by omega) (by rw [Int.toNat_natCast]; exact List.getElem?_eq_getElem hk))
  refine compL_flt (fun k : Nat => D.int (k : Nat)) (fun k => (rowN f k).length == 1) id (fun k : Nat => D.int (k : Nat)) trivial _ (fun k hk R hR => ?_) ?_
  · have hk := List.mem_range.mp hk
    simp? only [Tg.dg, w_f_law_leaves_1, at0 hk, encR, List.length_map]
    have e : (((rowN f k).length : Int) == 1) = ((rowN f k).length == 1) := by rw [Bool.eq_iff_iff, beq_iff_eq, beq_iff_eq]; omega
    rw [e]
    exact hR
  · rw [List.map_id]
    generalize eL : List.filter _ _ = L
    have hL : ∀ k ∈ L, k < f.length ∧ ∃ p, rowN f k = [p] := fun k hk => by
      rw [← eL, List.mem_filter, List.mem_range, beq_iff_eq] at hk
      exact ⟨hk.1, List.length_eq_one_iff.mp hk.2⟩
    have hL2 : ∀ k, k < f.length → ∀ p, rowN f k = [p] → k ∈ L := fun k hk p e => by
      rw [← eL, List.mem_filter, List.mem_range, beq_iff_eq]
      exact ⟨hk, by rw [e]; rfl⟩
    have tk : ∀ {j b b' : Nat}, L[j]? = some b → b' ∈ L.take (j + 1) → b' ∈ L.take j ∨ b' = b := fun {j b b'} e h => by
      rw [List.take_add_one, e] at h
      simpa using h
    have hLl : L.length ≤ 12 := by
      rw [← eL]
      exact Nat.le_trans (List.length_filter_le _ _) (by rw [List.length_range]; exact h12)
    clear eL
    have wk1 : ∀ {i : Nat}, i < f.length → atI s.works (i : Int) = some (wkAt s i) := fun {i} h => wk_at (by omega)
    refine forL_inv (fun i e st => ∃ x6 x7 ls, e = [some s.d, some (.tup (f.map encR)), some (encW w), some (.tup [.bl c, encB old]), some (.ref sto.length), some (.lst (L.map fun k : Nat => D.int (k : Nat))), x6, x7, none, none] ∧ st = sto ++ [.lst (List.map Nd.d ls)] ∧ ls.length ≤ i * 12 ∧ (∀ l ∈ ls, LfH s f c old w l) ∧ ∀ a ∈ L.take i, ∀ b ∈ L, ClAt s f a b → ls ≠ []) ?_ ?_ _ _ ⟨_, _, [], rfl, rfl, Nat.zero_le _, (fun _ h => nomatch h), fun a h => by simp at h⟩
    · rintro i e st d ⟨x6, x7, ls, rfl, rfl, hll, hlf, hnc⟩ he R hR
      rw [List.getElem?_map] at he
      cases ha : L[i]? with
      | none => rw [ha] at he; cases he
      | some a =>
        rw [ha] at he
        cases he
        obtain ⟨ha1, p, hap⟩ := hL a (List.mem_of_getElem? ha)
        have hiL := (List.getElem?_eq_some_iff.mp ha).1
        refine ⟨trivial, ?_⟩
        simp? only [w_f_law_leaves_3, wFor]
        refine forL_inv (fun j e st => ∃ x7 ls, e = [some s.d, some (.tup (f.map encR)), some (encW w), some (.tup [.bl c, encB old]), some (.ref sto.length), some (.lst (L.map fun k : Nat => D.int (k : Nat))), some (.int (a : Nat)), x7, none, none] ∧ st = sto ++ [.lst (List.map Nd.d ls)] ∧ ls.length ≤ i * 12 + j ∧ (∀ l ∈ ls, LfH s f c old w l) ∧ (∀ a ∈ L.take i, ∀ b ∈ L, ClAt s f a b → ls ≠ []) ∧ ∀ b ∈ L.take j, ClAt s f a b → ls ≠ []) ?_ ?_ _ _ ⟨_, ls, rfl, rfl, by omega, hlf, hnc, fun b h => by simp at h⟩
        · rintro j e st d ⟨x7, ls, rfl, rfl, hll, hlf, hnc, hnb⟩ he R2 hR2
          rw [List.getElem?_map] at he
          cases hb : L[j]? with
          | none => rw [hb] at he; cases he
          | some b =>
            rw [hb] at he
            cases he
            obtain ⟨hb1, q, hbq⟩ := hL b (List.mem_of_getElem? hb)
            have hjL := (List.getElem?_eq_some_iff.mp hb).1
            refine ⟨trivial, ?_⟩
            simp? only [w_f_law_leaves_2, at0 ha1, at0 hb1, hap, hbq, encR, List.map_cons, List.map_nil]
            cases hab : (!((a : Int) == (b : Int))) with
            | false =>
              rw [if_neg (by decide)]
              refine hR2 _ _ ⟨_, ls, rfl, rfl, by omega, hlf, hnc, fun b' hb' hc' => ?_⟩
              rcases tk hb hb' with h | rfl
              · exact hnb b' h hc'
              · have := hc'.2.2.1
                simp only [Bool.not_eq_false', beq_iff_eq] at hab
                omega
            | true =>
              rw [if_pos rfl]
              refine ⟨(s, a, p, b, q, wkAt s a, wkAt s b), rfl, rfl, ⟨wk1 ha1, wk1 hb1⟩, ?_⟩
              rintro d s2 ⟨rfl, rfl⟩
              refine ⟨_, rfl, ?_⟩
              cases ecl : clF (a : Int) (b : Int) (wkAt s a) (wkAt s b) p q with
              | false =>
                refine hR2 _ _ ⟨_, ls, rfl, rfl, by omega, hlf, hnc, fun b' hb' hc' => ?_⟩
                rcases tk hb hb' with h | rfl
                · exact hnb b' h hc'
                · obtain ⟨_, _, _, p', q', e1, e2, e3⟩ := hc'
                  rw [hap] at e1
                  rw [hbq] at e2
                  cases e1
                  cases e2
                  rw [ecl] at e3
                  cases e3
              | true =>
                rw [if_pos rfl]
                simp? only [v_app (get_last _ _), set_last]
                refine ⟨⟨_, rd_ref' (get_last _ _)⟩, by decide, by rw [sizeLine_eq]; omega, ?_⟩
                refine hR2 _ _ ⟨_, ls ++ [.clash a b], rfl, by rw [List.map_append]; rfl, by rw [List.length_append, List.length_singleton]; omega, fun l hl => ?_, (fun _ _ _ _ _ => by simp), fun _ _ _ => by simp⟩
                rcases List.mem_append.mp hl with hl | hl
                · exact hlf l hl
                · rw [List.mem_singleton] at hl; subst hl
                  refine lfH_clash h12 ⟨ha1, hb1, ?_, p, q, hap, hbq, ecl⟩
                  simp only [Bool.not_eq_true', beq_eq_false_iff_ne, ne_eq] at hab
                  omega
        · rintro e st ⟨x7, ls, rfl, rfl, hll, hlf, hnc, hnb⟩
          rw [List.length_map] at hll hnb
          refine ⟨trivial, hR _ _ ⟨_, _, ls, rfl, rfl, by omega, hlf, fun a' ha' b hb => ?_⟩⟩
          rcases tk ha ha' with h | rfl
          · exact hnc a' h b hb
          · rw [List.take_length] at hnb
            exact hnb b hb
    · rintro e st ⟨x6, x7, ls, rfl, rfl, hll, hlf, hnc⟩
      rw [List.length_map] at hll hnc
      rw [List.take_length] at hnc
      replace hnc : (∃ a b, ClAt s f a b) → ls ≠ [] := fun ⟨a, b, h⟩ => by
        obtain ⟨h1, h2, h3, p, q, h4, h5, h6⟩ := id h
        exact hnc a (hL2 a h1 p h4) b (hL2 b h2 q h5) h
      refine ⟨trivial, ?_⟩
      (try simp? only [true_and])
      refine ⟨⟨by omega, by omega⟩, ?_⟩
      have fin : ∀ {ls : List Nd}, ls.length ≤ 300 → (∀ l ∈ ls, LfH s f c old w l) → ((∀ r ∈ f, r ≠ []) → ∀ v, w = some v → HT.lexLt v (hopeF s f c old) = false → ls ≠ []) → ((∃ a b, ClAt s f a b) → ls ≠ []) → ∀ {x2 x5 x6 x7 x8 x9 : Option D}, wFrz 4 [some s.d, some (.tup (f.map encR)), x2, some (.tup [.bl c, encB old]), some (.ref sto.length), x5, x6, x7, x8, x9] (sto ++ [.lst (List.map Nd.d ls)]) (popEnds (List.length sto) sto fun d st' => st' = sto ∧ ∃ ls, d = D.lst (List.map Nd.d ls) ∧ (∀ (l : Nd), l ∈ ls → LfH s f c old w l) ∧ ls.length ≤ 300 ∧ ((∀ (r : List P2), r ∈ f → r ≠ []) → ∀ (v : List Int), w = some v → HT.lexLt v (hopeF s f c old) = false → ls ≠ []) ∧ ((∃ a b, ClAt s f a b) → ls ≠ [])) := fun {ls} h1 h2 h3 h4 => by
        intro x2 x5 x6 x7 x8 x9
        refine ⟨_, _, rfl, get_last _ _, ?_⟩
        rw [set_last]
        exact ⟨sto, _, rfl, rfl, blw_nds ls _, fun i c h => .inl h, rfl, ls, rfl, h2, h1, h3, h4⟩
      refine forL_inv (fun i e st => ∃ x8 ls, e = [some s.d, some (.tup (f.map encR)), some (encW w), some (.tup [.bl c, encB old]), some (.ref sto.length), some (.lst (L.map fun k : Nat => D.int (k : Nat))), x6, x7, x8, none] ∧ st = sto ++ [.lst (List.map Nd.d ls)] ∧ ls.length ≤ 144 + 2 * i ∧ (∀ l ∈ ls, LfH s f c old w l) ∧ ((∃ a b, ClAt s f a b) → ls ≠ [])) ?_ ?_ _ _ ⟨_, ls, rfl, rfl, by omega, hlf, hnc⟩
      · rintro i e st d ⟨x8, ls, rfl, rfl, hll, hlf, hnc⟩ he R hR
        obtain ⟨hi, rfl⟩ := rangeD_at he
        refine ⟨trivial, ?_⟩
        simp? only [w_f_law_leaves_4]
        have hi30 : (i : Int) < s.days := by omega
        have app : ∀ {ls : List Nd} {l : Nd} {x : D} {Q : DK}, x = l.d → ls.length ≤ 299 → Q .non (sto ++ [.lst (List.map Nd.d (ls ++ [l]))]) → mAppend (.ref sto.length) [x] (sto ++ [.lst (ls.map Nd.d)]) Q := fun {ls l x Q} e h q => by
          subst e
          rw [v_app (get_last _ _), set_last]
          refine ⟨by rw [List.length_map, sizeLine_eq]; omega, ?_⟩
          rw [List.map_append] at q
          exact q
        have snd : ∀ {ls : List Nd}, ls.length ≤ 144 + 2 * i + 1 → (∀ l ∈ ls, LfH s f c old w l) → ((∃ a b, ClAt s f a b) → ls ≠ []) → ∃ g, [s.d, D.tup (List.map encR f), D.int 0, D.int (0 + (i : Int) + 1)] = S_f_law_full.args g ∧ (S_f_law_full.args g).length = S_f_law_full.n ∧ S_f_law_full.pre g (sto ++ [.lst (ls.map Nd.d)]) ∧ ∀ (d : D) (s2 : Sto), S_f_law_full.post g (sto ++ [.lst (ls.map Nd.d)]) d s2 → ∃ b, d = D.bl b ∧ if b = true then (∃ ds, rd s2 (D.ref (List.length sto)) = D.lst ds) ∧ 3 ≤ sizeLine ∧ mAppend (D.ref (List.length sto)) [D.tup [D.int 2, D.int 0, D.int (0 + (i : Int) + 1)]] s2 (fun x s_2 => R [some s.d, some (D.tup (List.map encR f)), some (encW w), some (D.tup [D.bl c, encB old]), some (D.ref (List.length sto)), some (D.lst (List.map (fun k : Nat => D.int (k : Nat)) L)), x6, x7, some (.int (0 + (i : Int))), none] s_2) else R [some s.d, some (D.tup (List.map encR f)), some (encW w), some (D.tup [D.bl c, encB old]), some (D.ref (List.length sto)), some (D.lst (List.map (fun k : Nat => D.int (k : Nat)) L)), x6, x7, some (.int (0 + (i : Int))), none] s2 := fun {ls} h1 h2 h4 => by
          refine use_pure (s, f, 0, 0 + (i : Int) + 1) rfl rfl ⟨hp.field, by show (0 : Int) ≤ 0; decide, by show (0 : Int) ≤ 1000; decide, by show 0 ≤ 0 + (i : Int) + 1; omega, by show 0 + (i : Int) + 1 ≤ 1000; omega⟩ ?_
          refine ⟨_, rfl, ?_⟩
          dsimp only
          cases efl : fullF s f 0 (0 + (i : Int) + 1) with
          | false => exact hR _ _ ⟨_, ls, rfl, rfl, by omega, h2, h4⟩
          | true =>
            rw [if_pos rfl]
            refine ⟨⟨_, rd_ref' (get_last _ _)⟩, by decide, app (l := .full 0 (0 + (i : Int) + 1)) rfl (by omega) ?_⟩
            refine hR _ _ ⟨_, ls ++ [.full 0 (0 + (i : Int) + 1)], rfl, rfl, by rw [List.length_append, List.length_singleton]; omega, (fun l hl => ?_), fun _ => by simp⟩
            rcases List.mem_append.mp hl with hl | hl
            · exact h2 l hl
            · rw [List.mem_singleton] at hl; subst hl; exact lfH_full (by omega) (by decide) (by omega) (by omega) efl
        refine use_pure (s, f, 0 + (i : Int), s.days) rfl rfl ⟨hp.field, by show 0 ≤ 0 + (i : Int); omega, by show 0 + (i : Int) ≤ 1000; omega, by show 0 ≤ s.days; omega, by show s.days ≤ 1000; omega⟩ ?_
        refine ⟨_, rfl, ?_⟩
        dsimp only
        cases efl : fullF s f (0 + (i : Int)) s.days with
        | false => exact snd (by omega) hlf hnc
        | true =>
          rw [if_pos rfl]
          refine ⟨⟨_, rd_ref' (get_last _ _)⟩, by decide, app (l := .full (0 + (i : Int)) s.days) rfl (by omega) ?_⟩
          refine snd (by rw [List.length_append, List.length_singleton]; omega) (fun l hl => ?_) fun _ => by simp
          rcases List.mem_append.mp hl with hl | hl
          · exact hlf l hl
          · rw [List.mem_singleton] at hl; subst hl; exact lfH_full (by omega) (by omega) (by omega) (by omega) efl
      · rintro e st ⟨x8, ls, rfl, rfl, hll, hlf, hnc⟩
        rw [rangeD_len] at hll
        refine ⟨trivial, ?_⟩
        have hll : ls.length ≤ 250 := by omega
        cases w with
        | none =>
          simp? only [encW, dIsN, show D.isNon .non = true from rfl]
          have q := fun x2 x5 x6 x7 x8 x9 => fin (x2 := x2) (x5 := x5) (x6 := x6) (x7 := x7) (x8 := x8) (x9 := x9) (ls := ls) (by omega) hlf (fun _ v h => nomatch h) hnc
          simp only [reduceCtorEq] at q
          exact q _ _ _ _ _ _
        | some v =>
          simp? only [encW, dIsN, show ∀ l, D.isNon (dInts l) = false from fun _ => rfl]
          have stop : ∀ {x2 x5 x6 x7 x8 x9 : Option D}, ((f.any fun r => r.isEmpty) = true ∨ HT.lexLt v (hopeF s f c old) = true) → wFrz 4 [some s.d, some (.tup (f.map encR)), x2, some (.tup [.bl c, encB old]), some (.ref sto.length), x5, x6, x7, x8, x9] (sto ++ [.lst (List.map Nd.d ls)]) (popEnds (List.length sto) sto fun d st' => st' = sto ∧ ∃ ls, d = D.lst (List.map Nd.d ls) ∧ (∀ (l : Nd), l ∈ ls → LfH s f c old (some v) l) ∧ ls.length ≤ 300 ∧ ((∀ (r : List P2), r ∈ f → r ≠ []) → ∀ (v' : List Int), some v = some v' → HT.lexLt v' (hopeF s f c old) = false → ls ≠ []) ∧ ((∃ a b, ClAt s f a b) → ls ≠ [])) := fun h => fin (by omega) hlf (fun hn v' hv hx => by
            cases hv
            rcases h with h | h
            · obtain ⟨r, hr, hr2⟩ := List.any_eq_true.mp h
              rw [List.isEmpty_iff] at hr2
              exact absurd hr2 (hn r hr)
            · rw [hx] at h; cases h) hnc
          refine ⟨Nat.zero_le _, v_inNil ?_⟩
          refine ⟨_, rfl, ?_⟩
          cases he : f.any fun r => r.isEmpty with
          | true =>
            rw [Bool.not_true, if_neg (by decide)]
            exact stop (.inl he)
          | false =>
            rw [Bool.not_false, if_pos rfl]
            refine use_pure (s, f, c, old) rfl rfl (hp.hope he) ?_
            refine v_gtInts ⟨_, rfl, ?_⟩
            dsimp only
            cases hx : HT.lexLt v (hopeF s f c old) with
            | true =>
              rw [Bool.not_true, if_neg (by decide)]
              exact stop (.inr hx)
            | false =>
              rw [Bool.not_false, if_pos rfl]
              refine ⟨⟨_, rd_ref' (get_last _ _)⟩, by decide, ?_⟩
              rw [v_app (get_last _ _), set_last, show List.map Nd.d ls ++ [D.tup [D.int 3]] = List.map Nd.d (ls ++ [.hope]) by rw [List.map_append]; rfl]
              refine ⟨by rw [List.length_map, sizeLine_eq]; omega, fin (by rw [List.length_append, List.length_singleton]; omega) (fun l hl => ?_) (fun _ _ _ _ => by simp) fun _ => by simp⟩
              rcases List.mem_append.mp hl with hl | hl
              · exact hlf l hl
              · rw [List.mem_singleton] at hl; subst hl; exact lfH_hope he hx
def mrow (f : List (List P2)) : Nat := (f.filter fun r => !(r.length == 1)).length
def cntF (f : List (List P2)) : Int := ((mrow f : Nat) + 1) * manyF f
theorem mrow_one : ∀ {f : List (List P2)} {i : Nat} {r : List P2} (p : P2), f[i]? = some r → r.length ≠ 1 → mrow (oneF f i p) + 1 = mrow f
  | [], _, _, _, h, _ => by cases h
  | q :: f, 0, r, p, h, hr => by
    cases h
    unfold mrow oneF
    rw [List.set_cons_zero, List.filter_cons, List.filter_cons, if_neg (by simp), if_pos (by simpa using hr), List.length_cons]
  | q :: f, i + 1, r, p, h, hr => by
    have ih := mrow_one (f := f) (i := i) p h hr
    unfold mrow oneF at ih ⊢
    rw [List.set_cons_succ, List.filter_cons, List.filter_cons]
    cases hq : !(q.length == 1) with
    | true => rw [if_pos rfl, if_pos rfl, List.length_cons, List.length_cons]; omega
    | false => rw [if_neg (by decide), if_neg (by decide)]; exact ih
theorem many_one' : ∀ {f : List (List P2)} {i : Nat} {r : List P2} (p : P2), f[i]? = some r → szF r * manyF (oneF f i p) = manyF f
  | [], _, _, _, h => by cases h
  | q :: f, 0, r, p, h => by
    cases h
    unfold manyF oneF
    rw [List.set_cons_zero, List.map_cons, List.map_cons, prodI_cons, prodI_cons, show szF [p] = 1 from rfl, Int.one_mul]
  | q :: f, i + 1, r, p, h => by
    have ih := many_one' (f := f) (i := i) p h
    unfold manyF oneF at ih ⊢
    rw [List.set_cons_succ, List.map_cons, List.map_cons, prodI_cons, prodI_cons, ← ih, ← Int.mul_assoc, ← Int.mul_assoc, Int.mul_comm (szF r)]
theorem cnt_one {f : List (List P2)} {i : Nat} {r : List P2} (p : P2) (h : f[i]? = some r) (hr : r.length ≠ 1) : (r.length : Int) * cntF (oneF f i p) + 1 ≤ cntF f ∧ 1 ≤ cntF (oneF f i p) := by
  have h1 := mrow_one p h hr
  have h2 := many_one' p h
  have h3 := manyF_pos (oneF f i p)
  have h4 := manyF_pos f
  have h5 := szF_le r
  unfold cntF
  have e : ((mrow (oneF f i p) : Nat) : Int) + 1 = (mrow f : Nat) := by omega
  rw [e]
  have h6 : (1 : Int) ≤ (mrow f : Nat) := by omega
  generalize ((mrow f : Nat) : Int) = m at *
  generalize manyF (oneF f i p) = M at *
  constructor
  · have h7 : (r.length : Int) * (m * M) ≤ szF r * (m * M) := Int.mul_le_mul_of_nonneg_right h5 (Int.mul_nonneg (by omega) (by omega))
    have h8 : szF r * (m * M) = m * manyF f := by rw [← h2, ← Int.mul_assoc, ← Int.mul_assoc, Int.mul_comm (szF r)]
    have h9 : (m + 1) * manyF f = m * manyF f + manyF f := by rw [Int.add_mul, Int.one_mul]
    omega
  · have := Int.mul_le_mul h6 h3 (by decide) (by omega)
    omega
theorem cnt_eq {f : List (List P2)} {i : Nat} {r : List P2} (p q : P2) (h : f[i]? = some r) (hr : r.length ≠ 1) : cntF (oneF f i p) = cntF (oneF f i q) := by
  have h1 := mrow_one p h hr
  have h2 := mrow_one q h hr
  have h3 := many_one' p h
  have h4 := many_one' q h
  have h5 := szF_pos r
  unfold cntF
  rw [show mrow (oneF f i p) = mrow (oneF f i q) by omega]
  congr 1
  rw [← h4] at h3
  exact Int.eq_of_mul_eq_mul_left (by omega) h3
theorem cnt_pos (f : List (List P2)) : 1 ≤ cntF f := by
  have h := manyF_pos f
  unfold cntF
  have := Int.mul_le_mul (show (1 : Int) ≤ ((mrow f : Nat) : Int) + 1 by omega) h (by decide) (by omega)
  omega
mutual
inductive Seg : Nat → List Nd → Prop
  | leaf {a : Nat} {l : Nd} : l.Leaf → Seg a [l]
  | part {a w : Nat} {ks : List Nat} {L : List Nd} : w < 12 → Forest (a + 1) ks L → Seg a (.part w ks :: L)
inductive Forest : Nat → List Nat → List Nd → Prop
  | nil {b : Nat} : Forest b [] []
  | cons {b : Nat} {ks : List Nat} {S L : List Nd} : Seg b S → Forest (b + S.length) ks L → Forest b (b :: ks) (S ++ L)
end
theorem Forest.snoc {S : List Nd} : ∀ (ks : List Nat) {b : Nat} {L : List Nd}, Forest b ks L → Seg (b + L.length) S → Forest b (ks ++ [b + L.length]) (L ++ S)
  | [], b, L, h1, h => by
    cases h1
    have := Forest.cons (b := b) (ks := []) (S := S) (L := []) (by simpa using h) .nil
    simpa using this
  | k :: ks, b, L, h1, h => by
    cases h1 with
    | cons h1 h2 =>
      rw [List.length_append, ← Nat.add_assoc] at h ⊢
      have := Forest.cons h1 (Forest.snoc ks h2 h)
      rw [List.append_assoc, List.cons_append]
      exact this
theorem Seg.pos : ∀ {a : Nat} {L : List Nd}, Seg a L → 0 < L.length
  | _, _, .leaf _ => by simp
  | _, _, .part _ _ => by simp
theorem cel_nds (ls : List Nd) (n : Nat) : Cel.blw n (.lst (ls.map Nd.d)) = true := blw_nds ls n
theorem dk_set {B : Int} {rest st : Sto} {j : Nat} {c : Cel} (h : Dk B rest st) : Dk B (rest.set j c) (st.set (j + 3) c) := by
  obtain ⟨ds, cs, t, rfl, r⟩ := h
  exact ⟨ds, cs, t, rfl, r⟩
theorem dk_pop2 {B B0 : Int} {rest ex st' sto : Sto} {j : Nat} {c : Cel} {post : D → Sto → Prop} {d : D} (h0 : Dk B0 rest sto) (h : Dk B (rest.set j c ++ ex) st') (hb : d.blw sto.length = true) (hc : c.blw sto.length = true) (q : ∀ st1, Dk B (rest.set j c) st1 → post d st1) : popEnds sto.length sto post d st' := by
  obtain ⟨st1, rfl, h1⟩ := h.pop
  refine ⟨st1, ex, rfl, by rw [h1.len, h0.len, List.length_set], hb, fun i c' hc' => ?_, q _ h1⟩
  have hlen := h0.len
  obtain ⟨ds, cs, t, rfl, _⟩ := h1
  obtain ⟨ds0, cs0, t0, rfl, _⟩ := h0
  match i, hc' with
  | 0, hc' => cases hc'; exact .inr (by simp only [Cel.blw]; exact blwL_ints _ _)
  | 1, hc' => cases hc'; exact .inr (by simp only [Cel.blw]; exact blwL_ints _ _)
  | 2, hc' => cases hc'; refine .inr ?_; rw [hlen]; simp [Cel.blw, D.blwL, D.blw]
  | i + 3, hc' =>
    have hc' : (rest.set j c)[i]? = some c' := hc'
    by_cases e : j = i
    · subst e
      by_cases hj : j < rest.length
      · rw [List.getElem?_set_self hj] at hc'
        cases hc'
        exact .inr hc
      · rw [List.getElem?_eq_none (by rw [List.length_set]; omega)] at hc'
        cases hc'
    · rw [List.getElem?_set_ne e] at hc'
      exact .inl hc'
theorem ite2 {a b X A B : Prop} [Decidable a] [Decidable b] (hX : X) (h1 : a → b → A) (h2 : ¬(a ∧ b) → B) : if a then X ∧ (if b then A else B) else B := by
  by_cases ha : a
  · rw [if_pos ha]
    refine ⟨hX, ?_⟩
    by_cases hb : b
    · rw [if_pos hb]; exact h1 ha hb
    · rw [if_neg hb]; exact h2 fun h => hb h.2
  · rw [if_neg ha]
    exact h2 fun h => ha h.1
structure LayG where
  rest : Sto
  B : Int
  s : Sy
  f : List (List P2)
  w : Option (List Int)
  c : Bool
  old : List (Option P2)
  j : Nat
  L : List Nd
inductive PlIn : List P2 → List (List P2) → Prop
  | nil : PlIn [] []
  | cons {p : P2} {r : List P2} {ps : List P2} {f : List (List P2)} : p ∈ r → PlIn ps f → PlIn (p :: ps) (r :: f)
theorem plIn_of : ∀ {f : List (List P2)} {ps : List P2}, ps.length = f.length → (∀ (k : Nat) r p, f[k]? = some r → ps[k]? = some p → p ∈ r) → PlIn ps f
  | [], [], _, _ => .nil
  | [], _ :: _, h, _ => by cases h
  | _ :: _, [], h, _ => by cases h
  | r :: f, p :: ps, h, hm => .cons (hm 0 r p rfl rfl) (plIn_of (by simpa using h) fun k r' p' h1 h2 => hm (k + 1) r' p' (by simpa using h1) (by simpa using h2))
theorem moved_le : ∀ {ps : List P2} {f : List (List P2)} (old : List (Option P2)), PlIn ps f → smovedF f old ≤ movedF ps old
  | _, _, _, .nil => by simp [smovedF, movedF]
  | _, _, [], .cons _ _ => by simp [smovedF, movedF]
  | _, _, o :: old, .cons (p := p) (r := r) h t => by
    have ih := moved_le old t
    unfold smovedF movedF at ih ⊢
    rw [List.zip_cons_cons, List.zip_cons_cons, List.filter_cons, List.filter_cons]
    have key : smB r o = true → mvB o p = true := fun hs => by
      cases o with
      | none => cases hs
      | some q =>
        have h1 : (!(r.any (· == q))) = true := hs
        show (!(q == p)) = true
        rw [Bool.not_eq_true'] at h1 ⊢
        rw [beq_eq_false_iff_ne]
        intro z
        subst z
        have : r.any (· == q) = true := List.any_eq_true.mpr ⟨q, h, beq_self_eq_true q⟩
        rw [h1] at this
        cases this
    dsimp only
    cases e1 : smB r o with
    | true =>
      rw [key e1, if_pos rfl, if_pos rfl, List.length_cons, List.length_cons]
      omega
    | false =>
      rw [if_neg (by decide)]
      split
      · rw [List.length_cons]; omega
      · exact ih
theorem ends_le (s : Sy) : ∀ {ps : List P2} {f : List (List P2)} (n : Nat), PlIn ps f → ((f.zipIdx n).map fun x => minL (x.1.map fun p => p.1 + (wkAt s x.2).len)).sum ≤ ((ps.zipIdx n).map fun x => x.1.1 + (wkAt s x.2).len).sum
  | _, _, _, .nil => by simp
  | _, _, n, .cons (p := p) (r := r) h t => by
    have ih := ends_le s (n + 1) t
    rw [List.zipIdx_cons, List.zipIdx_cons, List.map_cons, List.map_cons, List.sum_cons, List.sum_cons]
    have := (minL_is (ns := r.map fun p => p.1 + (wkAt s n).len) (fun z => by rw [List.map_eq_nil_iff] at z; rw [z] at h; cases h)).2 (p.1 + (wkAt s n).len) (List.mem_map.mpr ⟨p, h, rfl⟩)
    dsimp only
    omega
theorem worth_le {s : Sy} {f : List (List P2)} {ps : List P2} (hu : ∀ u ∈ s.wishes, u.Ok s.works.length s.days) (hl : f.length = s.works.length) (hp : IsPl s f f.length ps) (c : Bool) (old : List (Option P2)) : AllLe (worthF s ps c old) (hopeF s f c old) := by
  have hin := plIn_of hp.len hp.mem
  have h1 := moved_le old hin
  have h2 : hEndsF s f ≤ endsF s ps := ends_le s 0 hin
  have h3 : AllLe (weightsF (fun u => keptF s u (wayOf ps u)) s.wishes) (weightsF (hkeptF s f) s.wishes) := by
    refine weights_le _ _ _ (fun u hm => ⟨by have := (hu u hm).weight; omega, fun hk => ?_⟩) (AllLe.refl _)
    have hw := (hu u hm).work
    have hi : u.work.toNat < f.length := by omega
    have hi2 : u.work.toNat < ps.length := by rw [hp.len]; exact hi
    refine List.any_eq_true.mpr ⟨wayOf ps u, ?_, hk⟩
    unfold wayOf rowAt
    rw [List.getElem?_eq_getElem hi, List.getElem?_eq_getElem hi2]
    exact hp.mem _ _ _ (List.getElem?_eq_getElem hi) (List.getElem?_eq_getElem hi2)
  unfold worthF hopeF rowF
  cases c with
  | true =>
    simp only [if_true]
    exact .cons (by omega) (h3.append (.cons (by omega) .nil))
  | false =>
    simp only [Bool.false_eq_true, if_false]
    exact h3.append (.cons (by omega) (.cons (by omega) .nil))
theorem lex_trans : ∀ {a b c : List Int}, HT.lexLt a b = false → HT.lexLt b c = false → HT.lexLt a c = false
  | [], [], c, _, h => h
  | [], _ :: _, _, h, _ => by cases h
  | _ :: _, b, [], _, _ => rfl
  | x :: xs, [], z :: zs, _, h => by cases h
  | x :: xs, y :: ys, z :: zs, h1, h2 => by
    rw [HT.lexLt_cons] at h1 h2 ⊢
    by_cases e1 : x = y
    · subst e1
      rw [if_pos rfl] at h1
      by_cases e2 : x = z
      · subst e2
        rw [if_pos rfl] at h2 ⊢
        exact lex_trans h1 h2
      · rw [if_neg e2] at h2 ⊢; exact h2
    · rw [if_neg e1] at h1
      have h1 := of_decide_eq_false h1
      by_cases e2 : y = z
      · subst e2
        rw [if_neg e1]; exact decide_eq_false h1
      · rw [if_neg e2] at h2
        have h2 := of_decide_eq_false h2
        rw [if_neg (by omega)]; exact decide_eq_false (by omega)
theorem lex_refl : ∀ a : List Int, HT.lexLt a a = false
  | [] => rfl
  | x :: xs => by rw [HT.lexLt_cons, if_pos rfl]; exact lex_refl xs
theorem lex_asym : ∀ {a b : List Int}, HT.lexLt a b = true → HT.lexLt b a = false
  | [], [], h => by cases h
  | [], _ :: _, _ => rfl
  | _ :: _, [], h => by cases h
  | x :: xs, y :: ys, h => by
    rw [HT.lexLt_cons] at h ⊢
    by_cases e : x = y
    · subst e; rw [if_pos rfl] at h ⊢; exact lex_asym h
    · rw [if_neg e] at h
      have h := of_decide_eq_true h
      rw [if_neg (by omega)]; exact decide_eq_false (by omega)
abbrev Bst := Option (List P2 × List Int)
def updB (s : Sy) (c : Bool) (old : List (Option P2)) (b : Bst) (ps : List P2) : Bst := match b with
  | none => some (ps, worthF s ps c old)
  | some (qs, v) => if HT.lexLt v (worthF s ps c old) = true then some (ps, worthF s ps c old) else some (qs, v)
def bestB (s : Sy) (c : Bool) (old : List (Option P2)) (b : Bst) (f : List (List P2)) : Bst := (plansF s f).foldl (updB s c old) b
/-- no less a worth -/
def GeW (w' w : Option (List Int)) : Prop := match w with
  | none => True
  | some v => ∃ v', w' = some v' ∧ HT.lexLt v' v = false
theorem GeW.refl (w : Option (List Int)) : GeW w w := by
  cases w with
  | none => trivial
  | some v => exact ⟨v, rfl, lex_refl v⟩
theorem GeW.trans {a b c : Option (List Int)} (h1 : GeW a b) (h2 : GeW b c) : GeW a c := by
  cases c with
  | none => trivial
  | some v =>
    obtain ⟨v', rfl, h2⟩ := h2
    obtain ⟨v2, rfl, h1⟩ := h1
    exact ⟨v2, rfl, lex_trans h1 h2⟩
theorem upd_ge (s : Sy) (c : Bool) (old : List (Option P2)) (b : Bst) (ps : List P2) : GeW ((updB s c old b ps).map (·.2)) (b.map (·.2)) := by
  cases b with
  | none => trivial
  | some x =>
    obtain ⟨qs, v⟩ := x
    unfold updB
    dsimp only
    split
    · rename_i h; exact ⟨_, rfl, lex_asym h⟩
    · exact ⟨_, rfl, lex_refl v⟩
theorem foldl_ge (s : Sy) (c : Bool) (old : List (Option P2)) : ∀ (L : List (List P2)) (b : Bst), GeW ((L.foldl (updB s c old) b).map (·.2)) (b.map (·.2))
  | [], b => GeW.refl _
  | p :: L, b => by
    rw [List.foldl_cons]
    exact (foldl_ge s c old L _).trans (upd_ge s c old b p)
section
variable {s : Sy} {f : List (List P2)}
theorem plans_mem {ps : List P2} (h : ps ∈ plansF s f) : IsPl s f f.length ps := by
  unfold plansF at h
  split at h
  · cases h
  · exact (mem_plansN (Nat.le_refl _)).mp h
theorem plans_none (h : ∀ ps, ¬IsPl s f f.length ps) : plansF s f = [] := by
  cases e : plansF s f with
  | nil => rfl
  | cons p L => exact absurd (plans_mem (by rw [e]; exact List.mem_cons_self)) (h p)
theorem plans_clash {i j : Nat} {p q : P2} (hij : i ≠ j) (hi : f[i]? = some [p]) (hj : f[j]? = some [q]) (hc : clF i j (wkAt s i) (wkAt s j) p q = true) : plansF s f = [] := by
  refine plans_none fun ps h => ?_
  have hil := (List.getElem?_eq_some_iff.mp hi).1
  have hjl := (List.getElem?_eq_some_iff.mp hj).1
  have hl := h.len
  have pi : ps[i]? = some ps[i] := List.getElem?_eq_getElem (by omega)
  have pj : ps[j]? = some ps[j] := List.getElem?_eq_getElem (by omega)
  have e1 := h.mem i _ _ hi pi
  have e2 := h.mem j _ _ hj pj
  rw [List.mem_singleton] at e1 e2
  rw [e1] at pi
  rw [e2] at pj
  by_cases hlt : i < j
  · have := h.ok i j p q hlt pi pj
    rw [hc] at this; cases this
  · have := h.ok j i q p (by omega) pj pi
    rw [cl_sym, hc] at this; cases this
theorem one_length (i : Nat) (p : P2) : (oneF f i p).length = f.length := by unfold oneF; exact List.length_set
end
section
variable {s : Sy} {c : Bool} {old : List (Option P2)} {w : Option (List Int)}
mutual
inductive VSeg (s : Sy) (c : Bool) (old : List (Option P2)) (w : Option (List Int)) : List (List P2) → Nat → List Nd → Prop
  | leaf {f : List (List P2)} {a : Nat} {l : Nd} : (∀ i ks, l ≠ .part i ks) → holdsD s f c old w l.d = true → VSeg s c old w f a [l]
  | part {f : List (List P2)} {a i : Nat} {ks : List Nat} {L : List Nd} : i < f.length → (rowN f i).length ≠ 1 → VFor s c old w ((rowN f i).map (oneF f i)) (a + 1) ks L → VSeg s c old w f a (.part i ks :: L)
inductive VFor (s : Sy) (c : Bool) (old : List (Option P2)) (w : Option (List Int)) : List (List (List P2)) → Nat → List Nat → List Nd → Prop
  | nil {b : Nat} : VFor s c old w [] b [] []
  | cons {g : List (List P2)} {gs : List (List (List P2))} {b : Nat} {ks : List Nat} {S L : List Nd} : VSeg s c old w g b S → VFor s c old w gs (b + S.length) ks L → VFor s c old w (g :: gs) b (b :: ks) (S ++ L)
end
theorem VSeg.pos : ∀ {f : List (List P2)} {a : Nat} {T : List Nd}, VSeg s c old w f a T → 0 < T.length
  | _, _, _, .leaf _ _ => by simp
  | _, _, _, .part _ _ _ => by simp
theorem VFor.snoc : ∀ {gs : List (List (List P2))} {b : Nat} {ks : List Nat} {L S : List Nd} {g : List (List P2)}, VFor s c old w gs b ks L → VSeg s c old w g (b + L.length) S → VFor s c old w (gs ++ [g]) b (ks ++ [b + L.length]) (L ++ S)
  | _, _, _, _, S, _, .nil, h => by
    have := VFor.cons h .nil
    simpa using this
  | _, b, _, _, S, g, .cons (S := S1) (L := L1) h1 h2, h => by
    rw [List.length_append, ← Nat.add_assoc] at h ⊢
    have := VFor.cons h1 (VFor.snoc h2 h)
    rw [List.append_assoc, List.cons_append, List.cons_append]
    exact this
theorem VFor.ks : ∀ {gs : List (List (List P2))} {b : Nat} {ks : List Nat} {L : List Nd}, VFor s c old w gs b ks L → ks.length = gs.length ∧ (∀ i ∈ ks, b ≤ i ∧ i < b + L.length) ∧ ks.Pairwise (· < ·)
  | _, _, _, _, .nil => ⟨rfl, (fun _ h => nomatch h), List.Pairwise.nil⟩
  | _, b, _, _, .cons (S := S) (L := L) h1 h2 => by
    obtain ⟨e1, e2, e3⟩ := VFor.ks h2
    have hp := h1.pos
    refine ⟨by rw [List.length_cons, List.length_cons, e1], fun i hi => ?_, List.pairwise_cons.mpr ⟨fun i hi => by have := e2 i hi; omega, e3⟩⟩
    rw [List.length_append]
    rcases List.mem_cons.mp hi with rfl | hi
    · omega
    · have := e2 i hi; omega
theorem ledG_set {f : List (List P2)} {i at_ : Nat} : ∀ (row : List P2) (ks : List Nat) (fs : List (Option (List (List P2)))), row.length = ks.length → (∀ k ∈ ks, at_ < k ∧ k < fs.length) → ks.Pairwise (· < ·) → (∀ k ∈ ks, fs[k]? = some none) →
    ∃ fs', ledG f i at_ (row.zip (ks.map fun k : Nat => D.int (k : Nat))) fs = some fs' ∧ fs'.length = fs.length ∧ (∀ j, j ∉ ks → fs'[j]? = fs[j]?) ∧ ∀ (n : Nat) k p, ks[n]? = some k → row[n]? = some p → fs'[k]? = some (some (oneF f i p))
  | [], [], fs, _, _, _, _ => ⟨fs, rfl, rfl, fun _ _ => rfl, fun n k p h => by cases h⟩
  | [], _ :: _, _, h, _, _, _ => by cases h
  | _ :: _, [], _, h, _, _, _ => by cases h
  | p :: row, k :: ks, fs, hl, hb, hp, hn => by
    rw [List.pairwise_cons] at hp
    have hk := hb k List.mem_cons_self
    obtain ⟨fs', h1, h2, h3, h4⟩ := ledG_set row ks (fs.set k (some (oneF f i p))) (by simpa using hl) (fun j hj => by rw [List.length_set]; exact hb j (List.mem_cons_of_mem _ hj)) hp.2 (fun j hj => by
      rw [List.getElem?_set_ne (by have := hp.1 j hj; omega)]
      exact hn j (List.mem_cons_of_mem _ hj))
    refine ⟨fs', ?_, by rw [h2, List.length_set], fun j hj => ?_, fun n j q hj hq => ?_⟩
    · rw [List.map_cons, List.zip_cons_cons]
      unfold ledG
      dsimp only
      rw [if_pos (by omega), if_pos (by omega), Int.toNat_natCast, hn k List.mem_cons_self]
      exact h1
    · rw [h3 j fun h => hj (List.mem_cons_of_mem _ h), List.getElem?_set_ne fun e => hj (by rw [e]; exact List.mem_cons_self)]
    · cases n with
      | zero =>
        cases hj; cases hq
        rw [h3 _ fun h => by have := hp.1 _ h; omega, List.getElem?_set_self hk.2]
      | succ n => exact h4 n j q (by simpa using hj) (by simpa using hq)
theorem go_all (n : Nat) : (∀ (f : List (List P2)) (a : Nat) (T : List Nd), T.length ≤ n → VSeg s c old w f a T → ∀ (R : List D) (fs : List (Option (List (List P2)))), a + T.length ≤ fs.length → fs[a]? = some (some f) → (∀ j, a < j → j < a + T.length → fs[j]? = some none) →
      ∃ fs', fs'.length = fs.length ∧ (∀ j, a + T.length ≤ j → fs'[j]? = fs[j]?) ∧ casesG s c old w a (T.map Nd.d ++ R) fs = casesG s c old w (a + T.length) R fs') ∧
    (∀ (gs : List (List (List P2))) (b : Nat) (ks : List Nat) (L : List Nd), L.length ≤ n → VFor s c old w gs b ks L → ∀ (R : List D) (fs : List (Option (List (List P2)))), b + L.length ≤ fs.length → (∀ (m : Nat) k g, ks[m]? = some k → gs[m]? = some g → fs[k]? = some (some g)) → (∀ j, b ≤ j → j < b + L.length → j ∉ ks → fs[j]? = some none) →
      ∃ fs', fs'.length = fs.length ∧ (∀ j, b + L.length ≤ j → fs'[j]? = fs[j]?) ∧ casesG s c old w b (L.map Nd.d ++ R) fs = casesG s c old w (b + L.length) R fs') := by
  induction n with
  | zero =>
    refine ⟨fun f a T hl h => ?_, fun gs b ks L hl h => ?_⟩
    · have := h.pos; omega
    · cases h with
      | nil => exact fun R fs _ _ _ => ⟨fs, rfl, fun _ _ => rfl, rfl⟩
      | cons h1 h2 =>
        have := h1.pos
        rw [List.length_append] at hl
        omega
  | succ n ih =>
    have seg : ∀ (f : List (List P2)) (a : Nat) (T : List Nd), T.length ≤ n + 1 → VSeg s c old w f a T → ∀ (R : List D) (fs : List (Option (List (List P2)))), a + T.length ≤ fs.length → fs[a]? = some (some f) → (∀ j, a < j → j < a + T.length → fs[j]? = some none) →
        ∃ fs', fs'.length = fs.length ∧ (∀ j, a + T.length ≤ j → fs'[j]? = fs[j]?) ∧ casesG s c old w a (T.map Nd.d ++ R) fs = casesG s c old w (a + T.length) R fs' := fun f a T hl h R fs hfl ha hno => by
      cases h with
      | @leaf _ _ l hp hh =>
        refine ⟨fs, rfl, fun _ _ => rfl, ?_⟩
        have hled : ledN f a l.d fs = some fs := by
          cases l with
          | part i ks => exact absurd rfl (hp i ks)
          | _ => rfl
        show casesG s c old w a (l.d :: R) fs = casesG s c old w (a + 1) R fs
        conv => lhs; unfold casesG
        rw [ha]
        simp only [hh, if_true, hled]
      | @part _ _ i ks L hi hr hv =>
        rw [List.length_cons] at hl hfl
        obtain ⟨k1, k2, k3⟩ := hv.ks
        rw [List.length_map] at k1
        obtain ⟨fs1, l1, l2, l3, l4⟩ := ledG_set (f := f) (i := i) (at_ := a) (rowN f i) ks fs k1.symm (fun k hk => by have := k2 k hk; omega) k3 (fun k hk => by have := k2 k hk; exact hno k (by omega) (by rw [List.length_cons]; omega))
        obtain ⟨fs2, g1, g2, g3⟩ := ih.2 _ _ _ _ (by omega) hv R fs1 (by rw [l2]; omega) (fun m k g hk hg => by
          rw [List.getElem?_map] at hg
          cases e : (rowN f i)[m]? with
          | none => rw [e] at hg; cases hg
          | some p => rw [e] at hg; cases hg; exact l4 m k p hk e) (fun j h1 h2 h3 => by rw [l3 j h3]; exact hno j (by omega) (by rw [List.length_cons]; omega))
        refine ⟨fs2, by rw [g1, l2], fun j hj => ?_, ?_⟩
        · rw [List.length_cons] at hj
          rw [g2 j (by omega), l3 j fun h => by have := k2 j h; omega]
        · have hh : holdsD s f c old w (Nd.part i ks).d = true := by
            show partD f (.int (i : Nat)) (.tup (ks.map fun k : Nat => D.int (k : Nat))) = true
            unfold partD
            dsimp only
            rw [if_pos (by omega), if_pos (by omega), Int.toNat_natCast, List.length_map]
            have e1 : ((f[i]?).getD []) = rowN f i := rfl
            rw [e1, k1, Bool.and_eq_true, Bool.not_eq_true', beq_eq_false_iff_ne]
            exact ⟨hr, by simp⟩
          have hled : ledN f a (Nd.part i ks).d fs = some fs1 := l1
          show casesG s c old w a ((Nd.part i ks).d :: (L.map Nd.d ++ R)) fs = _
          conv => lhs; unfold casesG
          rw [ha]
          simp only [hh, if_true, hled]
          rw [g3, List.length_cons, show a + 1 + L.length = a + (L.length + 1) by omega]
    refine ⟨seg, fun gs b ks L hl h => ?_⟩
    cases h with
    | nil => exact fun R fs _ _ _ => ⟨fs, rfl, fun _ _ => rfl, rfl⟩
    | @cons g gs _ ks S L h1 h2 =>
      intro R fs hfl hks hno
      have hp := h1.pos
      rw [List.length_append] at hl hfl
      obtain ⟨k1, k2, k3⟩ := h2.ks
      obtain ⟨fs1, a1, a2, a3⟩ := seg g b S (by omega) h1 (L.map Nd.d ++ R) fs (by omega) (hks 0 b g rfl rfl) (fun j hj1 hj2 => hno j (by omega) (by rw [List.length_append]; omega) (fun hm => by
        rcases List.mem_cons.mp hm with e | e
        · omega
        · have := k2 j e; omega))
      obtain ⟨fs2, b1, b2, b3⟩ := ih.2 gs _ ks L (by omega) h2 R fs1 (by rw [a1]; omega) (fun m k g2 hk hg => by
        have := k2 k (List.mem_of_getElem? hk)
        rw [a2 k (by omega)]
        exact hks (m + 1) k g2 (by simpa using hk) (by simpa using hg)) (fun j hj1 hj2 hj3 => by
        rw [a2 j (by omega)]
        refine hno j (by omega) (by rw [List.length_append]; omega) fun hm => ?_
        rcases List.mem_cons.mp hm with e | e
        · omega
        · exact hj3 e)
      refine ⟨fs2, by rw [b1, a1], fun j hj => ?_, ?_⟩
      · rw [List.length_append] at hj
        rw [b2 j (by omega), a2 j (by omega)]
      · rw [List.map_append, List.append_assoc, a3, b3, List.length_append, Nat.add_assoc]
theorem seg_cases {f : List (List P2)} {T : List Nd} (h : VSeg s c old w f 0 T) (hl : T.length ≤ 30000) : casesD s f c old w (.tup (T.map Nd.d)) = true := by
  have hp := h.pos
  obtain ⟨fs, _, _, e⟩ := (go_all T.length).1 f 0 T (Nat.le_refl _) h [] (some f :: List.replicate (T.length - 1) none) (by rw [List.length_cons, List.length_replicate]; omega) rfl (fun j h1 h2 => by
    obtain ⟨j, rfl⟩ : ∃ k, j = k + 1 := ⟨j - 1, by omega⟩
    rw [List.getElem?_cons_succ, List.getElem?_replicate, if_pos (by omega)])
  rw [List.append_nil] at e
  unfold casesD
  dsimp only
  rw [List.length_map, if_pos (by omega), if_pos hl, e]
  unfold casesG
  rfl
end
def Sound (s : Sy) (c : Bool) (old : List (Option P2)) (w : Option (List Int)) (f : List (List P2)) : Prop := ∀ ps, IsPl s f f.length ps → ∃ v, w = some v ∧ HT.lexLt v (worthF s ps c old) = false
theorem ledG_fld {P : List (List P2) → Prop} {f : List (List P2)} {i at_ : Nat} : ∀ {xs : List (P2 × D)} (_ : ∀ x ∈ xs, P (oneF f i x.1)) (fs fs' : List (Option (List (List P2)))), ledG f i at_ xs fs = some fs' → (∀ (j : Nat) g, fs[j]? = some (some g) → P g) → fs'.length = fs.length ∧ (∀ (j : Nat) g, fs[j]? = some (some g) → fs'[j]? = some (some g)) ∧ (∀ x ∈ xs, ∃ t : Nat, at_ + 1 ≤ t ∧ fs'[t]? = some (some (oneF f i x.1))) ∧ ∀ (j : Nat) g, fs'[j]? = some (some g) → P g
  | [], _, fs, fs', h, hp => by cases h; exact ⟨rfl, fun _ _ h => h, fun _ h => (nomatch h), hp⟩
  | x :: r, hx, fs, fs', h, hp => by
    unfold ledG at h
    split at h
    · rename_i t ht
      split at h
      · rename_i h1
        split at h
        · rename_i h2
          split at h
          · rename_i h3
            obtain ⟨a1, a2, a3, a4⟩ := ledG_fld (fun y hy => hx y (List.mem_cons_of_mem _ hy)) _ fs' h fun j g hj => by
              by_cases e : t.toNat = j
              · subst e
                rw [List.getElem?_set_self (List.getElem?_eq_some_iff.mp h3).1] at hj
                cases hj
                exact hx x List.mem_cons_self
              · rw [List.getElem?_set_ne e] at hj
                exact hp j g hj
            rw [List.length_set] at a1
            have hself : (fs.set t.toNat (some (oneF f i x.1)))[t.toNat]? = some (some (oneF f i x.1)) := List.getElem?_set_self (List.getElem?_eq_some_iff.mp h3).1
            refine ⟨a1, fun j g hj => ?_, fun y hy => ?_, a4⟩
            · refine a2 j g ?_
              by_cases e : t.toNat = j
              · subst e
                rw [h3] at hj
                cases hj
              · rw [List.getElem?_set_ne e]
                exact hj
            · rcases List.mem_cons.mp hy with rfl | hy
              · exact ⟨t.toNat, by omega, a2 _ _ hself⟩
              · exact a3 y hy
          · cases h
        · cases h
      · cases h
    · cases h
theorem one_plan {s : Sy} {f : List (List P2)} {ps : List P2} {i : Nat} (h : IsPl s f f.length ps) (hi : i < f.length) : ∃ p ∈ rowN f i, IsPl s (oneF f i p) (oneF f i p).length ps := by
  have hl := h.len
  have hp : ps[i]? = some ps[i] := List.getElem?_eq_getElem (by omega)
  have hr : f[i]? = some (rowN f i) := by unfold rowN; rw [List.getElem?_eq_getElem hi]; rfl
  refine ⟨ps[i], h.mem i _ _ hr hp, by rw [one_length]; exact hl, fun k r p hk hpk => ?_, h.ok⟩
  unfold oneF at hk
  by_cases e : i = k
  · subst e
    rw [List.getElem?_set_self hi] at hk
    cases hk
    rw [hp] at hpk
    cases hpk
    exact List.mem_singleton.mpr rfl
  · rw [List.getElem?_set_ne e] at hk
    exact h.mem k r p hk hpk
theorem none_sound {s : Sy} {c : Bool} {old : List (Option P2)} {w : Option (List Int)} {f : List (List P2)} (h : plansF s f = []) : Sound s c old w f := fun ps hps => by
  have : ps ∈ plansF s f := by
    unfold plansF
    split
    · rename_i he
      obtain ⟨r, hr, hre⟩ := List.any_eq_true.mp he
      obtain ⟨k, hk, rfl⟩ := List.getElem_of_mem hr
      have hm := hps.mem k _ _ (List.getElem?_eq_getElem hk) (List.getElem?_eq_getElem (by rw [hps.len]; exact hk))
      rw [List.isEmpty_iff.mp hre] at hm
      cases hm
    · exact (mem_plansN (Nat.le_refl _)).mpr hps
  rw [h] at this
  cases this
theorem lone1_at {f : List (List P2)} {i : Int} (h : lone1 f (.int i) = true) : ∃ p, 0 ≤ i ∧ f[i.toNat]? = some [p] := by
  obtain ⟨j, p, e, h0, _, h2⟩ := lone1_int h
  cases e
  exact ⟨p, h0, h2⟩
theorem mem_zip_left {α β : Type} : ∀ {xs : List α} {ys : List β} {x : α}, xs.length = ys.length → x ∈ xs → ∃ q ∈ xs.zip ys, q.1 = x
  | [], _, _, _, h => by cases h
  | _ :: _, [], _, h, _ => by cases h
  | a :: xs, b :: ys, x, h, hm => by
    rw [List.zip_cons_cons]
    rcases List.mem_cons.mp hm with rfl | hm
    · exact ⟨(x, b), List.mem_cons_self, rfl⟩
    · obtain ⟨q, h1, h2⟩ := mem_zip_left (by simpa using h) hm
      exact ⟨q, List.mem_cons_of_mem _ h1, h2⟩
theorem field_one {s : Sy} {f : List (List P2)} {i : Nat} {p : P2} (h : FieldOf s f) (hi : i < f.length) (hp : p ∈ rowN f i) : FieldOf s (oneF f i p) := by
  refine ⟨by rw [one_length]; exact h.len, fun k r hk => ?_⟩
  unfold oneF at hk
  by_cases e : i = k
  · subst e
    rw [List.getElem?_set_self hi] at hk
    cases hk
    have hr : f[i]? = some (rowN f i) := by unfold rowN; rw [List.getElem?_eq_getElem hi]; rfl
    obtain ⟨r', h1, h2⟩ := h.sub i _ hr
    exact ⟨r', h1, (List.singleton_sublist.mpr hp).trans h2⟩
  · rw [List.getElem?_set_ne e] at hk
    exact h.sub k r hk
/-- a leaf that holds -/
theorem leaf_sound {s : Sy} {c : Bool} {old : List (Option P2)} {w : Option (List Int)} {f : List (List P2)} {k : Int} {a b : D} (hs : S30 s) (hf : FieldOf s f) (hk : k ≠ 0) (h : holdsD s f c old w (.tup [.int k, a, b]) = true) : Sound s c old w f := by
  unfold holdsD at h
  dsimp only at h
  rw [if_neg hk] at h
  split at h
  · -- a clash
    unfold clashD at h
    split at h
    · rename_i i j
      split at h
      · rename_i hl
        simp only [Bool.and_eq_true, Bool.not_eq_true', beq_eq_false_iff_ne, ne_eq] at hl
        obtain ⟨⟨h1, h2⟩, h3⟩ := hl
        obtain ⟨p, p0, hp⟩ := lone1_at h1
        obtain ⟨q, q0, hq⟩ := lone1_at h2
        rw [hp, hq] at h
        have ei : ((i.toNat : Nat) : Int) = i := Int.toNat_of_nonneg p0
        have ej : ((j.toNat : Nat) : Int) = j := Int.toNat_of_nonneg q0
        exact none_sound (plans_clash (i := i.toNat) (j := j.toNat) (by omega) hp hq (by rw [ei, ej]; exact h))
      · cases h
    · cases h
  · split at h
    · -- too full
      unfold fullD at h
      split at h
      · split at h
        · split at h
          · split at h
            · split at h
              · exact fun ps hps => absurd h (by rw [full_none (good30 hs) hf hps]; decide)
              · cases h
            · cases h
          · cases h
        · cases h
      · cases h
    · split at h
      · cases h
      · cases h
theorem hope_sound {s : Sy} {c : Bool} {old : List (Option P2)} {w : Option (List Int)} {f : List (List P2)} (hu : ∀ u ∈ s.wishes, u.Ok s.works.length s.days) (hl : f.length = s.works.length) (h : hopelF s f c old w = true) : Sound s c old w f := fun ps hps => by
  unfold hopelF at h
  split at h
  · cases h
  · rename_i v
    split at h
    · cases h
    · rw [Bool.not_eq_true'] at h
      exact ⟨v, rfl, lex_trans h ((worth_le hu hl hps c old).lex)⟩
theorem cases_soundG {s : Sy} {c : Bool} {old : List (Option P2)} {w : Option (List Int)} (hs : S30 s) (hu : ∀ u ∈ s.wishes, u.Ok s.works.length s.days) : ∀ (r : List D) (at_ : Nat) (fs : List (Option (List (List P2)))), (∀ (j : Nat) g, fs[j]? = some (some g) → FieldOf s g) → fs.length = at_ + r.length → casesG s c old w at_ r fs = true → ∀ (j : Nat) g, at_ ≤ j → fs[j]? = some (some g) → Sound s c old w g
  | [], at_, fs, hF, hl, _, j, g, hj, hg => by
    have := (List.getElem?_eq_some_iff.mp hg).1
    simp only [List.length_nil] at hl
    omega
  | d :: r, at_, fs, hF, hl, h, j, g, hj, hg => by
    unfold casesG at h
    split at h
    · rename_i f hf
      split at h
      · rename_i hh
        split at h
        · rename_i fs' hled
          have hff := hF at_ f hf
          have hfl : f.length = s.works.length := by rw [hff.len]; unfold wholeF; rw [List.length_map]
          have IH := cases_soundG (c := c) (old := old) (w := w) hs hu r (at_ + 1) fs'
          -- what the node does to the fields
          have main : ((∀ (j : Nat) g, fs[j]? = some (some g) → fs'[j]? = some (some g)) ∧ fs'.length = fs.length ∧ ∀ (j : Nat) g, fs'[j]? = some (some g) → FieldOf s g) ∧ ((∀ (j : Nat) g, at_ + 1 ≤ j → fs'[j]? = some (some g) → Sound s c old w g) → Sound s c old w f) := by
            cases hn : isNode d with
            | false => rw [holdsD_not hn] at hh; cases hh
            | true =>
              rcases isNode_sh hn with ⟨k, a, b, rfl, hk⟩ | rfl
              · by_cases hk0 : k = 0
                · subst hk0
                  unfold holdsD at hh
                  dsimp only at hh
                  rw [if_pos rfl] at hh
                  have hh2 := hh
                  obtain ⟨i, ns, rfl, rfl, hi⟩ := partD_int hh
                  have hled2 : ledG f i at_ ((rowN f i).zip ns) fs = some fs' := by
                    unfold ledN at hled
                    dsimp only at hled
                    rw [if_pos rfl, Int.toNat_natCast] at hled
                    exact hled
                  have hP : ∀ p, p ∈ rowN f i → FieldOf s (oneF f i p) := fun p hp => field_one hff hi hp
                  have hlen : (rowN f i).length = ns.length := by
                    unfold partD at hh2
                    dsimp only at hh2
                    rw [if_pos (by omega), if_pos (by omega), Int.toNat_natCast, Bool.and_eq_true] at hh2
                    have := hh2.2
                    unfold rowN
                    have h9 : ns.length = ((f[i]?).getD []).length := by simpa using this
                    exact h9.symm
                  obtain ⟨m1, m2, m3, m4⟩ := ledG_fld (P := FieldOf s) (fun x hx => hP x.1 (List.of_mem_zip hx).1) _ _ hled2 (fun j g h => hF j g h)
                  refine ⟨⟨m2, m1, m4⟩, fun hS ps hps => ?_⟩
                  obtain ⟨p, hp, hps2⟩ := one_plan hps hi
                  obtain ⟨q, hq, e⟩ := mem_zip_left hlen hp
                  obtain ⟨t, t1, t2⟩ := m3 q hq
                  rw [e] at t2
                  exact hS t _ t1 t2 ps hps2
                · have e : fs' = fs := by
                    rw [ledN_not hk0] at hled
                    exact (Option.some.inj hled).symm
                  subst e
                  exact ⟨⟨fun _ _ h => h, rfl, hF⟩, fun _ => leaf_sound hs hff hk0 hh⟩
              · have e : fs' = fs := by
                  have : ledN f at_ (.tup [.int 3]) fs = some fs := rfl
                  rw [this] at hled
                  exact (Option.some.inj hled).symm
                subst e
                refine ⟨⟨fun _ _ h => h, rfl, hF⟩, fun _ => hope_sound hu hfl ?_⟩
                unfold holdsD at hh
                dsimp only at hh
                rw [if_neg (by decide), if_neg (by decide), if_neg (by decide), if_pos rfl] at hh
                exact hh
          obtain ⟨⟨k1, k2, k3⟩, k4⟩ := main
          have IH2 := IH k3 (by rw [k2, hl, List.length_cons]; omega) h
          by_cases e : j = at_
          · subst e
            rw [hf] at hg
            cases hg
            exact k4 IH2
          · exact IH2 j g (by omega) (k1 j g hg)
        · cases h
      · cases h
    · cases h
theorem cases_sound {s : Sy} {c : Bool} {old : List (Option P2)} {w : Option (List Int)} {f : List (List P2)} {d : D} (hs : S30 s) (hu : ∀ u ∈ s.wishes, u.Ok s.works.length s.days) (hf : FieldOf s f) (h : casesD s f c old w d = true) : Sound s c old w f := by
  unfold casesD at h
  split at h
  · rename_i ds
    split at h
    · split at h
      · refine cases_soundG hs hu ds 0 (some f :: List.replicate (ds.length - 1) none) (fun j g hg => ?_) (by rw [List.length_cons, List.length_replicate]; omega) h 0 f (Nat.le_refl _) rfl
        cases j with
        | zero => cases hg; exact hf
        | succ j =>
          rw [List.getElem?_cons_succ, List.getElem?_replicate] at hg
          split at hg
          · cases hg
          · cases hg
      · cases h
    · cases h
  · cases h
def S_f_law_laid (n : Nat) : DL.Spec := ⟨6, LayG, fun x => [.ref 2, x.s.d, encF x.f, encW x.w, .tup [.bl x.c, encB x.old], .ref (x.j + 3)],
  fun x st => Dk x.B x.rest st ∧ x.rest[x.j]? = some (.lst (x.L.map Nd.d)) ∧ LayOk x.s x.f ∧ mrow x.f < n ∧ x.B + cntF x.f < 2 ^ 36 ∧ x.L.length + cntF x.f ≤ 1000,
  fun x _ d st' => ∃ L : List Nd, Dk (x.B + cntF x.f) (x.rest.set x.j (.lst ((x.L ++ L).map Nd.d))) st' ∧ (L.length : Int) ≤ cntF x.f ∧ ((d = .non ∧ ¬ Lays x.s x.f x.c x.old x.w ∧ ¬ Sound x.s x.c x.old x.w x.f) ∨ (d = .ref (x.j + 3) ∧ Seg x.L.length L ∧ VSeg x.s x.c x.old x.w x.f x.L.length L))⟩
theorem LfH.no_part {s : Sy} {f : List (List P2)} {c : Bool} {old : List (Option P2)} {w : Option (List Int)} {l : Nd} (h : LfH s f c old w l) : ∀ i ks, l ≠ .part i ks := fun i ks e => by
  subst e
  exact h.1
theorem sound_one {s : Sy} {c : Bool} {old : List (Option P2)} {w : Option (List Int)} {f : List (List P2)} {i : Nat} {r : List P2} {p : P2} (hr : f[i]? = some r) (hp : p ∈ r) (h : Sound s c old w f) : Sound s c old w (oneF f i p) := fun ps hps => by
  refine h ps ⟨by rw [hps.len, one_length], fun k q z hk hz => ?_, hps.ok⟩
  unfold oneF at hps
  by_cases e : i = k
  · subst e
    have hi := (List.getElem?_eq_some_iff.mp hr).1
    have := hps.mem i [p] z (List.getElem?_set_self hi) hz
    rw [hr] at hk
    cases hk
    rw [List.mem_singleton] at this
    rw [this]
    exact hp
  · exact hps.mem k q z (by rw [List.getElem?_set_ne e]; exact hk) hz
theorem lone_of1 {f : List (List P2)} (h : ∀ r ∈ f, r.length = 1) : ∃ ps : List P2, f = loneF ps := by
  induction f with
  | nil => exact ⟨[], rfl⟩
  | cons r f ih =>
    obtain ⟨p, rfl⟩ := List.length_eq_one_iff.mp (h r List.mem_cons_self)
    obtain ⟨ps, rfl⟩ := ih fun r hr => h r (List.mem_cons_of_mem _ hr)
    exact ⟨p :: ps, rfl⟩
/-- where all works have one way, none of them clash, and no plan is better: the hope is a leaf -/
theorem lone_hope {s : Sy} {f : List (List P2)} {c : Bool} {old : List (Option P2)} {w : Option (List Int)} (hs : S30 s) (hl : f.length = s.works.length) (h1 : ∀ r ∈ f, r.length = 1) (hn : ¬∃ a b, ClAt s f a b) (h : Sound s c old w f) : ∃ v, w = some v ∧ HT.lexLt v (hopeF s f c old) = false := by
  obtain ⟨ps, rfl⟩ := lone_of1 h1
  have hpl : ps.length = s.works.length := by rw [← hl]; unfold loneF; rw [List.length_map]
  have hrow : ∀ (k : Nat) p, ps[k]? = some p → rowN (loneF ps) k = [p] := fun k p e => by
    unfold rowN loneF
    rw [List.getElem?_map, e]
    rfl
  have hll : (loneF ps).length = ps.length := by unfold loneF; rw [List.length_map]
  have hps : IsPl s (loneF ps) (loneF ps).length ps := ⟨by rw [hll], fun k r p hk hp => by
    have := hrow k p hp
    unfold rowN at this
    rw [hk] at this
    have e : r = [p] := this
    rw [e]
    exact List.mem_singleton.mpr rfl, fun j k q p hjk hq hp => by
    cases e : clF (j : Int) (k : Int) (wkAt s j) (wkAt s k) q p with
    | false => rfl
    | true => exact absurd ⟨j, k, by rw [hll]; exact (List.getElem?_eq_some_iff.mp hq).1, by rw [hll]; exact (List.getElem?_eq_some_iff.mp hp).1, by omega, q, p, hrow j q hq, hrow k p hp, e⟩ hn⟩
  obtain ⟨v, e, hv⟩ := h ps hps
  rw [← hope_lone hpl hs.wish] at hv
  exact ⟨v, e, hv⟩
theorem none_f_law_laid : ∀ g st, ¬(S_f_law_laid 0).pre g st := by
  rintro x st ⟨_, _, _, h, _⟩
  exact absurd h (Nat.not_lt_zero _)
def w_f_law_laid_1 : DT := wTest (wOp dNe (wCB bLen (wCons (wOp dIx (wVar 2) (wVar 10)) (wNil))) (wC (.int 1)))
def w_f_law_laid_2 : Nat → DS := fun n => wSeq (wDrop (wM mAppend (wVar 11) (wCons (wCB bLen (wCons (wVar 5) (wNil))) (wNil)))) (wIf (wTest (wOp (dIsN fun b => b) (wCall (S_f_law_laid n) (wCons (wVar 0) (wCons (wVar 1) (wCons (wCall S_f_law_put (wCons (wVar 2) (wCons (wVar 10) (wCons (wTup (wCons (wVar 12) (wNil))) (wNil))))) (wCons (wVar 3) (wCons (wVar 4) (wCons (wVar 5) (wNil)))))))) (wC .non))) (wRet (wC .non)) ((fun D env st => D.nx env st)))
def w_f_law_laid (n : Nat) : DS := wSeq (wAsg (wCB bLen (wCons (wVar 5) (wNil))) (gNm 6)) (wSeq (wDrop (wM mAppend (wVar 5) (wCons (wTup (wCons (wC (.int 3)) (wNil))) (wNil)))) (wSeq (wAsg (wCall S_f_law_leaves (wCons (wVar 1) (wCons (wVar 2) (wCons (wVar 3) (wCons (wVar 4) (wNil)))))) (gNm 7)) (wSeq (wAsg (wCall S_f_law_next (wCons (wVar 0) (wNil))) (gNm 8)) (wSeq (wIf (wAnd (wTest (wOp dNe (wVar 7) (wLst false (wNil)))) (wTest (wOp dGt (wOp dMod (wVar 8) (wC (.int 8))) (wC (.int 0))))) (wSeq (wAsg (wOp dIx (wVar 7) (wOp dMod (wOp dFdiv (wVar 8) (wC (.int 8))) (wCB bLen (wCons (wVar 7) (wNil))))) (gSet (wVar 5) (wVar 6))) (wRet (wVar 5))) ((fun D env st => D.nx env st))) (wSeq (wAsg (wComp false (iRange1 (wCons (wCB bLen (wCons (wVar 2) (wNil))) (wNil))) (.nm 10) w_f_law_laid_1 (wVar 10) [10]) (gNm 9)) (wSeq (wIf (wTest (wOp dEq (wVar 9) (wLst false (wNil)))) (wSeq (wIf (wTest (wOp dEq (wVar 7) (wLst false (wNil)))) (wRet (wC .non)) ((fun D env st => D.nx env st))) (wSeq (wAsg (wOp dIx (wVar 7) (wOp dMod (wOp dFdiv (wVar 8) (wC (.int 8))) (wCB bLen (wCons (wVar 7) (wNil))))) (gSet (wVar 5) (wVar 6))) (wRet (wVar 5)))) ((fun D env st => D.nx env st))) (wSeq (wAsg (wOp dIx (wVar 9) (wOp dMod (wOp dFdiv (wVar 8) (wC (.int 8))) (wCB bLen (wCons (wVar 9) (wNil))))) (gNm 10)) (wSeq (wAsg (wLst true (wNil)) (gNm 11)) (wSeq (wFor (iSeq (wOp dIx (wVar 2) (wVar 10))) (gNm 12) (w_f_law_laid_2 n)) (wSeq (wAsg (wTup (wCons (wC (.int 0)) (wCons (wVar 10) (wCons (wCB bTuple (wCons (wVar 11) (wNil))) (wNil))))) (gSet (wVar 5) (wVar 6))) (wRet (wVar 5))))))))))))
theorem vc_f_law_laid (n : Nat) : ∀ g sto, ((S_f_law_laid (n + 1)).args g).length = (S_f_law_laid (n + 1)).n → (S_f_law_laid (n + 1)).pre g sto → w_f_law_laid n (bodyEnds (popEnds sto.length sto ((S_f_law_laid (n + 1)).post g sto))) (startE ["_law_deck_here", "_law_system", "_law_field", "_law_worth", "_law_aim", "_law_cases_here", "_law_at", "_law_some_here", "_law_number", "_law_many", "_law_work", "_law_nodes", "_law_way"] ((S_f_law_laid (n + 1)).args g)) sto := by
  rintro ⟨rest, B, s, f, w, c, old, j, L⟩ sto _ ⟨hD, hj, hok, hm, hB, hL⟩
  dsimp only at hD hj hok hm hB hL
  have hjl := (List.getElem?_eq_some_iff.mp hj).1
  have hD0 := hD
  have hcp := cnt_pos f
  have hfl := hok.co.len
  have hst : ∀ {B : Int} {rest' st : Sto} {c : Cel}, Dk B rest' st → rest'[j]? = some c → st[j + 3]? = some c := fun h h2 => by
    obtain ⟨_, _, _, rfl, _⟩ := h
    exact h2
  simp? only [w_f_law_laid, S_f_law_laid, wFor, wComp, wipeE, v_lenR (rd_ref' (hst hD hj)), v_app (hst hD hj), List.length_map]
  refine ⟨⟨_, rd_ref' (hst hD hj)⟩, by decide, by rw [sizeLine_eq]; omega, ?_⟩
  have e0 : List.map Nd.d L ++ [D.tup [D.int 3]] = List.map Nd.d (L ++ [.hope]) := by rw [List.map_append]; rfl
  rw [e0]
  have hD := dk_set (j := j) (c := .lst (List.map Nd.d (L ++ [.hope]))) hD
  generalize sto.set (j + 3) (.lst (List.map Nd.d (L ++ [.hope]))) = sta at hD
  refine ⟨(s, f, w, c, old), rfl, rfl, hok, ?_⟩
  rintro d s2 ⟨e2, ls, rfl, hlf, hl3, hgood, hcl⟩
  rw [e2]
  dsimp only at hlf hl3 hgood hcl
  refine next_use hD (by omega) fun y st y0 y1 hD => ?_
  have hj2 : (rest.set j (.lst (List.map Nd.d (L ++ [.hope]))))[j]? = some (.lst (List.map Nd.d (L ++ [.hope]))) := List.getElem?_set_self hjl
  have blw3 : ∀ {d : D}, d = .ref (j + 3) → d.blw sto.length = true := fun e => by
    subst e
    rw [hD0.len]
    simp [D.blw]
    omega
  have enl : (ls.map Nd.d).isEmpty = ls.isEmpty := by cases ls <;> rfl
  have okN : ∀ l : Nd, l.d.ok = true := fun l => by
    cases l with
    | part w ks =>
      have h : ∀ ks : List Nat, D.okL (ks.map fun k : Nat => D.int (k : Nat)) = true := fun ks => by
        induction ks with
        | nil => rfl
        | cons k ks ih => rw [List.map_cons]; simp only [D.okL, D.ok, ih, Bool.and_self]
      simp only [Nd.d, D.ok, D.okL, h, Bool.and_self]
    | _ => rfl
  have okNs : D.okL (ls.map Nd.d) = true := by
    clear hl3 hlf hgood hcl enl e2
    induction ls with
    | nil => rfl
    | cons l ls ih => rw [List.map_cons]; simp only [D.okL, okN, ih, Bool.and_self]
  simp? only [enl, encF, List.length_map]
  refine ⟨Nat.zero_le _, okNs, ?_⟩
  refine ite2 (by decide) (fun hne _ => ?_) fun hno => ?_
  · have hne : ls ≠ [] := fun e => by rw [e] at hne; exact absurd hne (by decide)
    refine ⟨⟨by decide, by decide⟩, ?_⟩
    have hll := List.length_pos_iff.mpr hne
    have m1 := modb (y / 8) (show (0 : Int) < ls.length by omega)
    obtain ⟨v, hv, hv2⟩ := pick (xs := ls) m1.1 m1.2
    refine ⟨by omega, _, atI_map hv, _, rfl, _, rfl, j + 3, _, (L.length : Int), L.length, rfl, rfl, hst hD hj2, ?_, ?_⟩
    · unfold ixN
      rw [if_pos (by omega), if_pos (by rw [List.length_map, List.length_append, List.length_singleton]; omega)]
      rfl
    · refine ⟨_, rfl, ?_⟩
      have hD := dk_set (j := j) (c := .lst (List.map Nd.d (L ++ [v]))) hD
      rw [List.set_set] at hD
      rw [show List.set (List.map Nd.d (L ++ [.hope])) L.length v.d = List.map Nd.d (L ++ [v]) by rw [← List.map_set, List.set_append_right _ _ (Nat.le_refl _), Nat.sub_self]; rfl]
      refine dk_pop2 (ex := []) hD0 (by rw [List.append_nil]; exact hD) (blw3 rfl) (cel_nds _ _) fun st1 hD => ?_
      refine ⟨[v], hD.mono (by omega), by rw [List.length_singleton]; omega, .inr ⟨rfl, .leaf (hlf v hv2).1, .leaf (hlf v hv2).no_part (hlf v hv2).2⟩⟩
  have at0 : ∀ {k : Nat}, k < f.length → atI (f.map encR) (k : Int) = some (encR (rowN f k)) := fun {k} hk => by
    have e : rowN f k = f[k] := by unfold rowN; rw [List.getElem?_eq_getElem hk]; rfl
    rw [e]
    exact atI_map (atI_of (by omega) (by rw [Int.toNat_natCast]; exact List.getElem?_eq_getElem hk))
  have h12 := hok.few
  rw [Int.toNat_natCast, range_nat]
  refine ⟨⟨by omega, by omega⟩, by rw [List.length_map, List.length_range, sizeLine_eq]; omega, ?_⟩
  refine compL_flt (fun k : Nat => D.int (k : Nat)) (fun k => !((rowN f k).length == 1)) id (fun k : Nat => D.int (k : Nat)) trivial _ (fun k hk R hR => ?_) ?_
  · have hk := List.mem_range.mp hk
    simp? only [Tg.dg, w_f_law_laid_1, at0 hk, encR, List.length_map]
    have e : (((rowN f k).length : Int) == 1) = ((rowN f k).length == 1) := by rw [Bool.eq_iff_iff, beq_iff_eq, beq_iff_eq]; omega
    rw [e]
    exact hR
  rw [List.map_id]
  generalize eM : List.filter _ _ = M
  have hM : ∀ k, k ∈ M ↔ k < f.length ∧ (rowN f k).length ≠ 1 := fun k => by
    rw [← eM, List.mem_filter, List.mem_range, Bool.not_eq_true', beq_eq_false_iff_ne]
  clear eM
  have okM : D.okL (M.map fun k : Nat => D.int (k : Nat)) = true := by
    clear hM
    induction M with
    | nil => rfl
    | cons k ks ih => rw [List.map_cons]; simp only [D.okL, D.ok, ih, Bool.and_self]
  have enM : (M.map fun k : Nat => D.int (k : Nat)).isEmpty = M.isEmpty := by cases M <;> rfl
  rw [enM]
  refine ⟨Nat.zero_le _, okM, ?_⟩
  by_cases hm0 : M = []
  · rw [hm0, if_pos (by rfl)]
    refine ⟨Nat.zero_le _, okNs, ?_⟩
    have all1 : ∀ r ∈ f, r.length = 1 := fun r hr => by
      obtain ⟨k, hk⟩ := List.getElem?_of_mem hr
      have h1 : ¬(k < f.length ∧ (rowN f k).length ≠ 1) := fun h => by have := (hM k).mpr h; rw [hm0] at this; cases this
      have h2 := (List.getElem?_eq_some_iff.mp hk).1
      have e : rowN f k = r := by unfold rowN; rw [hk]; rfl
      rw [e] at h1
      by_cases h3 : r.length = 1
      · exact h3
      · exact absurd ⟨h2, h3⟩ h1
    by_cases hne : ls = []
    · rw [hne, if_pos (by rfl)]
      refine dk_pop2 (ex := []) hD0 (by rw [List.append_nil]; exact hD) rfl (cel_nds _ _) fun st1 hD => ?_
      refine ⟨[.hope], hD.mono (by omega), by rw [List.length_singleton]; omega, .inl ⟨rfl, ?_, fun hS => ?_⟩⟩
      · rintro (⟨r, hr, rfl⟩ | ⟨hn, v, rfl, hle⟩)
        · have := all1 _ hr; cases this
        · exact hgood hn v rfl hle.lex hne
      · obtain ⟨v, e, hv⟩ := lone_hope hok.s30 hfl all1 (fun h => hcl h hne) hS
        exact hgood (fun r hr e => by have := all1 r hr; rw [e] at this; cases this) v e hv hne
    · rw [if_neg (by rw [List.isEmpty_iff]; exact hne)]
      refine ⟨⟨by decide, by decide⟩, ?_⟩
      have hll := List.length_pos_iff.mpr hne
      have m1 := modb (y / 8) (show (0 : Int) < ls.length by omega)
      obtain ⟨v, hv, hv2⟩ := pick (xs := ls) m1.1 m1.2
      refine ⟨by omega, _, atI_map hv, _, rfl, _, rfl, j + 3, _, (L.length : Int), L.length, rfl, rfl, hst hD hj2, ?_, ?_⟩
      · unfold ixN
        rw [if_pos (by omega), if_pos (by rw [List.length_map, List.length_append, List.length_singleton]; omega)]
        rfl
      · refine ⟨_, rfl, ?_⟩
        have hD := dk_set (j := j) (c := .lst (List.map Nd.d (L ++ [v]))) hD
        rw [List.set_set] at hD
        rw [show List.set (List.map Nd.d (L ++ [.hope])) L.length v.d = List.map Nd.d (L ++ [v]) by rw [← List.map_set, List.set_append_right _ _ (Nat.le_refl _), Nat.sub_self]; rfl]
        refine dk_pop2 (ex := []) hD0 (by rw [List.append_nil]; exact hD) (blw3 rfl) (cel_nds _ _) fun st1 hD => ?_
        refine ⟨[v], hD.mono (by omega), by rw [List.length_singleton]; omega, .inr ⟨rfl, .leaf (hlf v hv2).1, .leaf (hlf v hv2).no_part (hlf v hv2).2⟩⟩
  rw [if_neg (by rw [List.isEmpty_iff]; exact hm0)]
  have hMl := List.length_pos_iff.mpr hm0
  have m2 := modb (y / 8) (show (0 : Int) < M.length by omega)
  obtain ⟨i, hi, hi2⟩ := pick (xs := M) m2.1 m2.2
  obtain ⟨hif, hrl⟩ := (hM i).mp hi2
  rw [List.length_map]
  refine ⟨⟨by decide, by decide⟩, by omega, _, atI_map hi, Nat.zero_le _, ?_⟩
  have hrow : f[i]? = some (rowN f i) := by unfold rowN; rw [List.getElem?_eq_getElem hif]; rfl
  have hrow2 := hok.co.row _ (List.mem_of_getElem? hrow)
  simp? only [at0 hif, encR]
  generalize hrw : rowN f i = row at *
  obtain ⟨C, eC⟩ : ∃ C, C = cntF (oneF f i (0, 0)) := ⟨_, rfl⟩
  have hCe : ∀ p, cntF (oneF f i p) = C := fun p => by rw [eC]; exact cnt_eq p (0, 0) hrow hrl
  have hC := cnt_one (0, 0) hrow hrl
  rw [← eC] at hC
  obtain ⟨hC1, hC2⟩ := hC
  clear eC
  have hsl := hD.len
  rw [List.length_set] at hsl
  rw [hsl]
  have hj3 : ∀ {c : Cel} {x : Cel}, ((rest.set j c) ++ [x])[j]? = some c := fun {c x} => by
    rw [List.getElem?_append_left (by rw [List.length_set]; exact hjl)]
    exact List.getElem?_set_self hjl
  have hw12 : i < 12 := by omega
  refine forL_inv (fun k e st => ∃ x12 ks L', e = [some (D.ref 2), some s.d, some (D.tup (List.map encR f)), some (encW w), some (D.tup [D.bl c, encB old]), some (D.ref (j + 3)), some (D.int (L.length : Nat)), some (D.lst (List.map Nd.d ls)), some (D.int y), some (D.lst (List.map (fun k : Nat => D.int (k : Nat)) M)), some (D.int (i : Nat)), some (D.ref (rest.length + 3)), x12] ∧ Dk (B + 1 + k * C) (rest.set j (.lst (List.map Nd.d (L ++ .hope :: L'))) ++ [.lst (List.map (fun k : Nat => D.int (k : Nat)) ks)]) st ∧ Forest (L.length + 1) ks L' ∧ (L'.length : Int) ≤ k * C ∧ ks.length = k ∧ VFor s c old w ((row.take k).map (oneF f i)) (L.length + 1) ks L') ?_ ?_ _ _ ⟨_, [], [], rfl, by rw [Int.natCast_zero, Int.zero_mul, Int.add_zero]; exact hD.push, .nil, by rw [Int.natCast_zero, Int.zero_mul]; exact Int.le_refl _, rfl, by rw [List.take_zero]; exact .nil⟩
  · rintro k e st d ⟨x12, ks, L', rfl, hD, hF, hLl, hkl, hVF⟩ he R hR
    rw [List.getElem?_map] at he
    cases hp : row[k]? with
    | none => rw [hp] at he; cases he
    | some p =>
      rw [hp] at he
      cases he
      have hkr := (List.getElem?_eq_some_iff.mp hp).1
      have hk1 : ((k : Int) + 1) * C ≤ row.length * C := Int.mul_le_mul_of_nonneg_right (by omega) (by omega)
      have hk2 : ((k : Int) + 1) * C = k * C + C := by rw [Int.add_mul, Int.one_mul]
      have hpm := List.mem_of_getElem? hp
      refine ⟨trivial, ?_⟩
      have t1 := hD.top
      rw [List.length_set] at t1
      simp? only [w_f_law_laid_2, v_lenR (rd_ref' (hst hD hj3)), v_app t1, List.length_map]
      have ek : (L ++ Nd.hope :: L').length = L.length + 1 + L'.length := by rw [List.length_append, List.length_cons]; omega
      have ek2 : List.map (fun k : Nat => D.int (k : Nat)) ks ++ [D.int ((L ++ Nd.hope :: L').length : Nat)] = List.map (fun k : Nat => D.int (k : Nat)) (ks ++ [L.length + 1 + L'.length]) := by rw [List.map_append, ek]; rfl
      rw [ek2]
      have hD1 := hD.put (c' := .lst (List.map (fun k : Nat => D.int (k : Nat)) (ks ++ [L.length + 1 + L'.length])))
      rw [List.length_set] at hD1
      refine ⟨⟨_, rd_ref' t1⟩, by rw [hkl, sizeLine_eq]; omega, by decide, put_use (i := i) (ds := f.map encR) (by rw [List.length_map]; omega) ?_⟩
      have eset : (f.map encR).set i (.tup [encP p]) = (oneF f i p).map encR := by unfold oneF; rw [List.map_set]; rfl
      rw [eset]
      have hok1 : LayOk s (oneF f i p) := ⟨hok.s30, hok.co.one i p, by unfold oneF; rw [List.length_set]; exact hok.few⟩
      have hm1 := mrow_one p hrow hrl
      have hCp := hCe p
      refine ⟨⟨_, B + 1 + k * C, s, oneF f i p, w, c, old, j, L ++ .hope :: L'⟩, rfl, rfl, ⟨hD1, hj3, hok1, by show mrow (oneF f i p) < n; omega, by show B + 1 + k * C + cntF (oneF f i p) < 2 ^ 36; omega, by show (((L ++ Nd.hope :: L').length : Nat) : Int) + cntF (oneF f i p) ≤ 1000; rw [ek]; omega⟩, ?_⟩
      rintro d s2 ⟨S, hD2, hS, hdd⟩
      dsimp only at hD2 hS hdd
      rw [hCp] at hD2 hS
      rw [List.set_append_left _ _ (by rw [List.length_set]; exact hjl), List.set_set, List.append_assoc, List.cons_append] at hD2
      rcases hdd with ⟨rfl, hnl, hns⟩ | ⟨rfl, hseg, hvs⟩
      · simp? only [dIsN, show D.isNon .non = true from rfl]
        refine dk_pop2 hD0 hD2 rfl (cel_nds _ _) fun st1 hD3 => ?_
        refine ⟨.hope :: (L' ++ S), hD3.mono (by omega), by rw [List.length_cons, List.length_append]; omega, .inl ⟨rfl, fun h => hnl ?_, fun h => hns ?_⟩⟩
        · exact h.one (fun u hu => by have := (hok.s30.wish u hu).weight; omega) hrow hpm
        · exact sound_one hrow hpm h
      · simp? only [dIsN, show ∀ m, D.isNon (.ref m) = false from fun _ => rfl]
        refine hR _ _ ⟨_, ks ++ [L.length + 1 + L'.length], L' ++ S, rfl, by rw [show B + 1 + ((k + 1 : Nat) : Int) * C = B + 1 + k * C + C by rw [Int.natCast_add, Int.natCast_one, hk2]; omega]; exact hD2, ?_, by rw [List.length_append, Int.natCast_add, Int.natCast_add, Int.natCast_one, hk2]; omega, by rw [List.length_append, List.length_singleton, hkl], ?_⟩
        · refine Forest.snoc ks hF ?_
          rw [ek] at hseg
          exact hseg
        · rw [ek] at hvs
          rw [List.take_add_one, hp, List.map_append]
          exact VFor.snoc hVF hvs
  · rintro e st ⟨x12, ks, L', rfl, hD, hF, hLl, hkl, hVF⟩
    rw [List.length_map] at hD hLl hkl hVF
    rw [List.take_length, ← hrw] at hVF
    refine ⟨trivial, ?_⟩
    have t1 := hD.top
    rw [List.length_set] at t1
    (try simp? only [true_and])
    refine ⟨_, _, rfl, .inl (rd_ref' t1), by decide, _, rfl, _, rfl, j + 3, _, (L.length : Int), L.length, rfl, rfl, hst hD hj3, ?_, ?_⟩
    · unfold ixN
      rw [if_pos (by omega), if_pos (by rw [List.length_map, List.length_append, List.length_cons]; omega)]
      rfl
    · refine ⟨_, rfl, ?_⟩
      have hD2 := dk_set (j := j) (c := .lst (List.map Nd.d (L ++ .part i ks :: L'))) hD
      rw [List.set_append_left _ _ (by rw [List.length_set]; exact hjl), List.set_set] at hD2
      rw [show List.set (List.map Nd.d (L ++ .hope :: L')) L.length (D.tup [.int 0, .int (i : Nat), .tup (ks.map fun k : Nat => D.int (k : Nat))]) = List.map Nd.d (L ++ .part i ks :: L') by rw [show D.tup [.int 0, .int (i : Nat), .tup (ks.map fun k : Nat => D.int (k : Nat))] = (Nd.part i ks).d from rfl, ← List.map_set, List.set_append_right _ _ (Nat.le_refl _), Nat.sub_self]; rfl]
      refine dk_pop2 hD0 hD2 (blw3 rfl) (cel_nds _ _) fun st1 hD3 => ?_
      exact ⟨.part i ks :: L', hD3.mono (by omega), by rw [List.length_cons]; omega, .inr ⟨rfl, .part hw12 hF, .part hif (by rw [hrw]; exact hrl) hVF⟩⟩
def S_f_law_made_up (n : Nat) : DL.Spec := ⟨6, LayG, fun x => [.ref 2, x.s.d, encF x.f, encW x.w, .tup [.bl x.c, encB x.old], .ref (x.j + 3)],
  fun x st => Dk x.B x.rest st ∧ x.rest[x.j]? = some (.lst (x.L.map Nd.d)) ∧ LayOk x.s x.f ∧ mrow x.f < n ∧ x.B + cntF x.f < 2 ^ 36 ∧ x.L.length + cntF x.f ≤ 1000,
  fun x _ d st' => ∃ L : List Nd, Dk (x.B + cntF x.f) (x.rest.set x.j (.lst ((x.L ++ L).map Nd.d))) st' ∧ (L.length : Int) ≤ cntF x.f ∧ d = .ref (x.j + 3) ∧ Seg x.L.length L⟩
theorem none_f_law_made_up : ∀ g st, ¬(S_f_law_made_up 0).pre g st := by
  rintro x st ⟨_, _, _, h, _⟩
  exact absurd h (Nat.not_lt_zero _)
def w_f_law_made_up_1 : DT := wTest (wOp dNe (wCB bLen (wCons (wOp dIx (wVar 2) (wVar 11)) (wNil))) (wC (.int 1)))
def w_f_law_made_up_2 : Nat → DS := fun n => wSeq (wDrop (wM mAppend (wVar 12) (wCons (wCB bLen (wCons (wVar 5) (wNil))) (wNil)))) (wDrop (wCall (S_f_law_made_up n) (wCons (wVar 0) (wCons (wVar 1) (wCons (wCall S_f_law_put (wCons (wVar 2) (wCons (wVar 11) (wCons (wTup (wCons (wVar 13) (wNil))) (wNil))))) (wCons (wVar 3) (wCons (wVar 4) (wCons (wVar 5) (wNil)))))))))
def w_f_law_made_up (n : Nat) : DS := wSeq (wAsg (wCB bLen (wCons (wVar 5) (wNil))) (gNm 6)) (wSeq (wDrop (wM mAppend (wVar 5) (wCons (wTup (wCons (wC (.int 3)) (wNil))) (wNil)))) (wSeq (wAsg (wCall S_f_law_leaves (wCons (wVar 1) (wCons (wVar 2) (wCons (wVar 3) (wCons (wVar 4) (wNil)))))) (gNm 7)) (wSeq (wAsg (wComp false (iRange1 (wCons (wCB bLen (wCons (wVar 2) (wNil))) (wNil))) (.nm 11) w_f_law_made_up_1 (wVar 11) [11]) (gNm 8)) (wSeq (wAsg (wCall S_f_law_next (wCons (wVar 0) (wNil))) (gNm 9)) (wSeq (wIf (wOr (wTest (wOp dEq (wVar 8) (wLst false (wNil)))) (wOr (wTest (wOp dEq (wOp dMod (wVar 9) (wC (.int 4))) (wC (.int 0)))) (wAnd (wTest (wOp dNe (wVar 7) (wLst false (wNil)))) (wTest (wOp dLt (wOp dMod (wVar 9) (wC (.int 4))) (wC (.int 3))))))) (wSeq (wAsg (wOp dAdd (wOp dMul (wVar 7) (wC (.int 3))) (wLst false (wCons (wTup (wCons (wC (.int 3)) (wNil))) (wCons (wTup (wCons (wC (.int 1)) (wCons (wC (.int 0)) (wCons (wC (.int 1)) (wNil))))) (wCons (wTup (wCons (wC (.int 2)) (wCons (wC (.int 0)) (wCons (wOp dIx (wVar 1) (wC (.int 0))) (wNil))))) (wNil)))))) (gNm 10)) (wSeq (wAsg (wOp dIx (wVar 10) (wOp dMod (wOp dFdiv (wVar 9) (wC (.int 4))) (wCB bLen (wCons (wVar 10) (wNil))))) (gSet (wVar 5) (wVar 6))) (wRet (wVar 5)))) ((fun D env st => D.nx env st))) (wSeq (wAsg (wOp dIx (wVar 8) (wOp dMod (wOp dFdiv (wVar 9) (wC (.int 4))) (wCB bLen (wCons (wVar 8) (wNil))))) (gNm 11)) (wSeq (wAsg (wLst true (wNil)) (gNm 12)) (wSeq (wFor (iSeq (wOp dIx (wVar 2) (wVar 11))) (gNm 13) (w_f_law_made_up_2 n)) (wSeq (wAsg (wTup (wCons (wC (.int 0)) (wCons (wVar 11) (wCons (wCB bTuple (wCons (wVar 12) (wNil))) (wNil))))) (gSet (wVar 5) (wVar 6))) (wRet (wVar 5)))))))))))
def muLeaf : DS := wSeq (wAsg (wOp dAdd (wOp dMul (wVar 7) (wC (.int 3))) (wLst false (wCons (wTup (wCons (wC (.int 3)) (wNil))) (wCons (wTup (wCons (wC (.int 1)) (wCons (wC (.int 0)) (wCons (wC (.int 1)) (wNil))))) (wCons (wTup (wCons (wC (.int 2)) (wCons (wC (.int 0)) (wCons (wOp dIx (wVar 1) (wC (.int 0))) (wNil))))) (wNil)))))) (gNm 10)) (wSeq (wAsg (wOp dIx (wVar 10) (wOp dMod (wOp dFdiv (wVar 9) (wC (.int 4))) (wCB bLen (wCons (wVar 10) (wNil))))) (gSet (wVar 5) (wVar 6))) (wRet (wVar 5)))
theorem mu_eq (n : Nat) : w_f_law_made_up n = wSeq (wAsg (wCB bLen (wCons (wVar 5) (wNil))) (gNm 6)) (wSeq (wDrop (wM mAppend (wVar 5) (wCons (wTup (wCons (wC (.int 3)) (wNil))) (wNil)))) (wSeq (wAsg (wCall S_f_law_leaves (wCons (wVar 1) (wCons (wVar 2) (wCons (wVar 3) (wCons (wVar 4) (wNil)))))) (gNm 7)) (wSeq (wAsg (wComp false (iRange1 (wCons (wCB bLen (wCons (wVar 2) (wNil))) (wNil))) (.nm 11) w_f_law_made_up_1 (wVar 11) [11]) (gNm 8)) (wSeq (wAsg (wCall S_f_law_next (wCons (wVar 0) (wNil))) (gNm 9)) (wSeq (wIf (wOr (wTest (wOp dEq (wVar 8) (wLst false (wNil)))) (wOr (wTest (wOp dEq (wOp dMod (wVar 9) (wC (.int 4))) (wC (.int 0)))) (wAnd (wTest (wOp dNe (wVar 7) (wLst false (wNil)))) (wTest (wOp dLt (wOp dMod (wVar 9) (wC (.int 4))) (wC (.int 3))))))) muLeaf ((fun D env st => D.nx env st))) (wSeq (wAsg (wOp dIx (wVar 8) (wOp dMod (wOp dFdiv (wVar 9) (wC (.int 4))) (wCB bLen (wCons (wVar 8) (wNil))))) (gNm 11)) (wSeq (wAsg (wLst true (wNil)) (gNm 12)) (wSeq (wFor (iSeq (wOp dIx (wVar 2) (wVar 11))) (gNm 13) (w_f_law_made_up_2 n)) (wSeq (wAsg (wTup (wCons (wC (.int 0)) (wCons (wVar 11) (wCons (wCB bTuple (wCons (wVar 12) (wNil))) (wNil))))) (gSet (wVar 5) (wVar 6))) (wRet (wVar 5))))))))))) := rfl
theorem okN_nd (l : Nd) : l.d.ok = true := by
  cases l with
  | part w ks =>
    have h : ∀ ks : List Nat, D.okL (ks.map fun k : Nat => D.int (k : Nat)) = true := fun ks => by
      induction ks with
      | nil => rfl
      | cons k ks ih => rw [List.map_cons]; simp only [D.okL, D.ok, ih, Bool.and_self]
    simp only [Nd.d, D.ok, D.okL, h, Bool.and_self]
  | _ => rfl
theorem okL_nd : ∀ ls : List Nd, D.okL (ls.map Nd.d) = true
  | [] => rfl
  | l :: ls => by rw [List.map_cons]; simp only [D.okL, okN_nd l, okL_nd ls, Bool.and_self]
theorem vc_f_law_made_up (n : Nat) : ∀ g sto, ((S_f_law_made_up (n + 1)).args g).length = (S_f_law_made_up (n + 1)).n → (S_f_law_made_up (n + 1)).pre g sto → w_f_law_made_up n (bodyEnds (popEnds sto.length sto ((S_f_law_made_up (n + 1)).post g sto))) (startE ["_law_deck_here", "_law_system", "_law_field", "_law_worth_here", "_law_aim", "_law_cases", "_law_at", "_law_some_here", "_law_many", "_law_number", "_law_more", "_law_work", "_law_nodes", "_law_way"] ((S_f_law_made_up (n + 1)).args g)) sto := by
  rintro ⟨rest, B, s, f, w, c, old, j, L⟩ sto _ ⟨hD, hj, hok, hm, hB, hL⟩
  dsimp only at hD hj hok hm hB hL
  have hjl := (List.getElem?_eq_some_iff.mp hj).1
  have hD0 := hD
  have hcp := cnt_pos f
  have hfl := hok.co.len
  have hst : ∀ {B : Int} {rest' st : Sto} {c : Cel}, Dk B rest' st → rest'[j]? = some c → st[j + 3]? = some c := fun h h2 => by
    obtain ⟨_, _, _, rfl, _⟩ := h
    exact h2
  rw [mu_eq]
  simp? only [S_f_law_made_up, wFor, wComp, wipeE, v_lenR (rd_ref' (hst hD hj)), v_app (hst hD hj), List.length_map]
  refine ⟨⟨_, rd_ref' (hst hD hj)⟩, by decide, by rw [sizeLine_eq]; omega, ?_⟩
  have e0 : List.map Nd.d L ++ [D.tup [D.int 3]] = List.map Nd.d (L ++ [.hope]) := by rw [List.map_append]; rfl
  rw [e0]
  have hD := dk_set (j := j) (c := .lst (List.map Nd.d (L ++ [.hope]))) hD
  generalize sto.set (j + 3) (.lst (List.map Nd.d (L ++ [.hope]))) = sta at hD
  refine ⟨(s, f, w, c, old), rfl, rfl, hok, ?_⟩
  rintro d s2 ⟨e2, ls, rfl, hlf, hl3, _⟩
  rw [e2]
  (try dsimp only at hlf hl3)
  have hj2 : (rest.set j (.lst (List.map Nd.d (L ++ [.hope]))))[j]? = some (.lst (List.map Nd.d (L ++ [.hope]))) := List.getElem?_set_self hjl
  have blw3 : ∀ {d : D}, d = .ref (j + 3) → d.blw sto.length = true := fun e => by
    subst e
    rw [hD0.len]
    simp [D.blw]
    omega
  have enl : (ls.map Nd.d).isEmpty = ls.isEmpty := by cases ls <;> rfl
  have okNs : D.okL (ls.map Nd.d) = true := okL_nd ls
  have at0 : ∀ {k : Nat}, k < f.length → atI (f.map encR) (k : Int) = some (encR (rowN f k)) := fun {k} hk => by
    have e : rowN f k = f[k] := by unfold rowN; rw [List.getElem?_eq_getElem hk]; rfl
    rw [e]
    exact atI_map (atI_of (by omega) (by rw [Int.toNat_natCast]; exact List.getElem?_eq_getElem hk))
  have h12 := hok.few
  simp? only [encF, List.length_map]
  rw [Int.toNat_natCast, range_nat]
  refine ⟨⟨by omega, by omega⟩, by rw [List.length_map, List.length_range, sizeLine_eq]; omega, ?_⟩
  refine compL_flt (fun k : Nat => D.int (k : Nat)) (fun k => !((rowN f k).length == 1)) id (fun k : Nat => D.int (k : Nat)) trivial _ (fun k hk R hR => ?_) ?_
  · have hk := List.mem_range.mp hk
    simp? only [Tg.dg, w_f_law_made_up_1, at0 hk, encR, List.length_map]
    have e : (((rowN f k).length : Int) == 1) = ((rowN f k).length == 1) := by rw [Bool.eq_iff_iff, beq_iff_eq, beq_iff_eq]; omega
    rw [e]
    exact hR
  rw [List.map_id]
  generalize eM : List.filter _ _ = M
  have hM : ∀ k, k ∈ M ↔ k < f.length ∧ (rowN f k).length ≠ 1 := fun k => by
    rw [← eM, List.mem_filter, List.mem_range, Bool.not_eq_true', beq_eq_false_iff_ne]
  clear eM
  have okM : D.okL (M.map fun k : Nat => D.int (k : Nat)) = true := by
    clear hM
    induction M with
    | nil => rfl
    | cons k ks ih => rw [List.map_cons]; simp only [D.okL, D.ok, ih, Bool.and_self]
  have enM : (M.map fun k : Nat => D.int (k : Nat)).isEmpty = M.isEmpty := by cases M <;> rfl
  refine next_use hD (by omega) fun y st y0 y1 hD => ?_
  have leaf : ∀ (nx bk ct : En → Sto → Prop), muLeaf { nx := nx, rt := popEnds sto.length sto fun d st' => ∃ L_1, Dk (B + cntF f) (List.set rest j (Cel.lst (List.map Nd.d (L ++ L_1)))) st' ∧ (L_1.length : Int) ≤ cntF f ∧ d = D.ref (j + 3) ∧ Seg L.length L_1, bk := bk, ct := ct }
      [some (D.ref 2), some s.d, some (D.tup (List.map encR f)), some (encW w), some (D.tup [D.bl c, encB old]), some (D.ref (j + 3)), some (D.int (L.length : Nat)), some (D.lst (List.map Nd.d ls)), some (D.lst (List.map (fun k : Nat => D.int (k : Nat)) M)), some (D.int y), none, none, none, none] st := fun nx bk ct => by
    simp? only [muLeaf, v_mulL]
    have hdy := hok.s30.days
    obtain ⟨N, eN⟩ : ∃ N : List Nd, N = (List.replicate 3 ls).flatten ++ [.hope, .clash 0 1, .full 0 s.days] := ⟨_, rfl⟩
    have hN : ∀ v ∈ N, v.Leaf := by
      rw [eN]
      intro v hv
      rcases List.mem_append.mp hv with hv | hv
      · obtain ⟨l, hl, hv⟩ := List.mem_flatten.mp hv
        rw [List.mem_replicate] at hl
        rw [hl.2] at hv
        exact (hlf v hv).1
      · simp only [List.mem_cons, List.not_mem_nil, or_false] at hv
        rcases hv with rfl | rfl | rfl
        · trivial
        · exact ⟨by decide, by decide⟩
        · exact ⟨by omega, by omega⟩
    have hNl : 0 < N.length ∧ N.length ≤ 903 := by
      rw [eN]
      simp
      omega
    have eN2 : (List.replicate (Int.toNat 3) (List.map Nd.d ls)).flatten ++ [D.tup [D.int 3], D.tup [D.int 1, D.int 0, D.int 1], D.tup [D.int 2, D.int 0, D.int s.days]] = N.map Nd.d := by
      rw [eN, List.map_append, List.map_flatten, List.map_replicate]
      rfl
    have hfl3 : (List.replicate (Int.toNat 3) (List.map Nd.d ls)).flatten.length + 3 = N.length := by
      rw [← List.length_map (f := Nd.d) (as := N), ← eN2, List.length_append]
      rfl
    rw [eN2, List.length_map]
    have m1 := modb (y / 4) (show (0 : Int) < N.length by omega)
    obtain ⟨v, hv, hv2⟩ := pick (xs := N) m1.1 m1.2
    refine ⟨by decide, by decide, by rw [sizeLine_eq]; show ls.length * 3 ≤ _; omega, by decide, by decide, by decide, by decide, by rw [hfl3, sizeLine_eq]; omega, by decide, by omega, _, atI_map hv, _, rfl, _, rfl, j + 3, _, (L.length : Int), L.length, rfl, rfl, hst hD hj2, ?_, ?_⟩
    · unfold ixN
      rw [if_pos (by omega), if_pos (by rw [List.length_map, List.length_append, List.length_singleton]; omega)]
      rfl
    · refine ⟨_, rfl, ?_⟩
      have hD := dk_set (j := j) (c := .lst (List.map Nd.d (L ++ [v]))) hD
      rw [List.set_set] at hD
      rw [show List.set (List.map Nd.d (L ++ [.hope])) L.length v.d = List.map Nd.d (L ++ [v]) by rw [← List.map_set, List.set_append_right _ _ (Nat.le_refl _), Nat.sub_self]; rfl]
      refine dk_pop2 (ex := []) hD0 (by rw [List.append_nil]; exact hD) (blw3 rfl) (cel_nds _ _) fun st1 hD => ?_
      exact ⟨[v], hD.mono (by omega), by rw [List.length_singleton]; omega, rfl, .leaf (hN v hv2)⟩
  simp? only [true_and]
  refine ⟨Nat.zero_le _, okM, ?_⟩
  rw [enM]
  by_cases hm0 : M = []
  · rw [if_pos (by rw [hm0]; rfl)]
    exact leaf _ _ _
  rw [if_neg (by rw [List.isEmpty_iff]; exact hm0)]
  refine ⟨by decide, ?_⟩
  cases h4 : (y % 4 == 0) with
  | true =>
    rw [if_pos rfl]
    exact leaf _ _ _
  | false =>
  rw [if_neg (by decide)]
  refine ⟨Nat.zero_le _, okNs, ?_⟩
  refine ite2 (by decide) (fun _ _ => leaf _ _ _) fun _ => ?_
  have hMl := List.length_pos_iff.mpr hm0
  have m2 := modb (y / 4) (show (0 : Int) < M.length by omega)
  obtain ⟨i, hi, hi2⟩ := pick (xs := M) m2.1 m2.2
  obtain ⟨hif, hrl⟩ := (hM i).mp hi2
  refine ⟨⟨by decide, by decide⟩, by omega, _, atI_map hi, Nat.zero_le _, ?_⟩
  have hrow : f[i]? = some (rowN f i) := by unfold rowN; rw [List.getElem?_eq_getElem hif]; rfl
  have hrow2 := hok.co.row _ (List.mem_of_getElem? hrow)
  simp? only [at0 hif, encR]
  generalize hrw : rowN f i = row at *
  obtain ⟨C, eC⟩ : ∃ C, C = cntF (oneF f i (0, 0)) := ⟨_, rfl⟩
  have hCe : ∀ p, cntF (oneF f i p) = C := fun p => by rw [eC]; exact cnt_eq p (0, 0) hrow hrl
  have hC := cnt_one (0, 0) hrow hrl
  rw [← eC] at hC
  obtain ⟨hC1, hC2⟩ := hC
  clear eC
  have hsl := hD.len
  rw [List.length_set] at hsl
  rw [hsl]
  have hj3 : ∀ {c : Cel} {x : Cel}, ((rest.set j c) ++ [x])[j]? = some c := fun {c x} => by
    rw [List.getElem?_append_left (by rw [List.length_set]; exact hjl)]
    exact List.getElem?_set_self hjl
  have hw12 : i < 12 := by omega
  refine forL_inv (fun k e st => ∃ x13 ks L', e = [some (D.ref 2), some s.d, some (D.tup (List.map encR f)), some (encW w), some (D.tup [D.bl c, encB old]), some (D.ref (j + 3)), some (D.int (L.length : Nat)), some (D.lst (List.map Nd.d ls)), some (D.lst (List.map (fun k : Nat => D.int (k : Nat)) M)), some (D.int y), none, some (D.int (i : Nat)), some (D.ref (rest.length + 3)), x13] ∧ Dk (B + 1 + k * C) (rest.set j (.lst (List.map Nd.d (L ++ .hope :: L'))) ++ [.lst (List.map (fun k : Nat => D.int (k : Nat)) ks)]) st ∧ Forest (L.length + 1) ks L' ∧ (L'.length : Int) ≤ k * C ∧ ks.length = k) ?_ ?_ _ _ ⟨_, [], [], rfl, by rw [Int.natCast_zero, Int.zero_mul, Int.add_zero]; exact hD.push, .nil, by rw [Int.natCast_zero, Int.zero_mul]; exact Int.le_refl _, rfl⟩
  · rintro k e st d ⟨x13, ks, L', rfl, hD, hF, hLl, hkl⟩ he R hR
    rw [List.getElem?_map] at he
    cases hp : row[k]? with
    | none => rw [hp] at he; cases he
    | some p =>
      rw [hp] at he
      cases he
      have hkr := (List.getElem?_eq_some_iff.mp hp).1
      have hk1 : ((k : Int) + 1) * C ≤ row.length * C := Int.mul_le_mul_of_nonneg_right (by omega) (by omega)
      have hk2 : ((k : Int) + 1) * C = k * C + C := by rw [Int.add_mul, Int.one_mul]
      refine ⟨trivial, ?_⟩
      have t1 := hD.top
      rw [List.length_set] at t1
      simp? only [w_f_law_made_up_2, v_lenR (rd_ref' (hst hD hj3)), v_app t1, List.length_map]
      have ek : (L ++ Nd.hope :: L').length = L.length + 1 + L'.length := by rw [List.length_append, List.length_cons]; omega
      have ek2 : List.map (fun k : Nat => D.int (k : Nat)) ks ++ [D.int ((L ++ Nd.hope :: L').length : Nat)] = List.map (fun k : Nat => D.int (k : Nat)) (ks ++ [L.length + 1 + L'.length]) := by rw [List.map_append, ek]; rfl
      rw [ek2]
      have hD1 := hD.put (c' := .lst (List.map (fun k : Nat => D.int (k : Nat)) (ks ++ [L.length + 1 + L'.length])))
      rw [List.length_set] at hD1
      refine ⟨⟨_, rd_ref' t1⟩, by rw [hkl, sizeLine_eq]; omega, by decide, put_use (i := i) (ds := f.map encR) (by rw [List.length_map]; omega) ?_⟩
      have eset : (f.map encR).set i (.tup [encP p]) = (oneF f i p).map encR := by unfold oneF; rw [List.map_set]; rfl
      rw [eset]
      have hok1 : LayOk s (oneF f i p) := ⟨hok.s30, hok.co.one i p, by unfold oneF; rw [List.length_set]; exact hok.few⟩
      have hm1 := mrow_one p hrow hrl
      have hCp := hCe p
      refine ⟨⟨_, B + 1 + k * C, s, oneF f i p, w, c, old, j, L ++ .hope :: L'⟩, rfl, rfl, ⟨hD1, hj3, hok1, by show mrow (oneF f i p) < n; omega, by show B + 1 + k * C + cntF (oneF f i p) < 2 ^ 36; omega, by show (((L ++ Nd.hope :: L').length : Nat) : Int) + cntF (oneF f i p) ≤ 1000; rw [ek]; omega⟩, ?_⟩
      rintro d s2 ⟨S, hD2, hS, rfl, hseg⟩
      dsimp only at hD2 hS hseg
      rw [hCp] at hD2 hS
      rw [List.set_append_left _ _ (by rw [List.length_set]; exact hjl), List.set_set, List.append_assoc, List.cons_append] at hD2
      refine hR _ _ ⟨_, ks ++ [L.length + 1 + L'.length], L' ++ S, rfl, by rw [show B + 1 + ((k + 1 : Nat) : Int) * C = B + 1 + k * C + C by rw [Int.natCast_add, Int.natCast_one, hk2]; omega]; exact hD2, ?_, by rw [List.length_append, Int.natCast_add, Int.natCast_add, Int.natCast_one, hk2]; omega, by rw [List.length_append, List.length_singleton, hkl]⟩
      refine Forest.snoc ks hF ?_
      rw [ek] at hseg
      exact hseg
  · rintro e st ⟨x13, ks, L', rfl, hD, hF, hLl, hkl⟩
    rw [List.length_map] at hD hLl hkl
    refine ⟨trivial, ?_⟩
    have t1 := hD.top
    rw [List.length_set] at t1
    (try simp? only [true_and])
    refine ⟨_, _, rfl, .inl (rd_ref' t1), by decide, _, rfl, _, rfl, j + 3, _, (L.length : Int), L.length, rfl, rfl, hst hD hj3, ?_, ?_⟩
    · unfold ixN
      rw [if_pos (by omega), if_pos (by rw [List.length_map, List.length_append, List.length_cons]; omega)]
      rfl
    · refine ⟨_, rfl, ?_⟩
      have hD2 := dk_set (j := j) (c := .lst (List.map Nd.d (L ++ .part i ks :: L'))) hD
      rw [List.set_append_left _ _ (by rw [List.length_set]; exact hjl), List.set_set] at hD2
      rw [show List.set (List.map Nd.d (L ++ .hope :: L')) L.length (D.tup [.int 0, .int (i : Nat), .tup (ks.map fun k : Nat => D.int (k : Nat))]) = List.map Nd.d (L ++ .part i ks :: L') by rw [show D.tup [.int 0, .int (i : Nat), .tup (ks.map fun k : Nat => D.int (k : Nat))] = (Nd.part i ks).d from rfl, ← List.map_set, List.set_append_right _ _ (Nat.le_refl _), Nat.sub_self]; rfl]
      refine dk_pop2 hD0 hD2 (blw3 rfl) (cel_nds _ _) fun st1 hD3 => ?_
      exact ⟨.part i ks :: L', hD3.mono (by omega), by rw [List.length_cons]; omega, rfl, .part hw12 hF⟩
def aimD (c : Bool) (old : List (Option P2)) : D := .tup [.bl c, encB old]
def encPl : Option (List P2) → D
  | none => .non
  | some ps => encR ps
theorem blwL_rows (n : Nat) : ∀ rs : List (List Int), D.blwL n (rs.map dInts) = true
  | [] => rfl
  | r :: rs => by rw [List.map_cons]; simp only [D.blwL, dInts, D.blw, blwL_ints, blwL_rows n rs, Bool.and_self]
theorem blw_wk (n : Nat) (w : Wk) : w.d.blw n = true := by simp only [Wk.d, dInts, D.blw, D.blwL, blwL_ints, Bool.and_self]
theorem blw_ws (n : Nat) (w : Ws) : w.d.blw n = true := by simp only [Ws.d, D.blw, D.blwL, Bool.and_self]
theorem blwL_of {n : Nat} : ∀ {ds : List D}, (∀ d ∈ ds, d.blw n = true) → D.blwL n ds = true
  | [], _ => rfl
  | d :: r, h => by simp only [D.blwL, h d List.mem_cons_self, blwL_of fun x hx => h x (List.mem_cons_of_mem _ hx), Bool.and_self]
theorem blwL_works (n : Nat) (ws : List Wk) : D.blwL n (ws.map Wk.d) = true := blwL_of fun d hd => by
  obtain ⟨w, _, rfl⟩ := List.mem_map.mp hd; exact blw_wk n w
theorem blwL_wishes (n : Nat) (ws : List Ws) : D.blwL n (ws.map Ws.d) = true := blwL_of fun d hd => by
  obtain ⟨w, _, rfl⟩ := List.mem_map.mp hd; exact blw_ws n w
theorem blw_sy (n : Nat) (s : Sy) : s.d.blw n = true := by simp only [Sy.d, D.blw, D.blwL, blwL_rows, blwL_works, blwL_wishes, Bool.and_self]
structure BsG where
  s : Sy
  f : List (List P2)
  c : Bool
  old : List (Option P2)
def BsG.best (x : BsG) : Bst := bestB x.s x.c x.old none x.f
inductive Pend (L : List Nd) : List Nat → Nat → Prop
  | nil : Pend L [] 0
  | cons {a : Nat} {T : List Nd} {r : List Nat} {m : Nat} : Seg a T → T <+: L.drop a → Pend L r m → Pend L (a :: r) (T.length + m)
theorem Pend.append {L : List Nd} {s : List Nat} {k : Nat} (h2 : Pend L s k) : ∀ {r : List Nat} {m : Nat}, Pend L r m → Pend L (r ++ s) (m + k)
  | _, _, .nil => by rw [Nat.zero_add]; exact h2
  | _, _, .cons h p t => by
    rw [Nat.add_assoc, List.cons_append]
    exact .cons h p (h2.append t)
theorem Pend.pop {L : List Nd} : ∀ {r : List Nat} {m k a : Nat}, Pend L r m → r[k]? = some a → ∃ T m', Seg a T ∧ T <+: L.drop a ∧ m = T.length + m' ∧ Pend L (r.eraseIdx k) m'
  | _, _, _, _, .nil, h => by cases h
  | _, _, 0, _, .cons h p t, e => by
    cases e
    exact ⟨_, _, h, p, rfl, t⟩
  | _, _, k + 1, a, .cons (T := S) h p t, e => by
    obtain ⟨T, m', h1, h2, h3, h4⟩ := t.pop (k := k) e
    exact ⟨T, S.length + m', h1, h2, by omega, .cons h p h4⟩
theorem Pend.len {L : List Nd} : ∀ {r : List Nat} {m : Nat}, Pend L r m → r.length ≤ m
  | _, _, .nil => Nat.le_refl _
  | _, _, .cons h _ t => by
    have h1 := h.pos
    have h2 := t.len
    rw [List.length_cons]
    omega
def NdOk (N : Nat) : Nd → Prop
  | .part w ks => w < 12 ∧ ks.length ≤ N ∧ ∀ k ∈ ks, k < N
  | l => l.Leaf
def ForestOk (N : Nat) (L : List Nd) (ks : List Nat) : Prop := (∀ l ∈ L, NdOk N l) ∧ (∀ k ∈ ks, k < N) ∧ ks.length ≤ L.length
theorem tree_ok (N : Nat) : ∀ n : Nat, (∀ (L : List Nd) (a : Nat), L.length ≤ n → Seg a L → a + L.length ≤ N → ∀ l ∈ L, NdOk N l) ∧ (∀ (L : List Nd) (ks : List Nat) (b : Nat), L.length ≤ n → Forest b ks L → b + L.length ≤ N → ForestOk N L ks) := fun n => by
  induction n with
  | zero =>
    refine ⟨fun L a hl h _ => ?_, fun L ks b hl h _ => ?_⟩
    · have := h.pos; omega
    · cases h with
      | nil => exact ⟨(fun _ h => nomatch h), (fun _ h => nomatch h), Nat.le_refl _⟩
      | cons h1 _ => have := h1.pos; rw [List.length_append] at hl; omega
  | succ n ih =>
    have key : ∀ (L : List Nd) (a : Nat), L.length ≤ n + 1 → Seg a L → a + L.length ≤ N → ∀ l ∈ L, NdOk N l := fun L a hl h hn => by
      cases h with
      | leaf h =>
        intro l hl
        rw [List.mem_singleton] at hl
        subst hl
        unfold NdOk
        split
        · exact h.elim
        · exact h
      | part hw h =>
        rename_i w ks T
        rw [List.length_cons] at hn hl
        obtain ⟨h1, h2, h3⟩ := ih.2 T ks _ (by omega) h (by omega)
        intro l hl
        rcases List.mem_cons.mp hl with rfl | hl
        · exact ⟨hw, by omega, fun k hk => by have := h2 k hk; omega⟩
        · exact h1 l hl
    refine ⟨key, fun L ks b hl h hn => ?_⟩
    cases h with
    | nil => exact ⟨(fun _ h => nomatch h), (fun _ h => nomatch h), Nat.le_refl _⟩
    | cons h1 h2 =>
      rename_i ks S F
      rw [List.length_append] at hn hl
      have hS := h1.pos
      obtain ⟨g1, g2, g3⟩ := ih.2 F ks _ (by omega) h2 (by omega)
      have g4 := key S _ (by omega) h1 (by omega)
      refine ⟨fun l hl => ?_, fun k hk => ?_, by rw [List.length_append, List.length_cons]; omega⟩
      · rcases List.mem_append.mp hl with hl | hl
        · exact g4 l hl
        · exact g1 l hl
      · rcases List.mem_cons.mp hk with rfl | hk
        · omega
        · exact g2 k hk
theorem dk_get {B : Int} {R st : Sto} {i : Nat} {c : Cel} (h : Dk B R st) (e : R[i]? = some c) : st[i + 3]? = some c := by
  obtain ⟨_, _, _, rfl, _⟩ := h
  exact e
def dN (ks : List Nat) : List D := ks.map fun k : Nat => D.int (k : Nat)
def kidsN : Nd → Nat
  | .part _ ks => ks.length
  | _ => 0
mutual
def _root_.DL.D.smx : D → Bool
  | .non => true
  | .bl _ => true
  | .int i => decide (i.natAbs < 10 ^ 64)
  | .str s => PyData.leavesShort 66 (.str s)
  | .tup ds => D.smxL ds
  | .lst ds => D.smxL ds
  | .scr ds => D.smxL ds
  | .dct kvs => (PyData.dict (kvs.map fun p => (kPy p.1, kPy p.2))).leavesShort 66 && (PyData.dict (kvs.map fun p => (kPy p.1, kPy p.2))).showable
  | .ref _ => false
  | .fn _ _ _ => false
  | .exc _ _ _ => false
def _root_.DL.D.smxL : List D → Bool
  | [] => true
  | d :: r => d.smx && D.smxL r
end
/-- m: lists are within at most; not m: dicts at most -/
structure FX (m : Bool) (k n : Nat) (d : D) : Prop where
  ok : (if m = true then d.ok else d.okd) = true
  smx : d.smx = true
  blk : d.blk ≤ n
  dep : d.dep ≤ k
  blw : d.blw 0 = true
structure FXL (m : Bool) (k n : Nat) (ds : List D) : Prop where
  ok : (if m = true then D.okL ds else D.okdL ds) = true
  smx : D.smxL ds = true
  blk : D.blkL ds ≤ n
  dep : D.depL ds ≤ k
  blw : D.blwL 0 ds = true
section
variable {m : Bool} {k n k' n' : Nat} {d : D} {ds es : List D}
theorem FX.mono (h : FX m k n d) (hk : k ≤ k') (hn : n ≤ n') : FX m k' n' d := ⟨h.ok, h.smx, Nat.le_trans h.blk hn, Nat.le_trans h.dep hk, h.blw⟩
theorem FXL.mono (h : FXL m k n ds) (hk : k ≤ k') (hn : n ≤ n') : FXL m k' n' ds := ⟨h.ok, h.smx, Nat.le_trans h.blk hn, Nat.le_trans h.dep hk, h.blw⟩
theorem FX.any (h : FX m k n d) (hn : n ≤ 1000000) : Any d := ⟨h.blw, Nat.le_trans h.blk hn⟩
theorem fx_tup (h : FXL m k n ds) : FX m (k + 1) n (.tup ds) := by
  refine ⟨?_, by simp only [D.smx]; exact h.smx, by simp only [D.blk]; exact h.blk, by simp only [D.dep]; have := h.dep; omega, by simp only [D.blw]; exact h.blw⟩
  have := h.ok
  cases m <;> simpa only [D.ok, D.okd] using this
theorem fx_lst (h : FXL true k n ds) : FX true (k + 1) n (.lst ds) := by
  refine ⟨?_, by simp only [D.smx]; exact h.smx, by simp only [D.blk]; exact h.blk, by simp only [D.dep]; have := h.dep; omega, by simp only [D.blw]; exact h.blw⟩
  have : D.okL ds = true := h.ok
  show (D.lst ds).ok = true
  simpa only [D.ok] using this
theorem fxL_nil : FXL m 0 0 [] := ⟨by cases m <;> rfl, rfl, Nat.le_refl _, Nat.le_refl _, rfl⟩
theorem fxL_cons (h : FX m k n d) (t : FXL m k n' ds) : FXL m k (n + 1 + n') (d :: ds) := by
  have h1 := h.ok; have h2 := h.smx; have h3 := h.blk; have h4 := h.dep; have h5 := h.blw
  have t1 := t.ok; have t2 := t.smx; have t3 := t.blk; have t4 := t.dep; have t5 := t.blw
  refine ⟨?_, by simp only [D.smxL, h2, t2, Bool.and_self], by simp only [D.blkL]; omega, by simp only [D.depL]; omega, by simp only [D.blwL, h5, t5, Bool.and_self]⟩
  cases m with
  | true =>
    simp only [if_true] at h1 t1 ⊢
    simp only [D.okL, h1, t1, Bool.and_self]
  | false =>
    simp only [Bool.false_eq_true, if_false] at h1 t1 ⊢
    simp only [D.okdL, h1, t1, Bool.and_self]
theorem fxL_head (h : FXL m k n (d :: ds)) : FX m k n d ∧ FXL m k n ds ∧ d.blk + 1 + D.blkL ds ≤ n := by
  have h1 := h.ok; have h2 := h.smx; have h3 := h.blk; have h4 := h.dep; have h5 := h.blw
  simp only [D.smxL, D.blkL, D.depL, D.blwL, Bool.and_eq_true] at h2 h3 h4 h5
  have h6 : (if m = true then d.ok else d.okd) = true ∧ (if m = true then D.okL ds else D.okdL ds) = true := by
    cases m with
    | true =>
      simp only [if_true, D.okL, Bool.and_eq_true] at h1 ⊢
      exact h1
    | false =>
      simp only [Bool.false_eq_true, if_false, D.okdL, Bool.and_eq_true] at h1 ⊢
      exact h1
  exact ⟨⟨h6.1, h2.1, by omega, by omega, h5.1⟩, ⟨h6.2, h2.2, by omega, by omega, h5.2⟩, h3⟩
theorem fxL_app (h : FXL m k n ds) (t : FXL m k n' es) : FXL m k (n + n') (ds ++ es) := by
  induction ds generalizing n with
  | nil => exact t.mono (Nat.le_refl _) (by omega)
  | cons d r ih =>
    obtain ⟨h1, h2, h3⟩ := fxL_head h
    have q := ih (n := D.blkL r) ⟨h2.ok, h2.smx, Nat.le_refl _, h2.dep, h2.blw⟩
    have h1' : FX m k d.blk d := ⟨h1.ok, h1.smx, Nat.le_refl _, h1.dep, h1.blw⟩
    exact (fxL_cons h1' q).mono (Nat.le_refl _) (by omega)
theorem fxL_drop (h : FXL m k n ds) (i : Nat) : FXL m k n (ds.drop i) := by
  induction ds generalizing n i with
  | nil => rw [List.drop_nil]; exact h
  | cons d r ih =>
    obtain ⟨h1, h2, h3⟩ := fxL_head h
    cases i with
    | zero => exact h
    | succ i => exact ih h2 i
theorem fxL_take (h : FXL m k n ds) (i : Nat) : FXL m k n (ds.take i) := by
  induction ds generalizing n i with
  | nil => rw [List.take_nil]; exact h
  | cons d r ih =>
    obtain ⟨h1, h2, h3⟩ := fxL_head h
    cases i with
    | zero => exact (fxL_nil).mono (Nat.zero_le _) (Nat.zero_le _)
    | succ i =>
      have q := ih (n := D.blkL r) ⟨h2.ok, h2.smx, Nat.le_refl _, h2.dep, h2.blw⟩ i
      have h1' : FX m k d.blk d := ⟨h1.ok, h1.smx, Nat.le_refl _, h1.dep, h1.blw⟩
      exact (fxL_cons h1' q).mono (Nat.le_refl _) (by omega)
theorem fxL_set (h : FXL m k n ds) (hd : FX m k n' d) (i : Nat) : FXL m k (n + n') (ds.set i d) := by
  induction ds generalizing n i with
  | nil => exact h.mono (Nat.le_refl _) (by omega)
  | cons x r ih =>
    obtain ⟨h1, h2, h3⟩ := fxL_head h
    cases i with
    | zero => exact (fxL_cons hd (⟨h2.ok, h2.smx, Nat.le_refl _, h2.dep, h2.blw⟩ : FXL m k (D.blkL r) r)).mono (Nat.le_refl _) (by omega)
    | succ i =>
      have q := ih (n := D.blkL r) ⟨h2.ok, h2.smx, Nat.le_refl _, h2.dep, h2.blw⟩ i
      have h1' : FX m k x.blk x := ⟨h1.ok, h1.smx, Nat.le_refl _, h1.dep, h1.blw⟩
      exact (fxL_cons h1' q).mono (Nat.le_refl _) (by omega)
theorem fxL_rev (h : FXL m k n ds) : FXL m k n ds.reverse := by
  induction ds generalizing n with
  | nil => exact h
  | cons d r ih =>
    obtain ⟨h1, h2, h3⟩ := fxL_head h
    have q := ih (n := D.blkL r) ⟨h2.ok, h2.smx, Nat.le_refl _, h2.dep, h2.blw⟩
    have h1' : FX m k d.blk d := ⟨h1.ok, h1.smx, Nat.le_refl _, h1.dep, h1.blw⟩
    rw [List.reverse_cons]
    exact (fxL_app q (fxL_cons h1' ((fxL_nil).mono (Nat.zero_le k) (Nat.le_refl 0)))).mono (Nat.le_refl _) (by omega)
theorem fx_int {i : Int} (h : i.natAbs < 10 ^ 64) : FX m k n (.int i) := ⟨by cases m <;> rfl, by simp only [D.smx, decide_eq_true_eq]; exact h, Nat.zero_le _, Nat.zero_le _, rfl⟩
theorem fx_non : FX m k n .non := ⟨by cases m <;> rfl, rfl, Nat.zero_le _, Nat.zero_le _, rfl⟩
theorem fx_bl {b : Bool} : FX m k n (.bl b) := ⟨by cases m <;> rfl, rfl, Nat.zero_le _, Nat.zero_le _, rfl⟩
end
theorem v_listT {m : Bool} {ds : List D} {st : Sto} {Q : DK} : bList m [.tup ds] st Q = newL m ds st Q :=
  propext ⟨fun ⟨_, _, e, h, q⟩ => by cases e; rcases h with h | h | h <;> cases h; exact q, fun q => ⟨_, _, rfl, .inr (.inl rfl), q⟩⟩
theorem st1 : PyData.canLay0 (.str "") = true ∧ PyData.leavesShort 66 (.str "") = true ∧ ("" : Str).cps.size = 0 := by decide +kernel
theorem fx_nilL {m : Bool} {k : Nat} : FXL m k 0 [] := fxL_nil.mono (Nat.zero_le _) (Nat.le_refl _)
theorem fxL_cut {m : Bool} {k n : Nat} {ds : List D} (h : FXL m k n ds) (a b : Option Int) : FXL m k n (cutL ds a b) := fxL_take (fxL_drop h _) _
/-- what may stand anywhere -/
def Odd (d : D) : Prop := ∃ m, FX m 20 100000 d
theorem Odd.any {d : D} (h : Odd d) : Any d := let ⟨_, h⟩ := h; h.any (by decide)
theorem pick_of {xs : List D} {i : Int} {P R : D → Prop} (h0 : 0 ≤ i) (h1 : i < xs.length) (hP : ∀ x ∈ xs, P x) (hR : ∀ x, P x → R x) : ∃ d, atI xs i = some d ∧ R d := by
  obtain ⟨d, h2, h3⟩ := pick (xs := xs) h0 h1
  exact ⟨d, h2, hR d (hP d h3)⟩
theorem fx_nat {m : Bool} {k n : Nat} {i : Nat} (h : i ≤ 1000000) : FX m k n (.int (i : Nat)) := fx_int (by
  have : (1000000 : Nat) < 10 ^ 64 := by decide
  omega)
theorem fx_i {m : Bool} {k n : Nat} {i : Int} (h : -1000000 ≤ i ∧ i ≤ 1000000) : FX m k n (.int i) := fx_int (by
  have : (1000000 : Nat) < 10 ^ 64 := by decide
  omega)
theorem fx_dN {m : Bool} : ∀ {ks : List Nat}, (∀ k ∈ ks, k ≤ 1000000) → FXL m 0 ks.length (dN ks)
  | [], _ => fx_nilL
  | k :: ks, h => (fxL_cons (n := 0) (fx_nat (h k List.mem_cons_self)) (fx_dN fun j hj => h j (List.mem_cons_of_mem _ hj))).mono (Nat.le_refl _) (by rw [List.length_cons]; omega)
theorem fx2 {m : Bool} {k n n' : Nat} {a b : D} (h : FX m k n a) (h' : FX m k n' b) : FXL m k (n + n' + 2) [a, b] := (fxL_cons h (fxL_cons h' (fx_nilL))).mono (Nat.le_refl _) (by omega)
theorem fx3 {m : Bool} {k n n' n'' : Nat} {a b c : D} (h : FX m k n a) (h' : FX m k n' b) (h'' : FX m k n'' c) : FXL m k (n + n' + n'' + 3) [a, b, c] := (fxL_cons h (fxL_cons h' (fxL_cons h'' (fx_nilL)))).mono (Nat.le_refl _) (by omega)
theorem nd_sh {m : Bool} {N : Nat} (hN : N ≤ 1000) : ∀ {l : Nd}, NdOk N l → ∃ (k : Int) (r : List D), l.d = .tup (.int k :: r) ∧ FXL m 1 (kidsN l + 2) r ∧ r.length ≤ 2 ∧
    ((k = 0 ∧ ∃ (w : Nat) (ks : List Nat), r = [.int (w : Nat), .tup (dN ks)] ∧ kidsN l = ks.length ∧ ks.length ≤ N ∧ w < 12 ∧ ∀ k ∈ ks, k < N) ∨ ((k = 1 ∨ k = 2) ∧ ∃ a b : Int, r = [.int a, .int b] ∧ (0 ≤ a ∧ a ≤ 100) ∧ (0 ≤ b ∧ b ≤ 100)) ∨ (k = 3 ∧ r = []))
  | .clash a b, h => by
    obtain ⟨h1, h2⟩ : a < 12 ∧ b < 12 := h
    exact ⟨1, _, rfl, (fx2 (n := 0) (n' := 0) (fx_i (by omega)) (fx_i (by omega))).mono (Nat.le_refl _) (by omega), Nat.le_refl _, .inr (.inl ⟨.inl rfl, a, b, rfl, by omega, by omega⟩)⟩
  | .full a b, h => by
    obtain ⟨h1, h2⟩ : (0 ≤ a ∧ a ≤ 30) ∧ 0 ≤ b ∧ b ≤ 30 := h
    exact ⟨2, _, rfl, (fx2 (n := 0) (n' := 0) (fx_i (by omega)) (fx_i (by omega))).mono (Nat.le_refl _) (by omega), Nat.le_refl _, .inr (.inl ⟨.inr rfl, a, b, rfl, by omega, by omega⟩)⟩
  | .hope, _ => ⟨3, [], rfl, fx_nilL.mono (Nat.le_refl _) (by omega), Nat.zero_le _, .inr (.inr ⟨rfl, rfl⟩)⟩
  | .part w ks, h => by
    obtain ⟨h1, h2, h3⟩ : w < 12 ∧ ks.length ≤ N ∧ ∀ k ∈ ks, k < N := h
    refine ⟨0, _, rfl, (fx2 (n := 0) (n' := ks.length) (fx_i (by omega)) (fx_tup (fx_dN fun k hk => by have := h3 k hk; omega))).mono (Nat.le_refl _) ?_, Nat.le_refl _, .inl ⟨rfl, w, ks, rfl, rfl, h2, h1, h3⟩⟩
    show 0 + ks.length + 2 ≤ ks.length + 2
    omega
theorem fx_nd {m : Bool} {N : Nat} (hN : N ≤ 1000) {l : Nd} (h : NdOk N l) : FX m 2 (kidsN l + 3) l.d := by
  obtain ⟨k, r, e, hr, _, hk⟩ := nd_sh (m := m) hN h
  rw [e]
  refine fx_tup ((fxL_cons (n := 0) (fx_i ?_) hr).mono (Nat.le_refl _) (by omega))
  rcases hk with ⟨rfl, _⟩ | ⟨rfl | rfl, _⟩ | ⟨rfl, _⟩ <;> decide
theorem fxL_nds {m : Bool} {N : Nat} (hN : N ≤ 1000) : ∀ {L : List Nd}, (∀ l ∈ L, NdOk N l) → FXL m 2 (4 * L.length + (L.map kidsN).sum) (L.map Nd.d)
  | [], _ => fx_nilL
  | l :: L, h => by
    have := fxL_cons (fx_nd (m := m) hN (h l List.mem_cons_self)) (fxL_nds hN fun x hx => h x (List.mem_cons_of_mem _ hx))
    rw [List.map_cons, List.map_cons, List.sum_cons, List.length_cons]
    exact this.mono (Nat.le_refl _) (by omega)
theorem fxL_putL {m : Bool} {k n n' : Nat} {ds : List D} {d : D} (h : FXL m k n ds) (hd : FX m k n' d) (i : Nat) : FXL m k (n + n + n' + 1) (putL ds i d) := by
  unfold putL
  exact (fxL_app (fxL_take h i) (fxL_cons hd (fxL_drop h (i + 1)))).mono (Nat.le_refl _) (by omega)
def w_f_law_best_1 : DS := wSeq (wAsg (wCall S_f_law_worth (wCons (wVar 0) (wCons (wVar 5) (wCons (wVar 2) (wNil))))) (gNm 6)) (wIf (wOr (wTest (wOp (dIsN fun b => b) (wVar 3) (wC .non))) (wTest (wOp dGt (wVar 6) (wVar 3)))) (wSeq (wAsg (wVar 6) (gNm 3)) (wAsg (wVar 5) (gNm 4))) ((fun D env st => D.nx env st)))
def w_f_law_best : DS := wSeq (wAsg (wC .non) (gNm 3)) (wSeq (wAsg (wC .non) (gNm 4)) (wSeq (wFor (iSeq (wCall S_f_law_plans (wCons (wVar 0) (wCons (wVar 1) (wNil))))) (gNm 5) w_f_law_best_1) (wRet (wTup (wCons (wVar 3) (wCons (wVar 4) (wNil)))))))
def S_f_law_best : DL.Spec := pureS 3 (fun x : BsG => [x.s.d, encF x.f, aimD x.c x.old]) (fun x => CaseOk x.s x.f ∧ manyF x.f ≤ 1000000) (fun x => .tup [encW (x.best.map (·.2)), encPl (x.best.map (·.1))])
theorem vc_f_law_best : ∀ g sto, (S_f_law_best.args g).length = S_f_law_best.n → S_f_law_best.pre g sto → w_f_law_best (bodyEnds (S_f_law_best.post g sto)) (startE ["_law_system_here", "_law_field", "_law_aim_here", "_law_top", "_law_least", "_law_plan", "_law_worth_here"] (S_f_law_best.args g)) sto := by
  rintro ⟨s, f, c, old⟩ sto _ ⟨hc, hm⟩
  dsimp only at hc hm
  have hl := hc.len
  have hw := hc.few
  simp? only [w_f_law_best, S_f_law_best, pureS, wFor]
  refine use_pure (s, f) rfl rfl ⟨by dsimp only; omega, by dsimp only; omega, fun _ => hm⟩ ?_
  (try simp? only [true_and])
  refine forL_inv (fun i e st => ∃ x5 x6, e = [some s.d, some (encF f), some (aimD c old), some (encW ((((plansF s f).take i).foldl (updB s c old) none).map (·.2))), some (encPl ((((plansF s f).take i).foldl (updB s c old) none).map (·.1))), x5, x6] ∧ st = sto) ?_ ?_ _ _ ⟨_, _, rfl, rfl⟩
  · rintro i e st d ⟨x5, x6, rfl, rfl⟩ he R hR
    rw [List.getElem?_map] at he
    cases hp : (plansF s f)[i]? with
    | none => rw [hp] at he; cases he
    | some ps =>
      rw [hp] at he
      cases he
      have hpl := (plans_mem (List.mem_of_getElem? hp)).len
      refine ⟨trivial, ?_⟩
      have etk := take_snoc hp
      generalize eb : ((plansF s f).take i).foldl (updB s c old) none = b at *
      have e1 : ((plansF s f).take (i + 1)).foldl (updB s c old) none = updB s c old b ps := by rw [etk, List.foldl_append, eb, List.foldl_cons, List.foldl_nil]
      simp? only [w_f_law_best_1]
      refine use_pure (s, ps, c, old) rfl rfl ⟨hc.wish, by dsimp only; omega, hw⟩ ?_
      have fin : ∀ w : Bst, w = updB s c old b ps → ∀ x5 x6, R [some s.d, some (encF f), some (aimD c old), some (encW (w.map (·.2))), some (encPl (w.map (·.1))), x5, x6] st := fun w ew x5 x6 => hR _ _ ⟨x5, x6, by rw [e1, ew], rfl⟩
      cases b with
      | none =>
        simp? only [Option.map_none, encW, encPl, dIsN, D.isNon]
        exact fin (some (ps, worthF s ps c old)) rfl _ _
      | some x =>
        obtain ⟨qs, v⟩ := x
        simp? only [Option.map_some, encW, encPl, dIsN, show (dInts v).isNon = false from rfl]
        refine v_gtInts ⟨_, rfl, ?_⟩
        cases h : HT.lexLt v (worthF s ps c old) with
        | true =>
          rw [if_pos rfl]
          exact fin (some (ps, worthF s ps c old)) (by unfold updB; dsimp only; rw [if_pos h]) _ _
        | false =>
          rw [if_neg (by decide)]
          exact fin (some (qs, v)) (by unfold updB; dsimp only; rw [if_neg (by rw [h]; decide)]) _ _
  · rintro e st ⟨x5, x6, rfl, rfl⟩
    refine ⟨trivial, ?_⟩
    rw [List.length_map, List.take_length]
    (try simp? only [true_and])
    exact ⟨by decide, rfl⟩
section
variable {s : Sy} {c : Bool} {old : List (Option P2)} {w : Option (List Int)}
theorem leaf_ok {f : List (List P2)} {N : Nat} {l : Nd} (h12 : f.length ≤ 12) (hd : s.days ≤ 30) (hp : ∀ i ks, l ≠ .part i ks) (h : holdsD s f c old w l.d = true) : NdOk N l ∧ kidsN l = 0 := by
  cases l with
  | part i ks => exact absurd rfl (hp i ks)
  | hope => exact ⟨trivial, rfl⟩
  | clash a b =>
    have h : clashD s f (.int a) (.int b) = true := h
    unfold clashD at h
    dsimp only at h
    have h2 : (lone1 f (.int a) && lone1 f (.int b) && !((a : Int) == b)) = true := by
      cases e : (lone1 f (.int a) && lone1 f (.int b) && !((a : Int) == b)) with
      | true => rfl
      | false => rw [e] at h; cases h
    rw [Bool.and_eq_true, Bool.and_eq_true] at h2
    obtain ⟨i, p, e1, h3, h4, _⟩ := lone1_int h2.1.1
    obtain ⟨j, q, e2, h5, h6, _⟩ := lone1_int h2.1.2
    cases e1
    cases e2
    exact ⟨(show a < 12 ∧ b < 12 by omega), rfl⟩
  | full a b =>
    have h : fullD s f (.int a) (.int b) = true := h
    unfold fullD at h
    dsimp only at h
    by_cases h1 : 1 ≤ b
    · by_cases h2 : b ≤ s.days
      · by_cases h3 : 0 ≤ a
        · by_cases h4 : a ≤ b - 1
          · exact ⟨(show (0 ≤ a ∧ a ≤ 30) ∧ 0 ≤ b ∧ b ≤ 30 by omega), rfl⟩
          · rw [if_pos h1, if_pos h2, if_pos h3, if_neg h4] at h; cases h
        · rw [if_pos h1, if_pos h2, if_neg h3] at h; cases h
      · rw [if_pos h1, if_neg h2] at h; cases h
    · rw [if_neg h1] at h; cases h
mutual
theorem VSeg.nds (hd : s.days ≤ 30) : ∀ {f : List (List P2)} {a : Nat} {T : List Nd}, VSeg s c old w f a T → f.length ≤ 12 → ∀ N, a + T.length ≤ N → (∀ l ∈ T, NdOk N l) ∧ (T.map kidsN).sum + 1 = T.length
  | _, _, _, .leaf hp hh, h12, N, hN => by
    obtain ⟨h1, h2⟩ := leaf_ok (N := N) h12 hd hp hh
    refine ⟨fun l hl => by rw [List.mem_singleton] at hl; subst hl; exact h1, ?_⟩
    rw [List.map_cons, List.map_nil, List.sum_cons, h2]
    rfl
  | f, a, _, .part (i := i) (ks := ks) (L := L) hi hr hv, h12, N, hN => by
    obtain ⟨k1, k2, k3⟩ := hv.ks
    obtain ⟨h1, h2⟩ := VFor.nds hd hv (fun g hg => by obtain ⟨p, _, rfl⟩ := List.mem_map.mp hg; rw [one_length]; exact h12) N (by rw [List.length_cons] at hN; omega)
    rw [List.length_cons] at hN
    refine ⟨fun l hl => ?_, ?_⟩
    · rcases List.mem_cons.mp hl with rfl | hl
      · refine (show i < 12 ∧ ks.length ≤ N ∧ ∀ k ∈ ks, k < N from ⟨by omega, by omega, fun k hk => by have := k2 k hk; omega⟩)
      · exact h1 l hl
    · rw [List.map_cons, List.sum_cons, List.length_cons, show kidsN (.part i ks) = ks.length from rfl]
      omega
theorem VFor.nds (hd : s.days ≤ 30) : ∀ {gs : List (List (List P2))} {b : Nat} {ks : List Nat} {L : List Nd}, VFor s c old w gs b ks L → (∀ g ∈ gs, g.length ≤ 12) → ∀ N, b + L.length ≤ N → (∀ l ∈ L, NdOk N l) ∧ (L.map kidsN).sum + ks.length = L.length
  | _, _, _, _, .nil, _, N, _ => ⟨(fun _ h => nomatch h), rfl⟩
  | _, _, _, _, .cons h1 h2, hg, N, hN => by
    rw [List.length_append] at hN
    obtain ⟨a1, a2⟩ := VSeg.nds hd h1 (hg _ List.mem_cons_self) N (by omega)
    obtain ⟨b1, b2⟩ := VFor.nds hd h2 (fun g h => hg g (List.mem_cons_of_mem _ h)) N (by omega)
    refine ⟨fun l hl => (List.mem_append.mp hl).elim (a1 l) (b1 l), ?_⟩
    rw [List.map_append, List.sum_append, List.length_append, List.length_cons]
    omega
end
end
theorem fold_mem {s : Sy} {c : Bool} {old : List (Option P2)} : ∀ (L : List (List P2)) (b : Bst), (L.foldl (updB s c old) b = b) ∨ ∃ ps ∈ L, L.foldl (updB s c old) b = some (ps, worthF s ps c old)
  | [], b => .inl rfl
  | p :: L, b => by
    rw [List.foldl_cons]
    rcases fold_mem L (updB s c old b p) with h | ⟨ps, h1, h2⟩
    · rw [h]
      cases b with
      | none => exact .inr ⟨p, List.mem_cons_self, rfl⟩
      | some x =>
        obtain ⟨qs, v⟩ := x
        unfold updB
        dsimp only
        split
        · exact .inr ⟨p, List.mem_cons_self, rfl⟩
        · exact .inl rfl
    · exact .inr ⟨ps, List.mem_cons_of_mem _ h1, h2⟩
theorem best_mem {x : BsG} {ps : List P2} {v : List Int} (h : x.best = some (ps, v)) : ps ∈ plansF x.s x.f ∧ v = worthF x.s ps x.c x.old := by
  rcases fold_mem (s := x.s) (c := x.c) (old := x.old) (plansF x.s x.f) none with e | ⟨qs, h1, e⟩
  · have : x.best = none := e
    rw [this] at h; cases h
  · have : x.best = some (qs, worthF x.s qs x.c x.old) := e
    rw [this] at h
    cases h
    exact ⟨h1, rfl⟩
def S_f_law_bent_node : DL.Spec := ⟨5, Int × Nd × Nat × Int × Nat, fun x => [.int x.1, x.2.1.d, .int (x.2.2.1 : Nat), .int x.2.2.2.1, .int (x.2.2.2.2 : Nat)],
  fun x _ => 0 ≤ x.1 ∧ x.1 < 2147483629 ∧ NdOk x.2.2.1 x.2.1 ∧ x.2.2.1 ≤ 1000 ∧ (0 ≤ x.2.2.2.1 ∧ x.2.2.2.1 ≤ 30) ∧ x.2.2.2.2 ≤ 12,
  fun x st d st' => st' = st ∧ FX true 4 3000 d⟩
def w_f_law_bent_node_1 : DE := wTup (wCons (wC (.int 0)) (wCons (wVar 8) (wCons (wVar 13) (wNil))))
def w_f_law_bent_node : DS := wSeq (wAsg (wOp dSub (wOp dMod (wOp dFdiv (wVar 0) (wC (.int 23))) (wC (.int 40))) (wC (.int 3))) (gNm 5)) (wSeq (wAsg (wLst false (wCons (wTup (wCons (wC (.int 0)) (wCons (wVar 5) (wCons (wTup (wNil)) (wNil))))) (wCons (wTup (wCons (wC (.int 1)) (wCons (wVar 5) (wCons (wOp dSub (wOp dMod (wOp dFdiv (wVar 0) (wC (.int 1000))) (wC (.int 13))) (wC (.int 1))) (wNil))))) (wCons (wTup (wCons (wC (.int 2)) (wCons (wVar 5) (wCons (wOp dAdd (wOp dAdd (wVar 5) (wC (.int 1))) (wOp dMod (wOp dFdiv (wVar 0) (wC (.int 1000))) (wC (.int 5)))) (wNil))))) (wCons (wTup (wCons (wC (.int 3)) (wNil))) (wNil)))))) (gNm 6)) (wSeq (wAsg (wOp dAdd (wVar 6) (wLst false (wCons (wTup (wCons (wC (.int 2)) (wCons (wC (.int 0)) (wCons (wVar 3) (wNil))))) (wCons (wOp dAdd (wVar 1) (wTup (wCons (wC (.int 0)) (wNil)))) (wCons (wSl false (wVar 1) oNo (oPart (wNeg (wC (.int 1))))) (wCons (wCB (bList false) (wCons (wVar 1) (wNil))) (wCons (wTup (wNil)) (wCons (wC .non) (wCons (wTup (wCons (wC (.int 4)) (wNil))) (wCons (wTup (wCons (wNeg (wC (.int 1))) (wNil))) (wCons (wOp dAdd (wTup (wCons (wC (.bl true)) (wNil))) (wSl false (wVar 1) (oPart (wC (.int 1))) oNo)) (wNil)))))))))))) (gNm 6)) (wSeq (wAsg (wOp dAdd (wVar 6) (wLst false (wCons (wTup (wCons (wC (.int 3)) (wCons (wC (.int 0)) (wNil)))) (wCons (wTup (wCons (wC (.int 1)) (wCons (wC (.bl true)) (wCons (wC (.int 0)) (wNil))))) (wCons (wTup (wCons (wC (.int 2)) (wCons (wC (.bl false)) (wCons (wVar 3) (wNil))))) (wCons (wTup (wCons (wC (.int 1)) (wCons (wOp dMod (wVar 5) (wCB bMax2 (wCons (wC (.int 1)) (wCons (wVar 4) (wNil))))) (wCons (wOp dMod (wVar 5) (wCB bMax2 (wCons (wC (.int 1)) (wCons (wVar 4) (wNil))))) (wNil))))) (wCons (wTup (wCons (wC (.int 2)) (wCons (wVar 5) (wCons (wVar 5) (wNil))))) (wNil)))))))) (gNm 6)) (wSeq (wAsg (wLst false (wNil)) (gNm 7)) (wSeq (wIf (wTest (wOp dEq (wOp dIx (wVar 1) (wC (.int 0))) (wC (.int 0)))) (wSeq (wAsg (wSl false (wVar 1) (oPart (wC (.int 1))) oNo) (gTp 2 (gCn (gNm 8) (gCn (gNm 9) gNl)))) (wSeq (wAsg (wOp dMod (wOp dFdiv (wVar 0) (wC (.int 1000))) (wOp dAdd (wCB bLen (wCons (wVar 9) (wNil))) (wC (.int 1)))) (gNm 10)) (wSeq (wAsg (wOp dSub (wOp dMod (wOp dFdiv (wVar 0) (wC (.int 9000))) (wOp dAdd (wVar 2) (wC (.int 2)))) (wC (.int 1))) (gNm 11)) (wSeq (wAsg (wLst false (wCons (wRevA false (wVar 9)) (wCons (wCall S_f_law_put (wCons (wVar 9) (wCons (wVar 10) (wCons (wVar 11) (wNil))))) (wCons (wOp dAdd (wSl false (wVar 9) oNo (oPart (wVar 10))) (wSl false (wVar 9) (oPart (wOp dAdd (wVar 10) (wC (.int 1)))) oNo)) (wCons (wCB (bList false) (wCons (wVar 9) (wNil))) (wNil)))))) (gNm 12)) (wSeq (wAsg (wOp dAdd (wVar 12) (wLst false (wCons (wOp dAdd (wOp dAdd (wSl false (wVar 9) oNo (oPart (wVar 10))) (wTup (wCons (wVar 11) (wNil)))) (wSl false (wVar 9) (oPart (wVar 10)) oNo)) (wCons (wCall S_f_law_put (wCons (wVar 9) (wCons (wVar 10) (wCons (wOp dIx (wLst false (wCons (wC .non) (wCons (wC (.bl true)) (wCons (wC (.str "1")) (wNil))))) (wOp dMod (wVar 11) (wC (.int 3)))) (wNil))))) (wNil))))) (gNm 12)) (wAsg (wOp dAdd (wComp false (iSeq (wVar 12)) (.nm 13) wYes w_f_law_bent_node_1 [13]) (wLst false (wCons (wTup (wCons (wC (.int 0)) (wCons (wVar 5) (wCons (wVar 9) (wNil))))) (wCons (wTup (wCons (wC (.int 0)) (wCons (wC (.bl true)) (wCons (wVar 9) (wNil))))) (wCons (wTup (wCons (wC (.bl false)) (wCons (wVar 8) (wCons (wVar 9) (wNil))))) (wNil)))))) (gNm 7))))))) (wIf (wTest (wOp dLt (wOp dIx (wVar 1) (wC (.int 0))) (wC (.int 3)))) (wSeq (wAsg (wSl false (wVar 1) (oPart (wC (.int 1))) oNo) (gTp 2 (gCn (gNm 5) (gCn (gNm 11) gNl)))) (wSeq (wAsg (wLst false (wCons (wTup (wCons (wOp dIx (wVar 1) (wC (.int 0))) (wCons (wVar 11) (wCons (wVar 5) (wNil))))) (wCons (wTup (wCons (wOp dIx (wVar 1) (wC (.int 0))) (wCons (wOp dAdd (wVar 5) (wC (.int 1))) (wCons (wVar 11) (wNil))))) (wCons (wTup (wCons (wOp dIx (wVar 1) (wC (.int 0))) (wCons (wVar 5) (wCons (wOp dAdd (wVar 11) (wC (.int 1))) (wNil))))) (wCons (wTup (wCons (wOp dIx (wVar 1) (wC (.int 0))) (wCons (wOp dSub (wVar 5) (wC (.int 1))) (wCons (wVar 11) (wNil))))) (wNil)))))) (gNm 7)) (wAsg (wOp dAdd (wVar 7) (wLst false (wCons (wTup (wCons (wOp dIx (wVar 1) (wC (.int 0))) (wCons (wVar 5) (wCons (wOp dSub (wVar 11) (wC (.int 1))) (wNil))))) (wCons (wTup (wCons (wOp dSub (wC (.int 3)) (wOp dIx (wVar 1) (wC (.int 0)))) (wCons (wVar 5) (wCons (wVar 11) (wNil))))) (wCons (wTup (wCons (wOp dIx (wVar 1) (wC (.int 0))) (wCons (wC .non) (wCons (wVar 11) (wNil))))) (wNil)))))) (gNm 7)))) ((fun D env st => D.nx env st)))) (wRet (wOp dIx (wOp dAdd (wOp dAdd (wVar 7) (wVar 7)) (wVar 6)) (wOp dMod (wVar 0) (wOp dAdd (wOp dMul (wC (.int 2)) (wCB bLen (wCons (wVar 7) (wNil)))) (wCB bLen (wCons (wVar 6) (wNil))))))))))))
theorem vc_f_law_bent_node : ∀ g sto, (S_f_law_bent_node.args g).length = S_f_law_bent_node.n → S_f_law_bent_node.pre g sto → w_f_law_bent_node (bodyEnds (S_f_law_bent_node.post g sto)) (startE ["_law_number", "_law_node", "_law_size", "_law_days_here", "_law_works", "_law_one", "_law_some_here", "_law_more", "_law_work", "_law_nodes", "_law_spot", "_law_other", "_law_rows", "_law_row"] (S_f_law_bent_node.args g)) sto := by
  rintro ⟨n, l, N, days, works⟩ sto _ ⟨h0, h1, hl, hN, hd, hw⟩
  dsimp only at h0 h1 hl hN hd hw
  obtain ⟨k, r, e, hr, hrl, hk⟩ := nd_sh (m := true) hN hl
  have hk3 : -1000000 ≤ k ∧ k ≤ 1000000 := by rcases hk with ⟨rfl, _⟩ | ⟨rfl | rfl, _⟩ | ⟨rfl, _⟩ <;> decide
  have hkid : kidsN l ≤ 1000 := by
    cases l with
    | part w ks => exact Nat.le_trans hl.2.1 hN
    | _ => exact Nat.zero_le _
  have hr : FXL true 1 1002 r := hr.mono (Nat.le_refl _) (by omega)
  obtain ⟨one, eone⟩ : ∃ one, one = n / 23 % 40 - 3 := ⟨_, rfl⟩
  have hone : -3 ≤ one ∧ one ≤ 40 := by omega
  have hes : FXL true 1 1003 (.int k :: r) := (fxL_cons (n := 0) (fx_i hk3) hr).mono (Nat.le_refl _) (by omega)
  simp? only [w_f_law_bent_node, S_f_law_bent_node, e]
  rw [← eone]
  have cs : cutL (D.int k :: r) (some 1) none = r := cut_drop _ 1
  have hsz : (D.int k :: r).length ≤ 3 := by rw [List.length_cons]; omega
  simp? only [v_slT, v_listT, cs]
  repeat refine ⟨by decide, ?_⟩
  refine ⟨by rw [sizeLine_eq]; omega, by decide, by decide, by decide, by decide, by rw [sizeLine_eq]; omega, ?_⟩
  have hmx : 0 < (if (works : Int) > 1 then (works : Int) else 1) := by split <;> omega
  have hmx2 : (if (works : Int) > 1 then (works : Int) else 1) ≤ 12 := by split <;> omega
  generalize (if (works : Int) > 1 then (works : Int) else 1) = mx at *
  have m1 := modb one hmx
  generalize one % mx = om at *
  repeat refine ⟨by first | decide | exact hmx, ?_⟩
  obtain ⟨S, eS⟩ : ∃ S, S = [D.tup [D.int 0, D.int one, D.tup []], D.tup [D.int 1, D.int one, D.int (n / 1000 % 13 - 1)], D.tup [D.int 2, D.int one, D.int (one + 1 + n / 1000 % 5)], D.tup [D.int 3], D.tup [D.int 2, D.int 0, D.int days], D.tup (D.int k :: (r ++ [D.int 0])), D.tup (cutL (D.int k :: r) none (some (-1))), D.lst (D.int k :: r), D.tup [], D.non, D.tup [D.int 4], D.tup [D.int (-1)], D.tup (D.bl true :: r), D.tup [D.int 3, D.int 0], D.tup [D.int 1, D.bl true, D.int 0], D.tup [D.int 2, D.bl false, D.int days], D.tup [D.int 1, D.int om, D.int om], D.tup [D.int 2, D.int one, D.int one]] := ⟨_, rfl⟩
  rw [← eS]
  have f0 : ∀ i : Int, -1000000 ≤ i ∧ i ≤ 1000000 → FX true 1 0 (.int i) := fun i h => fx_i h
  have fb : ∀ b : Bool, FX true 1 0 (.bl b) := fun b => fx_bl
  have up : ∀ {k n : Nat} {ds : List D}, FXL true k n ds → k ≤ 2 → n ≤ 2900 → FX true 4 3000 (.tup ds) := fun h hk hn => (fx_tup h).mono (by omega) (by omega)
  have hS : ∀ x ∈ S, FX true 4 3000 x := by
    rw [eS]
    refine List.forall_mem_cons.mpr ⟨up (fx3 (f0 _ (by omega)) (f0 _ (by omega)) (fx_tup (k := 0) fxL_nil)) (by decide) (by decide), ?_⟩
    refine List.forall_mem_cons.mpr ⟨up (fx3 (f0 _ (by omega)) (f0 _ (by omega)) (f0 _ (by omega))) (by decide) (by decide), ?_⟩
    refine List.forall_mem_cons.mpr ⟨up (fx3 (f0 _ (by omega)) (f0 _ (by omega)) (f0 _ (by omega))) (by decide) (by decide), ?_⟩
    refine List.forall_mem_cons.mpr ⟨up (fxL_cons (f0 _ (by omega)) fx_nilL) (by decide) (by decide), ?_⟩
    refine List.forall_mem_cons.mpr ⟨up (fx3 (f0 _ (by omega)) (f0 _ (by omega)) (f0 _ (by omega))) (by decide) (by decide), ?_⟩
    refine List.forall_mem_cons.mpr ⟨up (fxL_app hes (fxL_cons (f0 0 (by omega)) fx_nilL)) (by decide) (by decide), ?_⟩
    refine List.forall_mem_cons.mpr ⟨up (fxL_cut hes _ _) (by decide) (by decide), ?_⟩
    refine List.forall_mem_cons.mpr ⟨(fx_lst hes).mono (by decide) (by decide), ?_⟩
    refine List.forall_mem_cons.mpr ⟨up (k := 0) fxL_nil (by decide) (by decide), ?_⟩
    refine List.forall_mem_cons.mpr ⟨fx_non, ?_⟩
    refine List.forall_mem_cons.mpr ⟨up (fxL_cons (f0 _ (by omega)) fx_nilL) (by decide) (by decide), ?_⟩
    refine List.forall_mem_cons.mpr ⟨up (fxL_cons (f0 _ (by omega)) fx_nilL) (by decide) (by decide), ?_⟩
    refine List.forall_mem_cons.mpr ⟨up (fxL_cons (fb true) hr) (by decide) (by decide), ?_⟩
    refine List.forall_mem_cons.mpr ⟨up (fx2 (f0 _ (by omega)) (f0 _ (by omega))) (by decide) (by decide), ?_⟩
    refine List.forall_mem_cons.mpr ⟨up (fx3 (f0 _ (by omega)) (fb _) (f0 _ (by omega))) (by decide) (by decide), ?_⟩
    refine List.forall_mem_cons.mpr ⟨up (fx3 (f0 _ (by omega)) (fb _) (f0 _ (by omega))) (by decide) (by decide), ?_⟩
    refine List.forall_mem_cons.mpr ⟨up (fx3 (f0 _ (by omega)) (f0 _ (by omega)) (f0 _ (by omega))) (by decide) (by decide), ?_⟩
    refine List.forall_mem_cons.mpr ⟨up (fx3 (f0 _ (by omega)) (f0 _ (by omega)) (f0 _ (by omega))) (by decide) (by decide), ?_⟩
    exact fun _ h => nomatch h
  have hSl : S.length = 18 := by rw [eS]; rfl
  clear eS
  have fin : ∀ M : List D, M.length ≤ 100 → (∀ x ∈ M, FX true 4 3000 x) → ∃ d, atI (M ++ (M ++ S)) (n % (2 * (M.length : Int) + 18)) = some d ∧ FX true 4 3000 d := fun M hM hMx => by
    have m2 := modb n (show (0 : Int) < 2 * (M.length : Int) + 18 by omega)
    refine pick_of (P := FX true 4 3000) m2.1 (by have := m2.2; rw [List.length_append, List.length_append, hSl]; omega) (fun x hx => ?_) fun x h => h
    rcases List.mem_append.mp hx with hx | hx
    · exact hMx x hx
    · rcases List.mem_append.mp hx with hx | hx
      · exact hMx x hx
      · exact hS x hx
  rcases hk with ⟨rfl, w, ks, rfl, hkn, hkl, hw12, hkb⟩ | ⟨hk12, a, b, rfl, ha, hb⟩ | ⟨rfl, rfl⟩
  · rw [if_pos (by decide)]
    have hdl : (dN ks).length = ks.length := List.length_map _
    obtain ⟨at_, eat⟩ : ∃ at_ : Nat, n / 1000 % ((dN ks).length + 1 : Int) = (at_ : Int) := ⟨(n / 1000 % ((dN ks).length + 1 : Int)).toNat, by have := modb (n / 1000) (show (0 : Int) < (dN ks).length + 1 by omega); omega⟩
    have hat : at_ ≤ (dN ks).length := by have := modb (n / 1000) (show (0 : Int) < (dN ks).length + 1 by omega); omega
    obtain ⟨o, eo⟩ : ∃ o : Int, n / 9000 % ((N : Int) + 2) - 1 = o := ⟨_, rfl⟩
    have ho : -1 ≤ o ∧ o ≤ 1001 := by have := modb (n / 9000) (show (0 : Int) < (N : Int) + 2 by omega); omega
    have e1 : ((at_ : Int) + 1) = ((at_ + 1 : Nat) : Int) := by omega
    have hkd : FXL true 0 1000 (dN ks) := (fx_dN fun k hk => by have := hkb k hk; omega).mono (Nat.le_refl _) (by omega)
    have hkz : (dN ks).length ≤ 1000 := by omega
    have up2 : ∀ {k n : Nat} {ds : List D}, FXL true k n ds → k ≤ 1 → n ≤ 2800 → FX true 2 2800 (.tup ds) := fun h hk hn => (fx_tup h).mono (by omega) (by omega)
    have pk : ∃ d, atI [D.non, .bl true, .str (Str.ofString "1")] (o % 3) = some d ∧ FX true 1 1 d := by
      have m3 := modb o (show (0 : Int) < 3 by omega)
      refine pick_of (P := FX true 1 1) m3.1 (by have := m3.2; simpa using this) ?_ fun x h => h
      refine List.forall_mem_cons.mpr ⟨fx_non, List.forall_mem_cons.mpr ⟨fx_bl, List.forall_mem_cons.mpr ⟨?_, fun _ h => nomatch h⟩⟩⟩
      have s1 : PyData.canLay0 (.str (Str.ofString "1")) = true ∧ PyData.leavesShort 66 (.str (Str.ofString "1")) = true ∧ (Str.ofString "1").cps.size = 1 := by decide +kernel
      exact ⟨s1.1, s1.2.1, by show (Str.ofString "1").cps.size ≤ 1; rw [s1.2.2]; decide, Nat.zero_le _, rfl⟩
    obtain ⟨pd, hpd, fpd⟩ := pk
    (try simp? only [true_and])
    simp? only [eat, eo, hpd]
    refine ⟨by decide, by omega, by decide, by omega, putE_use ⟨hat, by omega⟩ ?_⟩
    simp? only [v_slT, v_listT, cut_take, e1, cut_drop, List.length_append, List.length_take, List.length_drop]
    refine ⟨by rw [sizeLine_eq]; omega, by decide, by decide, by rw [sizeLine_eq]; omega, by rw [sizeLine_eq]; omega, by decide, by decide, ?_⟩
    refine putE_use ⟨hat, by omega⟩ ?_
    refine ⟨by decide, by decide, by decide, ?_⟩
    refine compL_all (fun d : D => d) (fun d : D => D.tup [.int 0, .int (w : Nat), d]) id trivial [D.tup (dN ks).reverse, D.tup (putL (dN ks) at_ (D.int o)), D.tup (List.take at_ (dN ks) ++ List.drop (at_ + 1) (dN ks)), D.lst (dN ks), D.tup (List.take at_ (dN ks) ++ [D.int o] ++ List.drop at_ (dN ks)), D.tup (putL (dN ks) at_ pd)] (fun x hx R hR => ?_) ?_
    · simp? only [Tg.dg, wYes, w_f_law_bent_node_1]
      exact ⟨by decide, hR⟩
    · rw [List.map_id, hSl]
      have f2 : ∀ w : Nat, w < 12 → FX true 2 0 (.int (w : Nat)) := fun w h => fx_i (by omega)
      have fk : FX true 2 2800 (.tup (dN ks)) := up2 hkd (by decide) (by decide)
      refine ⟨by decide, by decide, by decide, by decide, by show 6 + 3 ≤ sizeLine; decide, by show 6 + 3 + (6 + 3) ≤ sizeLine; decide, by show 6 + 3 + (6 + 3) + 18 ≤ sizeLine; decide, .inl ⟨by decide, by decide⟩, by show (0 : Int) < 2 * ((6 + 3 : Nat) : Int) + 18; decide, ?_⟩
      generalize eL : [D.tup (dN ks).reverse, D.tup (putL (dN ks) at_ (D.int o)), D.tup (List.take at_ (dN ks) ++ List.drop (at_ + 1) (dN ks)), D.lst (dN ks), D.tup (List.take at_ (dN ks) ++ [D.int o] ++ List.drop at_ (dN ks)), D.tup (putL (dN ks) at_ pd)] = rows
      have hrows : ∀ x ∈ rows, FX true 2 2800 x := by
        rw [← eL]
        refine List.forall_mem_cons.mpr ⟨up2 (fxL_rev hkd) (by decide) (by decide), ?_⟩
        refine List.forall_mem_cons.mpr ⟨up2 (fxL_putL hkd (fx_i (k := 0) (n := 0) (by omega)) _) (by decide) (by decide), ?_⟩
        refine List.forall_mem_cons.mpr ⟨up2 (fxL_app (fxL_take hkd _) (fxL_drop hkd _)) (by decide) (by decide), ?_⟩
        refine List.forall_mem_cons.mpr ⟨(fx_lst hkd).mono (by decide) (by decide), ?_⟩
        refine List.forall_mem_cons.mpr ⟨up2 (fxL_app (fxL_app (fxL_take hkd _) (fxL_cons (n := 0) (fx_i (by omega)) fx_nilL)) (fxL_drop hkd _)) (by decide) (by decide), ?_⟩
        refine List.forall_mem_cons.mpr ⟨up2 (fxL_putL (hkd.mono (by decide) (Nat.le_refl _)) fpd _) (by decide) (by decide), ?_⟩
        exact fun _ h => nomatch h
      have hr6 : rows.length = 6 := by rw [← eL]; rfl
      rw [List.append_assoc]
      have hq : ∀ x ∈ [D.tup [D.int 0, D.int one, D.tup (dN ks)], D.tup [D.int 0, D.bl true, D.tup (dN ks)], D.tup [D.bl false, D.int w, D.tup (dN ks)]], FX true 4 3000 x := by
        refine List.forall_mem_cons.mpr ⟨up (fx3 (f2 0 (by decide)) (fx_i (n := 0) (by omega)) fk) (by decide) (by decide), ?_⟩
        refine List.forall_mem_cons.mpr ⟨up (fx3 (f2 0 (by decide)) (fx_bl (n := 0)) fk) (by decide) (by decide), ?_⟩
        refine List.forall_mem_cons.mpr ⟨up (fx3 (fx_bl (n := 0)) (f2 w hw12) fk) (by decide) (by decide), ?_⟩
        exact fun _ h => nomatch h
      obtain ⟨d, hd1, hd2⟩ := fin (rows.map (fun d : D => D.tup [.int 0, .int (w : Nat), d]) ++ [D.tup [D.int 0, D.int one, D.tup (dN ks)], D.tup [D.int 0, D.bl true, D.tup (dN ks)], D.tup [D.bl false, D.int w, D.tup (dN ks)]]) (by rw [List.length_append, List.length_map, hr6]; show 6 + 3 ≤ 100; decide) (fun x hx => by
        rcases List.mem_append.mp hx with hx | hx
        · obtain ⟨y, hy, rfl⟩ := List.mem_map.mp hx
          exact up (fx3 (f2 0 (by decide)) (f2 w hw12) (hrows y hy)) (by decide) (by decide)
        · exact hq x hx)
      rw [List.length_append] at hd1
      exact ⟨d, hd1, rfl, hd2⟩
  · rw [if_neg (by rcases hk12 with rfl | rfl <;> decide), if_pos (by omega)]
    (try simp? only [true_and])
    rw [hSl]
    have hk4 : 0 ≤ k ∧ k ≤ 3 := by omega
    refine ⟨by decide, by decide, by decide, by decide, by decide, by decide, by decide, by decide, by decide, by decide, by decide, by rw [sizeLine_eq]; decide, .inl ⟨by decide, by decide⟩, by decide, ?_⟩
    refine fin [D.tup [D.int k, D.int b, D.int a], D.tup [D.int k, D.int (a + 1), D.int b], D.tup [D.int k, D.int a, D.int (b + 1)], D.tup [D.int k, D.int (a - 1), D.int b], D.tup [D.int k, D.int a, D.int (b - 1)], D.tup [D.int (3 - k), D.int a, D.int b], D.tup [D.int k, D.non, D.int b]] (by show 7 ≤ 100; decide) ?_
    refine List.forall_mem_cons.mpr ⟨up (fx3 (f0 _ (by omega)) (f0 _ (by omega)) (f0 _ (by omega))) (by decide) (by decide), ?_⟩
    refine List.forall_mem_cons.mpr ⟨up (fx3 (f0 _ (by omega)) (f0 _ (by omega)) (f0 _ (by omega))) (by decide) (by decide), ?_⟩
    refine List.forall_mem_cons.mpr ⟨up (fx3 (f0 _ (by omega)) (f0 _ (by omega)) (f0 _ (by omega))) (by decide) (by decide), ?_⟩
    refine List.forall_mem_cons.mpr ⟨up (fx3 (f0 _ (by omega)) (f0 _ (by omega)) (f0 _ (by omega))) (by decide) (by decide), ?_⟩
    refine List.forall_mem_cons.mpr ⟨up (fx3 (f0 _ (by omega)) (f0 _ (by omega)) (f0 _ (by omega))) (by decide) (by decide), ?_⟩
    refine List.forall_mem_cons.mpr ⟨up (fx3 (f0 _ (by omega)) (f0 _ (by omega)) (f0 _ (by omega))) (by decide) (by decide), ?_⟩
    refine List.forall_mem_cons.mpr ⟨up (fx3 (f0 _ (by omega)) (fx_non (n := 0)) (f0 _ (by omega))) (by decide) (by decide), ?_⟩
    exact fun _ h => nomatch h
  · rw [if_neg (by decide), if_neg (by decide)]
    exact ⟨by decide, by decide, .inl ⟨by decide, by decide⟩, by decide, fin [] (by decide) fun _ h => nomatch h⟩
def S_f_law_bent_cases : DL.Spec := deckS 4 3 (fun x : List Nd × Int × Nat => [.tup (x.1.map Nd.d), .int x.2.1, .int (x.2.2 : Nat)]) (fun x => x.1 ≠ [] ∧ (∀ l ∈ x.1, NdOk x.1.length l) ∧ x.1.length ≤ 1000 ∧ (x.1.map kidsN).sum ≤ 1000 ∧ (0 ≤ x.2.1 ∧ x.2.1 ≤ 30) ∧ x.2.2 ≤ 12) fun _ d => FX true 5 10200 d
def w_f_law_bent_cases : DS := wSeq (wAsg (wOp dMod (wCall S_f_law_next (wCons (wVar 0) (wNil))) (wC (.int 12))) (gNm 4)) (wSeq (wAsg (wOp dMod (wCall S_f_law_next (wCons (wVar 0) (wNil))) (wCB bLen (wCons (wVar 1) (wNil)))) (gNm 5)) (wSeq (wAsg (wCall S_f_law_next (wCons (wVar 0) (wNil))) (gNm 6)) (wSeq (wIf (wTest (wOp dEq (wVar 4) (wC (.int 0)))) (wRet (wOp dIx (wLst false (wCons (wOp dAdd (wVar 1) (wTup (wCons (wTup (wCons (wC (.int 3)) (wNil))) (wNil)))) (wCons (wSl false (wVar 1) oNo (oPart (wNeg (wC (.int 1))))) (wCons (wCB (bList false) (wCons (wVar 1) (wNil))) (wCons (wTup (wNil)) (wCons (wSl false (wVar 1) (oPart (wC (.int 1))) oNo) (wCons (wOp dAdd (wVar 1) (wVar 1)) (wCons (wRevA false (wVar 1)) (wNil))))))))) (wOp dMod (wVar 6) (wC (.int 7))))) ((fun D env st => D.nx env st))) (wSeq (wIf (wTest (wOp dEq (wVar 4) (wC (.int 1)))) (wSeq (wAsg (wOp dMod (wVar 6) (wCB bLen (wCons (wVar 1) (wNil)))) (gNm 7)) (wRet (wCall S_f_law_put (wCons (wCall S_f_law_put (wCons (wVar 1) (wCons (wVar 5) (wCons (wOp dIx (wVar 1) (wVar 7)) (wNil))))) (wCons (wVar 7) (wCons (wOp dIx (wVar 1) (wVar 5)) (wNil))))))) ((fun D env st => D.nx env st))) (wRet (wCall S_f_law_put (wCons (wVar 1) (wCons (wVar 5) (wCons (wCall S_f_law_bent_node (wCons (wVar 6) (wCons (wOp dIx (wVar 1) (wVar 5)) (wCons (wCB bLen (wCons (wVar 1) (wNil))) (wCons (wVar 2) (wCons (wVar 3) (wNil))))))) (wNil))))))))))
theorem vc_f_law_bent_cases : ∀ g sto, (S_f_law_bent_cases.args g).length = S_f_law_bent_cases.n → S_f_law_bent_cases.pre g sto → w_f_law_bent_cases (bodyEnds (S_f_law_bent_cases.post g sto)) (startE ["_law_deck_here", "_law_cases_here", "_law_days_here", "_law_works", "_law_way", "_law_at", "_law_number", "_law_other"] (S_f_law_bent_cases.args g)) sto := by
  rintro ⟨rest, B, L, days, works⟩ sto _ ⟨hD, hB, h0, hok, hL, hks, hd, hw⟩
  dsimp only at hD hB h0 hok hL hks hd hw
  have hl := List.length_pos_iff.mpr h0
  have hnd : FXL true 2 5000 (L.map Nd.d) := (fxL_nds hL hok).mono (Nat.le_refl _) (by omega)
  have hnl : (L.map Nd.d).length = L.length := List.length_map _
  simp? only [w_f_law_bent_cases, S_f_law_bent_cases, deckS]
  refine next_use hD (by omega) fun y1 st y10 y11 hD => ?_
  (try simp? only [true_and])
  refine ⟨by decide, next_use hD (by omega) fun y2 st y20 y21 hD => ?_⟩
  have m2 := modb y2 (show (0 : Int) < L.length by omega)
  obtain ⟨k, ek⟩ : ∃ k : Nat, y2 % (L.length : Int) = (k : Int) := ⟨(y2 % (L.length : Int)).toNat, by omega⟩
  rw [ek] at m2
  simp? only [hnl, ek]
  refine ⟨by omega, next_use hD (by omega) fun y3 st y30 y31 hD => ?_⟩
  (try simp? only [true_and])
  simp? only [v_slT, v_listT]
  have hD3 : Dk (B + 3) rest _ := hD.mono (by omega)
  have hkn : ∀ {l : Nd}, NdOk L.length l → kidsN l ≤ 1000 := fun {l} h => by
    cases l with
    | part w ks => exact Nat.le_trans h.2.1 hL
    | _ => exact Nat.zero_le _
  have hn1 : ∀ l ∈ L, FX true 2 1003 l.d := fun l h => (fx_nd hL (hok l h)).mono (Nat.le_refl _) (by have := hkn (hok l h); omega)
  have up : ∀ {k n : Nat} {ds : List D}, FXL true k n ds → k ≤ 4 → n ≤ 10200 → FX true 5 10200 (.tup ds) := fun h hk hn => (fx_tup h).mono (by omega) (by omega)
  have hkl : k < L.length := by omega
  have hLk : L[k]? = some L[k] := List.getElem?_eq_getElem hkl
  have hLm := List.getElem_mem hkl
  generalize L[k] = l at hLk hLm
  have hak : atI (L.map Nd.d) (k : Int) = some l.d := atI_map (atI_of (by omega) (by rw [Int.toNat_natCast]; exact hLk))
  have m3 := modb y3 (show (0 : Int) < 7 by omega)
  by_cases h1 : y1 % 12 = 0
  · rw [h1, if_pos (by decide)]
    refine ⟨by decide, by decide, by rw [sizeLine_eq]; omega, by decide, by rw [sizeLine_eq]; omega, by decide, by decide, ?_⟩
    refine pick_of (P := FX true 5 10200) m3.1 (by have := m3.2; simpa using this) ?_ fun x h => ⟨h, hD3⟩
    refine List.forall_mem_cons.mpr ⟨up (fxL_app hnd (fxL_cons (fx_tup (k := 1) (fxL_cons (n := 0) (fx_i (by omega)) fx_nilL)) fx_nilL)) (by decide) (by decide), ?_⟩
    refine List.forall_mem_cons.mpr ⟨up (fxL_cut hnd _ _) (by decide) (by decide), ?_⟩
    refine List.forall_mem_cons.mpr ⟨(fx_lst hnd).mono (by decide) (by decide), ?_⟩
    refine List.forall_mem_cons.mpr ⟨up (k := 0) fxL_nil (by decide) (by decide), ?_⟩
    refine List.forall_mem_cons.mpr ⟨up (fxL_cut hnd _ _) (by decide) (by decide), ?_⟩
    refine List.forall_mem_cons.mpr ⟨up (fxL_app hnd hnd) (by decide) (by decide), ?_⟩
    refine List.forall_mem_cons.mpr ⟨up (fxL_rev hnd) (by decide) (by decide), ?_⟩
    exact fun _ h => nomatch h
  rw [if_neg (by simpa using h1)]
  by_cases h2 : y1 % 12 = 1
  · rw [h2, if_pos (by decide)]
    have m4 := modb y3 (show (0 : Int) < L.length by omega)
    obtain ⟨j, ej⟩ : ∃ j : Nat, y3 % (L.length : Int) = (j : Int) := ⟨(y3 % (L.length : Int)).toNat, by omega⟩
    rw [ej] at m4
    have hjl : j < L.length := by omega
    have hLj : L[j]? = some L[j] := List.getElem?_eq_getElem hjl
    have hLm2 := List.getElem_mem hjl
    generalize L[j] = l2 at hLj hLm2
    have haj : atI (L.map Nd.d) (j : Int) = some l2.d := atI_map (atI_of (by omega) (by rw [Int.toNat_natCast]; exact hLj))
    rw [ej]
    refine ⟨by omega, _, haj, put_use (by rw [hnl]; omega) ⟨_, hak, put_use (by rw [List.length_set, hnl]; omega) ?_⟩⟩
    exact ⟨up (fxL_set (fxL_set hnd (hn1 _ hLm2) _) (hn1 _ hLm) _) (by decide) (by decide), hD3⟩
  rw [if_neg (by simpa using h2)]
  refine ⟨_, hak, (y3, l, L.length, days, works), rfl, rfl, ⟨y30, y31, hok _ hLm, hL, hd, hw⟩, ?_⟩
  rintro d s2 ⟨rfl, hf⟩
  refine put_use (by rw [hnl]; omega) ?_
  exact ⟨up (fxL_set (hnd.mono (k' := 4) (by decide) (Nat.le_refl _)) hf _) (by decide) (by decide), hD3⟩
def w_f_law_days_1 : DT := wTest (wOp dEq (wOp dMod (wCall S_f_law_next (wCons (wVar 0) (wNil))) (wVar 2)) (wC (.int 0)))
def w_f_law_days : DS := wRet (wCB bTuple (wCons (wComp false (iRange1 (wCons (wVar 1) (wNil))) (.nm 3) w_f_law_days_1 (wVar 3) [3]) (wNil)))
def S_f_law_days : DL.Spec := ⟨3, Sto × Int × Int × Int, fun (_, _, h, s) => [.ref 2, .int h, .int s], fun (r, B, h, s) st => Dk B r st ∧ B < 2 ^ 39 ∧ 0 ≤ h ∧ h ≤ 900 ∧ 0 < s, fun (r, B, h, _) _ d st' => ∃ row, d = dInts row ∧ Row h row ∧ Dk (B + 1000) r st'⟩
theorem vc_f_law_days : ∀ g sto, (S_f_law_days.args g).length = S_f_law_days.n → S_f_law_days.pre g sto → w_f_law_days (bodyEnds (S_f_law_days.post g sto)) (startE ["_law_deck_here", "_law_days_here", "_law_some", "_law_day"] (S_f_law_days.args g)) sto := by
  rintro ⟨rest, B, h, s⟩ sto _ ⟨hD, hB, h0, h1, hs⟩
  simp? only [w_f_law_days, S_f_law_days, wComp, wipeE, rangeD_len]
  refine ⟨⟨by omega, by omega⟩, by rw [sizeLine_eq]; omega, ?_⟩
  refine compL_inv (fun i st acc => ∃ row, acc = row.map D.int ∧ Row i row ∧ Dk (B + i) rest st) ?_ ?_ _ _ ⟨[], rfl, ⟨.nil, fun _ h => (nomatch h)⟩, by simpa using hD⟩
  · rintro i st acc d ⟨row, rfl, hr, hd⟩ he R hR
    obtain ⟨hi, rfl⟩ := rangeD_at he
    simp? only [Tg.dg, w_f_law_days_1]
    refine next_use hd (by omega) fun x st' x0 x1 hd' => ?_
    simp? only [true_and]
    refine ⟨hs, ?_⟩
    have e1 : B + (i : Int) + 1 = B + ((i + 1 : Nat) : Int) := by omega
    rw [e1] at hd'
    by_cases hx : (x % s == 0) = true
    · rw [if_pos hx]
      refine hR _ _ ⟨row ++ [(i : Int)], by simp, ⟨?_, ?_⟩, hd'⟩
      · rw [List.pairwise_append]
        refine ⟨hr.1, List.pairwise_singleton .., fun a ha b hb => ?_⟩
        rw [List.mem_singleton] at hb
        have := (hr.2 a ha).2
        omega
      · intro y hy
        rcases List.mem_append.mp hy with z | z
        · have := hr.2 y z; omega
        · rw [List.mem_singleton] at z; omega
    · rw [if_neg hx]
      exact hR _ _ ⟨row, rfl, ⟨hr.1, fun y hy => by have := hr.2 y hy; omega⟩, hd'⟩
  · rintro st acc ⟨row, rfl, hr, hd⟩
    rw [rangeD_len] at hr hd
    exact ⟨trivial, row, rfl, ⟨hr.1, fun y hy => by have := hr.2 y hy; omega⟩, hd.mono (by omega)⟩
theorem days_use {B h s : Int} {rest st : Sto} {Q : DK} (hD : Dk B rest st) (hb : B < 2 ^ 39) (h0 : 0 ≤ h) (h1 : h ≤ 900) (hs : 0 < s) (q : ∀ row st', Row h row → Dk (B + 1000) rest st' → Q (dInts row) st') :
    ∃ g, [D.ref 2, .int h, .int s] = S_f_law_days.args g ∧ (S_f_law_days.args g).length = S_f_law_days.n ∧ S_f_law_days.pre g st ∧ ∀ d s2, S_f_law_days.post g st d s2 → Q d s2 :=
  ⟨(rest, B, h, s), rfl, rfl, ⟨hD, hb, h0, h1, hs⟩, fun d s2 ⟨x, e, h0, h1⟩ => by subst e; exact q x s2 h0 h1⟩
def w_f_law_little_1 : DE := wCall S_f_law_days (wCons (wVar 0) (wCons (wVar 1) (wCons (wVar 2) (wNil))))
def w_f_law_little_2 : DT := wTest (wOp dEq (wOp dMod (wCall S_f_law_next (wCons (wVar 0) (wNil))) (wC (.int 4))) (wC (.int 0)))
def w_f_law_little_3 : DT := wTest (wOp dGt (wOp dMod (wCall S_f_law_next (wCons (wVar 0) (wNil))) (wC (.int 3))) (wC (.int 0)))
def w_f_law_little_4 : DS := wSeq (wAsg (wCB bTuple (wCons (wComp false (iRange1 (wCons (wVar 5) (wNil))) (.nm 12) w_f_law_little_2 (wVar 12) [12]) (wNil))) (gNm 6)) (wSeq (wAsg (wCB bTuple (wCons (wComp false (iRange1 (wCons (wCB bLen (wCons (wVar 3) (wNil))) (wNil))) (.nm 11) w_f_law_little_3 (wVar 11) [11]) (wNil))) (gNm 7)) (wDrop (wM mAppend (wVar 4) (wCons (wTup (wCons (wOp dAdd (wC (.int 1)) (wOp dMod (wCall S_f_law_next (wCons (wVar 0) (wNil))) (wC (.int 3)))) (wCons (wVar 6) (wCons (wOp dAdd (wVar 7) (wOp dMul (wTup (wCons (wC (.int 0)) (wNil))) (wCB bInt (wCons (wOp dEq (wVar 7) (wTup (wNil))) (wNil))))) (wNil))))) (wNil)))))
def w_f_law_little_5 : DS := wSeq (wAsg (wOp dMod (wCall S_f_law_next (wCons (wVar 0) (wNil))) (wCB bLen (wCons (wVar 4) (wNil)))) (gNm 5)) (wSeq (wAsg (wOp dMod (wCall S_f_law_next (wCons (wVar 0) (wNil))) (wOp dAdd (wVar 1) (wC (.int 1)))) (gNm 10)) (wDrop (wM mAppend (wVar 8) (wCons (wTup (wCons (wVar 5) (wCons (wOp dMod (wCall S_f_law_next (wCons (wVar 0) (wNil))) (wC (.int 2))) (wCons (wVar 10) (wCons (wOp dAdd (wC (.int 1)) (wOp dMod (wCall S_f_law_next (wCons (wVar 0) (wNil))) (wOp dIx (wLst false (wCons (wC (.int 3)) (wCons (wC (.int 100)) (wNil)))) (wOp dMod (wVar 9) (wC (.int 2)))))) (wCons (wOp dMod (wCall S_f_law_next (wCons (wVar 0) (wNil))) (wC (.int 4))) (wNil))))))) (wNil)))))
def w_f_law_little : DS := wSeq (wAsg (wOp dAdd (wC (.int 1)) (wOp dMod (wCall S_f_law_next (wCons (wVar 0) (wNil))) (wC (.int 9)))) (gNm 1)) (wSeq (wAsg (wOp dIx (wLst false (wCons (wC (.int 100)) (wCons (wC (.int 7)) (wCons (wC (.int 4)) (wNil))))) (wOp dMod (wCall S_f_law_next (wCons (wVar 0) (wNil))) (wC (.int 3)))) (gNm 2)) (wSeq (wAsg (wCB bTuple (wCons (wComp false (iRange1 (wCons (wOp dAdd (wC (.int 1)) (wOp dMod (wCall S_f_law_next (wCons (wVar 0) (wNil))) (wC (.int 3)))) (wNil))) (.nm 11) wYes w_f_law_little_1 [11]) (wNil))) (gNm 3)) (wSeq (wAsg (wLst true (wNil)) (gNm 4)) (wSeq (wFor (iRange1 (wCons (wOp dMod (wCall S_f_law_next (wCons (wVar 0) (wNil))) (wC (.int 6))) (wNil))) (gNm 5) w_f_law_little_4) (wSeq (wAsg (wLst true (wNil)) (gNm 8)) (wSeq (wFor (iRange1 (wCons (wOp dMul (wOp dMod (wCall S_f_law_next (wCons (wVar 0) (wNil))) (wC (.int 9))) (wCB bInt (wCons (wOp dNe (wVar 4) (wLst false (wNil))) (wNil)))) (wNil))) (gNm 9) w_f_law_little_5) (wRet (wTup (wCons (wVar 1) (wCons (wVar 3) (wCons (wCB bTuple (wCons (wVar 4) (wNil))) (wCons (wCB bTuple (wCons (wVar 8) (wNil))) (wNil)))))))))))))
theorem _root_.DL.Dk.at3 {B : Int} {rest st : Sto} (h : Dk B rest st) (i : Nat) : st[i + 3]? = rest[i]? := by
  obtain ⟨ds, cs, t, rfl, r⟩ := h
  simp only [List.getElem?_cons_succ]
/-- drawn ones of the numbers below n, rising -/
theorem row_comp {v : Nat} {c : DT} {w : DE} {env : En} {Q : LK} {rest st : Sto} {B : Int} {n : Nat} (hD : Dk B rest st)
    (step : ∀ (j : Nat) st, j < n → Dk (B + j) rest st → ∀ R : Option D → Sto → Prop, (∀ st', Dk (B + j + 1) rest st' → R (some (.int (0 + (j : Int)))) st' ∧ R none st') → (Tg.nm v).dg (.int (0 + (j : Int))) env st fun e s => c e s fun b s1 => if b = true then w e s1 fun y s2 => R (some y) s2 else R none s1)
    (q : ∀ row st', Row n row → Dk (B + n) rest st' → Q (row.map D.int) st') : wCompL (fun _ => True) (.nm v) c w env (rangeD 0 n) st [] Q := by
  refine compL_inv (fun i st acc => ∃ row, acc = row.map D.int ∧ Row i row ∧ Dk (B + i) rest st) ?_ ?_ _ _ ⟨[], rfl, ⟨.nil, fun _ h => (nomatch h)⟩, by simpa using hD⟩
  · rintro i st acc d ⟨row, rfl, hr, hd⟩ he R hR
    obtain ⟨hi, rfl⟩ := rangeD_at he
    refine ⟨trivial, step i st hi hd (fun o s => match o with | some y => R s (row.map D.int ++ [y]) | none => R s (row.map D.int)) fun st' hd' => ?_⟩
    have e1 : B + (i : Int) + 1 = B + ((i + 1 : Nat) : Int) := by omega
    rw [e1] at hd'
    constructor
    · refine hR _ _ ⟨row ++ [(i : Int)], by simp, ⟨?_, ?_⟩, hd'⟩
      · rw [List.pairwise_append]
        refine ⟨hr.1, List.pairwise_singleton .., fun a ha b hb => ?_⟩
        rw [List.mem_singleton] at hb
        have := (hr.2 a ha).2
        omega
      · intro y hy
        rcases List.mem_append.mp hy with z | z
        · have := hr.2 y z; omega
        · rw [List.mem_singleton] at z; omega
    · exact hR _ _ ⟨row, rfl, ⟨hr.1, fun y hy => by have := hr.2 y hy; omega⟩, hd'⟩
  · rintro st acc ⟨row, rfl, hr, hd⟩
    rw [rangeD_len] at hr hd
    exact ⟨trivial, q row st hr hd⟩
theorem okL_of : ∀ ws : List Wk, D.okL (ws.map Wk.d) = true
  | [] => rfl
  | w :: r => by rw [List.map_cons]; simp only [D.okL, Wk.d, dInts, D.ok, okL_ints, okL_of r, Bool.and_self]
theorem _root_.DL.Dk.low {B : Int} {rest st : Sto} {c c' : Cel} (h : Dk B (rest ++ [c] ++ [c']) st) : st[rest.length + 3]? = some c := by
  rw [h.at3, List.getElem?_append_left (by simp)]
  exact get_last _ _
def S_f_law_little : DL.Spec := deckS 1 100000 (fun _ : Unit => []) (fun _ => True) fun _ d => ∃ s : Sy, d = s.d ∧ s.Ok 9 3 5 3 8
theorem vc_f_law_little : ∀ g sto, (S_f_law_little.args g).length = S_f_law_little.n → S_f_law_little.pre g sto → w_f_law_little (bodyEnds (popEnds sto.length sto (S_f_law_little.post g sto))) (startE ["_law_deck_here", "_law_days_here", "_law_gone", "_law_hands", "_law_works", "_law_work", "_law_ahead", "_law_able", "_law_wishes", "_law_k", "_law_day", "_law_hand", "_law_one"] (S_f_law_little.args g)) sto := by
  rintro ⟨rest, B, _⟩ sto _ ⟨hD, hB, _⟩
  have hD0 := hD
  dsimp only at hD0 hD hB
  have z2 : 2 ≤ sizeLine := by decide
  have z3 : 3 ≤ sizeLine := by decide
  have z4 : 4 ≤ sizeLine := by decide
  have z5 : 5 ≤ sizeLine := by decide
  have z1 : 1 ≤ sizeLine := by decide
  simp? only [w_f_law_little, S_f_law_little, deckS, wFor, wComp, wipeE]
  refine next_use hD (by omega) fun x1 st_x1 x1_0 x1_1 hD => ?_
  (try simp? only [true_and])
  have x1_m := modb x1 (show 0 < 9 by omega)
  obtain ⟨dd, eD⟩ : ∃ dd, dd = 1 + x1 % 9 := ⟨_, rfl⟩
  simp only [← eD]
  refine ⟨by omega, z3, ?_⟩
  refine next_use hD (by omega) fun x2 st_x2 x2_0 x2_1 hD => ?_
  (try simp? only [true_and])
  obtain ⟨p, hp, hp2⟩ := pk3 (a := 100) (b := 7) (c := 4) (x := x2)
  have hp0 : 0 < p := by omega
  simp? only [hp]
  refine ⟨by decide, ?_⟩
  refine next_use hD (by omega) fun x3 st_x3 x3_0 x3_1 hD => ?_
  (try simp? only [true_and])
  have x3_m := modb x3 (show 0 < 3 by omega)
  obtain ⟨h, eh⟩ : ∃ h, h = 1 + x3 % 3 := ⟨_, rfl⟩
  simp only [← eh, rangeD_len]
  refine ⟨by omega, ⟨by omega, by omega⟩, by rw [sizeLine_eq]; omega, ?_⟩
  refine compL_inv (fun i st acc => ∃ rows : List (List Int), acc = rows.map dInts ∧ rows.length = i ∧ (∀ r ∈ rows, Row dd r) ∧ Dk (B + 3 + i * 1000) rest st) ?_ ?_ _ _ ⟨[], rfl, rfl, fun _ h => (nomatch h), hD.mono (by omega)⟩
  · rintro i st acc d ⟨rows, rfl, hn, hr, hd⟩ he R hR
    obtain ⟨hi, rfl⟩ := rangeD_at he
    simp? only [Tg.dg, wYes, w_f_law_little_1]
    refine days_use hd (by omega) (by omega) (by omega) hp0 fun row st' hrow hd' => ?_
    refine hR _ _ ⟨rows ++ [row], by simp, by simp; omega, fun r hm => ?_, hd'.mono (by omega)⟩
    rcases List.mem_append.mp hm with z | z
    · exact hr r z
    · rw [List.mem_singleton] at z
      subst z
      exact hrow
  · rintro st acc ⟨rows, rfl, hn, hr, hd⟩
    rw [rangeD_len] at hn hd
    have hn3 : 1 ≤ rows.length ∧ rows.length ≤ 3 := by omega
    refine ⟨trivial, ?_⟩
    (try simp? only [true_and])
    refine ⟨Nat.zero_le _, ?_⟩
    refine next_use hd.push (by omega) fun x4 st4 a4 b4 hD => ?_
    have hlen := hd.len
    simp? only [hlen]
    have b4m := modb x4 (show (0 : Int) < 6 by decide)
    refine ⟨by decide, ⟨by omega, by omega⟩, ?_⟩
    refine forL_inv (fun i e st => ∃ x5 x6 x7 ws, e = [some (.ref 2), some (.int dd), some (.int p), some (.tup (rows.map dInts)), some (.ref (rest.length + 3)), x5, x6, x7, none, none, none, none, none] ∧ List.length ws = i ∧ (∀ (j : Nat) (w : Wk), ws[j]? = some w → w.Ok j rows.length 3) ∧ Dk (B + 4000 + i * 1000) (rest ++ [.lst (ws.map Wk.d)]) st) ?_ ?_ _ _ ⟨_, _, _, [], rfl, rfl, fun _ _ h => (nomatch h), hD.mono (by omega)⟩
    · rintro i e st d ⟨x5, x6, x7, ws, rfl, hwl, hws, hD⟩ he R hR
      obtain ⟨hi, rfl⟩ := rangeD_at he
      have hi5 : i < 5 := by omega
      refine ⟨trivial, ?_⟩
      simp? only [w_f_law_little_4, wComp, wipeE, rangeD_len]
      refine ⟨⟨by omega, by omega⟩, by rw [sizeLine_eq]; omega, ?_⟩
      rw [show (0 + (i : Int)).toNat = i by omega]
      refine row_comp hD (fun j st hj hD R2 hR2 => ?_) fun ahead st hah hD => ?_
      · simp? only [Tg.dg, w_f_law_little_2]
        refine next_use hD (by omega) fun x st' x0 x1 hd' => ?_
        (try simp? only [true_and])
        refine ⟨by decide, ?_⟩
        split
        · exact (hR2 _ hd').1
        · exact (hR2 _ hd').2
      · (try simp? only [true_and])
        refine ⟨⟨by omega, by omega⟩, by rw [sizeLine_eq]; omega, ?_⟩
        rw [Int.toNat_natCast]
        refine row_comp hD (fun j st hj hD R2 hR2 => ?_) fun able st hab hD => ?_
        · simp? only [Tg.dg, w_f_law_little_3]
          refine next_use hD (by omega) fun x st' x0 x1 hd' => ?_
          (try simp? only [true_and])
          refine ⟨by decide, ?_⟩
          split
          · exact (hR2 _ hd').1
          · exact (hR2 _ hd').2
        · (try simp? only [true_and])
          refine ⟨⟨_, rd_ref' hD.top⟩, ?_⟩
          refine next_use hD (by omega) fun x st' x0 x1 hd' => ?_
          (try simp? only [true_and])
          have hxm := modb x (show (0 : Int) < 3 by decide)
          refine ⟨by decide, z1, Nat.zero_le _, okL_ints _, ?_⟩
          have hmul : ∀ Q : DK, Q (dInts (if (able.map DL.D.int).isEmpty = true then [0] else [])) st' → dMul (DL.D.tup [DL.D.int 0]) (DL.D.int (if (able.map DL.D.int).isEmpty = true then 1 else 0)) st' Q := fun Q q => by
            rw [v_mulT]
            by_cases hc : (able.map DL.D.int).isEmpty = true
            · rw [if_pos hc] at q ⊢
              exact ⟨by decide, by decide, by decide, q⟩
            · rw [if_neg hc] at q ⊢
              exact ⟨by decide, by decide, by decide, q⟩
          refine hmul _ ?_
          have hok : ∃ able', Row rows.length able' ∧ able' ≠ [] ∧ able.map DL.D.int ++ (if (able.map DL.D.int).isEmpty = true then [0] else []).map DL.D.int = able'.map DL.D.int := by
            cases able with
            | nil => exact ⟨[0], ⟨List.pairwise_singleton .., fun y hy => by rw [List.mem_singleton] at hy; omega⟩, by simp, rfl⟩
            | cons a r => exact ⟨a :: r, hab, by simp, by simp⟩
          obtain ⟨able', ho1, ho2, ho3⟩ := hok
          have hal := hab.len
          simp? only [dInts, v_addT, ho3]
          refine ⟨by rw [sizeLine_eq]; split <;> simp <;> omega, z3, ?_⟩
          simp? only [v_app hd'.top]
          refine ⟨by rw [sizeLine_eq]; omega, ?_⟩
          refine hR _ _ ⟨_, _, _, ws ++ [⟨1 + x % 3, ahead, able'⟩], rfl, by rw [List.length_append, List.length_singleton]; omega, fun j w hj => ?_, ?_⟩
          · by_cases hjl : j < ws.length
            · rw [List.getElem?_append_left hjl] at hj
              exact hws j w hj
            · rw [List.getElem?_append_right (by omega)] at hj
              have e0 : j = ws.length := by
                have := (List.getElem?_eq_some_iff.mp hj).1
                rw [List.length_singleton] at this
                omega
              subst e0
              rw [Nat.sub_self] at hj
              cases hj
              exact ⟨⟨by dsimp only; omega, by dsimp only; omega⟩, by rw [hwl]; exact hah, ho1, ho2⟩
          · rw [List.map_append]
            exact hd'.put.mono (by omega)
    · rintro e st ⟨x5, x6, x7, ws, rfl, hwl, hws, hD⟩
      rw [rangeD_len] at hwl hD
      refine ⟨trivial, ?_⟩
      (try simp? only [true_and])
      refine ⟨Nat.zero_le _, ?_⟩
      have hl0 := hD.len
      refine next_use hD.push (by omega) fun x st' x0 x1 hD => ?_
      (try simp? only [true_and])
      have hxm := modb x (show (0 : Int) < 9 by decide)
      have hok : D.okL (ws.map Wk.d) = true := okL_of ws
      have h4 : st'[rest.length + 3]? = some (.lst (ws.map Wk.d)) := by rw [hD.at3, List.getElem?_append_left (by simp)]; simp
      refine ⟨by decide, Nat.zero_le _, ?_⟩
      refine (v_eqN (rd_ref' h4)).mpr ⟨hok, ?_⟩
      (try simp? only [true_and])
      have hlen2 := hD.len
      have hem : (ws.map Wk.d).isEmpty = ws.isEmpty := isE_map _ _
      rw [hem]
      have hw : ∃ u : Nat, (x % 9 * if (!ws.isEmpty) = true then 1 else 0) = (u : Int) ∧ u ≤ 8 ∧ (0 < u → ws ≠ []) := by
        cases ws with
        | nil => exact ⟨0, by simp, by omega, fun h => by omega⟩
        | cons a r => exact ⟨(x % 9).toNat, by simp; omega, by omega, fun _ => by simp⟩
      obtain ⟨u, eu, u8, une⟩ := hw
      refine ⟨by split <;> exact .inl ⟨by omega, by omega⟩, ?_⟩
      rw [eu]
      refine ⟨⟨by omega, by omega⟩, ?_⟩
      have eix : st.length = (rest ++ [Cel.lst (ws.map Wk.d)]).length + 3 := hl0
      rw [eix]
      have hwn : ws.length ≤ 5 := by omega
      refine forL_inv (fun i e st => ∃ x5 x9 x10 us, e = [some (.ref 2), some (.int dd), some (.int p), some (.tup (rows.map dInts)), some (.ref (rest.length + 3)), x5, x6, x7, some (.ref ((rest ++ [Cel.lst (ws.map Wk.d)]).length + 3)), x9, x10, none, none] ∧ List.length us = i ∧ (∀ u ∈ us, Ws.Ok u ws.length dd) ∧ Dk (B + 10000 + i * 10) (rest ++ [.lst (ws.map Wk.d)] ++ [.lst (us.map Ws.d)]) st) ?_ ?_ _ _ ⟨_, _, _, [], rfl, rfl, fun _ h => (nomatch h), hD.mono (by omega)⟩
      · rintro i e st d ⟨x5, x9, x10, us, rfl, hul, hus, hD⟩ he R hR
        obtain ⟨hi, rfl⟩ := rangeD_at he
        rw [Int.toNat_natCast] at hi
        have hne := une (by omega)
        have hwp := List.length_pos_iff.mpr hne
        refine ⟨trivial, ?_⟩
        simp? only [w_f_law_little_5]
        refine next_use hD (by omega) fun y1 st y10 y11 hD => ?_
        have m1 := modb y1 (show (0 : Int) < ws.length by omega)
        simp? only [v_lenR (rd_ref' hD.low), List.length_map]
        refine ⟨by omega, ?_⟩
        refine next_use hD (by omega) fun y2 st y20 y21 hD => ?_
        have m2 := modb y2 (show (0 : Int) < dd + 1 by omega)
        (try simp? only [true_and])
        refine ⟨by omega, ⟨_, rd_ref' hD.top⟩, ?_⟩
        refine next_use hD (by omega) fun y3 st y30 y31 hD => ?_
        have m3 := modb y3 (show (0 : Int) < 2 by omega)
        (try simp? only [true_and])
        refine ⟨by omega, ?_⟩
        refine next_use hD (by omega) fun y4 st y40 y41 hD => ?_
        obtain ⟨v, hv, hv2⟩ := pk2 (a := 3) (b := 100) (x := 0 + (i : Int))
        have m4 := modb y4 (show (0 : Int) < v by omega)
        simp? only [hv]
        refine ⟨z2, by omega, by omega, ?_⟩
        refine next_use hD (by omega) fun y5 st y50 y51 hD => ?_
        have m5 := modb y5 (show (0 : Int) < 4 by omega)
        (try simp? only [true_and])
        refine ⟨by omega, z5, ?_⟩
        simp? only [v_app hD.top]
        refine ⟨by rw [sizeLine_eq]; omega, ?_⟩
        refine hR _ _ ⟨_, _, _, us ++ [⟨y1 % ws.length, y3 % 2, y2 % (dd + 1), 1 + y4 % v, y5 % 4⟩], rfl, by rw [List.length_append, List.length_singleton]; omega, fun w hw => ?_, ?_⟩
        · rcases List.mem_append.mp hw with hw | hw
          · exact hus w hw
          · rw [List.mem_singleton] at hw
            subst hw
            exact ⟨by dsimp only; omega, by dsimp only; omega, by dsimp only; omega, by dsimp only; omega, by dsimp only; omega⟩
        · rw [List.map_append]
          exact hD.put.mono (by omega)
      · rintro e st ⟨x5, x9, x10, us, rfl, hul, hus, hD⟩
        rw [rangeD_len, Int.toNat_natCast] at hul hD
        have h4 : st[rest.length + 3]? = some (.lst (ws.map Wk.d)) := by rw [hD.at3, List.getElem?_append_left (by simp)]; simp
        refine ⟨trivial, ?_⟩
        simp? only [v_tupL (rd_ref' h4), v_tupL (rd_ref' hD.top)]
        refine ⟨z4, ?_⟩
        rw [List.append_assoc] at hD
        let S : Sy := ⟨dd, rows, ws, us⟩
        have hS : S.Ok 9 3 5 3 8 := ⟨⟨by show 1 ≤ dd; omega, by show dd ≤ 9; omega⟩, ⟨by show 1 ≤ rows.length; omega, by show (rows.length : Int) ≤ 3; omega⟩, hr, by show (ws.length : Int) ≤ 5; omega, hws, by show (us.length : Int) ≤ 8; omega, hus⟩
        refine dk_pop hD0 hD (blw_sy _ S) fun st1 h1 => ⟨⟨S, rfl, hS⟩, h1.mono (by omega)⟩
def w_f_law_pairs_1 : DS := wSeq (wAsg (wOp dAdd (wCall S_f_law_ways (wCons (wVar 1) (wCons (wVar 3) (wNil)))) (wTup (wCons (wTup (wCons (wC (.int 9)) (wCons (wC (.int 4)) (wNil)))) (wCons (wTup (wCons (wC (.int 0)) (wCons (wC (.int 0)) (wNil)))) (wNil))))) (gNm 4)) (wSeq (wAsg (wCall S_f_law_next (wCons (wVar 0) (wNil))) (gNm 5)) (wDrop (wM mAppend (wVar 2) (wCons (wOp dIx (wLst false (wCons (wC .non) (wCons (wOp dIx (wVar 4) (wOp dMod (wOp dFdiv (wVar 5) (wC (.int 3))) (wCB bLen (wCons (wVar 4) (wNil))))) (wNil)))) (wCB bInt (wCons (wOp dGt (wOp dMod (wVar 5) (wC (.int 3))) (wC (.int 0))) (wNil)))) (wNil)))))
def w_f_law_pairs : DS := wSeq (wAsg (wLst true (wNil)) (gNm 2)) (wSeq (wFor (iRange1 (wCons (wCB bLen (wCons (wOp dIx (wVar 1) (wC (.int 2))) (wNil))) (wNil))) (gNm 3) w_f_law_pairs_1) (wRet (wCB bTuple (wCons (wVar 2) (wNil)))))
def S_f_law_pairs : DL.Spec := deckS 2 1000 (fun s : Sy => [s.d]) S30 fun s d => ∃ old, d = encB old ∧ old.length = s.works.length ∧ AimOk old
theorem vc_f_law_pairs : ∀ g sto, (S_f_law_pairs.args g).length = S_f_law_pairs.n → S_f_law_pairs.pre g sto → w_f_law_pairs (bodyEnds (popEnds sto.length sto (S_f_law_pairs.post g sto))) (startE ["_law_deck_here", "_law_system", "_law_found", "_law_work", "_law_ways_here", "_law_number"] (S_f_law_pairs.args g)) sto := by
  rintro ⟨rest, B, s⟩ sto _ ⟨hD, hB, hs⟩
  have hD0 := hD
  dsimp only at hD0 hD hB hs
  have hw := hs.works
  have z2 : 2 ≤ sizeLine := by decide
  simp? only [w_f_law_pairs, S_f_law_pairs, deckS, wFor]
  rw [hD.len]
  refine ⟨Nat.zero_le _, ⟨by omega, by omega⟩, ?_⟩
  rw [Int.toNat_natCast]
  refine forL_inv (fun i e st => ∃ x4 x5 x6 old, e = [some (.ref 2), some s.d, some (.ref (rest.length + 3)), x4, x5, x6] ∧ old.length = i ∧ AimOk old ∧ Dk (B + i) (rest ++ [.lst (old.map encO)]) st) ?_ ?_ _ _ ⟨_, _, _, [], rfl, rfl, fun o h => (by cases h), hD.push.mono (by omega)⟩
  · rintro i e st d ⟨x4, x5, x6, old, rfl, ho, hoo, hD⟩ he R hR
    obtain ⟨hi, rfl⟩ := rangeD_at he
    refine ⟨trivial, ?_⟩
    simp? only [w_f_law_pairs_1, Int.zero_add]
    obtain ⟨w, pw, ow⟩ := preWays_of hs (by omega) (by omega) (by omega) (i := i) (by omega)
    refine lways_use pw ?_
    (try simp? only [true_and])
    have hwl2 := waysL_len s w
    have hm3 : (s.days - w.len + 1).toNat * w.able.length ≤ 30 * 5 := Nat.mul_le_mul (by have := ow.len; have := hs.days; omega) (by have := ow.able.len; have := hs.hands; omega)
    have e9 : (waysF s w).map encP ++ [D.tup [.int 9, .int 4], .tup [.int 0, .int 0]] = (waysF s w ++ [(9, 4), (0, 0)]).map encP := by rw [List.map_append]; rfl
    have wp : ∀ q ∈ waysF s w ++ [(9, 4), (0, 0)], (0 ≤ q.1 ∧ q.1 ≤ 1000) ∧ (0 ≤ q.2 ∧ q.2 ≤ 1000) := fun q hq => by
      rcases List.mem_append.mp hq with hq | hq
      · have hm := mem_ways.mp hq
        have ha := ow.able.2 _ hm.2.1
        have hwl := ow.len
        have hd := hs.days
        have hh := hs.hands
        omega
      · simp only [List.mem_cons, List.not_mem_nil, or_false] at hq
        rcases hq with rfl | rfl <;> decide
    refine ⟨z2, z2, z2, by simp only [List.length_append, List.length_map, List.length_cons, List.length_nil, sizeLine_eq]; omega, ?_⟩
    rw [e9]
    have hne : 0 < (waysF s w ++ [((9 : Int), (4 : Int)), (0, 0)]).length := by simp
    generalize waysF s w ++ [((9 : Int), (4 : Int)), (0, 0)] = W at wp hne
    refine next_use hD (by omega) fun y st1 y0 y1 hD => ?_
    have h10 := modb (y / 3) (show 0 < (W.length : Int) by omega)
    obtain ⟨q, hq, hqm⟩ := pick (xs := W) (i := y / 3 % (W.length : Int)) (by omega) (by omega)
    simp? only [atI_map hq]
    refine ⟨⟨_, rd_ref' hD.top⟩, by decide, by omega, z2, by decide, ?_⟩
    have len : old.length < sizeLine := by rw [sizeLine_eq]; omega
    have fin : ∀ (o : Option P2), (∀ q, o = some q → (0 ≤ q.1 ∧ q.1 ≤ 1000) ∧ (0 ≤ q.2 ∧ q.2 ≤ 1000)) → ∀ x4 x5 x6,
        R [some (.ref 2), some s.d, some (.ref (rest.length + 3)), x4, x5, x6] (st1.set (rest.length + 3) (.lst (old.map encO ++ [encO o]))) := fun o hob x4 x5 x6 => by
      refine hR _ _ ⟨_, _, _, old ++ [o], rfl, by rw [List.length_append, List.length_singleton]; omega, fun o' h => ?_, ?_⟩
      · rcases List.mem_append.mp h with h | h
        · exact hoo o' h
        · rw [List.mem_singleton] at h
          rw [h]
          exact hob
      · rw [List.map_append]
        exact hD.put.mono (by omega)
    have two : ∃ o : Option P2, atI [D.non, encP q] (if 0 < y % 3 then 1 else 0) = some (encO o) ∧ ∀ q, o = some q → (0 ≤ q.1 ∧ q.1 ≤ 1000) ∧ (0 ≤ q.2 ∧ q.2 ≤ 1000) := by
      by_cases h : 0 < y % 3
      · exact ⟨some q, by rw [if_pos h]; rfl, fun q' e => by cases e; exact wp q hqm⟩
      · exact ⟨none, by rw [if_neg h]; rfl, fun q' e => nomatch e⟩
    obtain ⟨o2, ho2, hb2⟩ := two
    refine ⟨_, ho2, ?_⟩
    simp? only [v_app hD.top]
    exact ⟨by simpa using len, fin o2 hb2 _ _ _⟩
  · rintro e st ⟨x4, x5, x6, old, rfl, ho, hoo, hD⟩
    rw [rangeD_len] at ho hD
    refine ⟨trivial, ?_⟩
    simp? only [v_tupL (rd_ref' hD.top)]
    rw [← hD0.len]
    refine dk_pop hD0 hD (blw_encB _ old) fun st1 h4 => ⟨⟨old, rfl, by omega, hoo⟩, h4.mono (by omega)⟩
theorem caseOk_of {s : Sy} (hs : S30 s) {f : List (List P2)} (hf : FieldOf s f) : CaseOk s f := by
  have hfo := fieldOk_of hs hf
  have hw := hs.works
  have hd := hs.days
  have hh := hs.hands
  exact ⟨hs.wish, by rw [hf.len]; unfold wholeF; rw [List.length_map], by omega, hfo.row, by omega, by omega⟩
theorem leaf_kids {l : Nd} (h : l.Leaf) : kidsN l = 0 := by
  cases l with
  | part w ks => exact h.elim
  | _ => rfl
theorem forest_len : ∀ {b : Nat} {ks : List Nat} {L : List Nd}, Forest b ks L → (∀ {a : Nat} {S : List Nd}, Seg a S → S.length ≤ L.length → (S.map kidsN).sum + 1 = S.length) → (L.map kidsN).sum + ks.length = L.length
  | _, _, _, .nil, _ => rfl
  | _, _, _, .cons (S := S) (L := L) h1 h2, ih => by
    have e1 := ih h1 (by rw [List.length_append]; omega)
    have e2 := forest_len h2 fun h hl => ih h (by rw [List.length_append]; omega)
    rw [List.map_append, List.sum_append, List.length_append, List.length_cons]
    omega
theorem seg_kids : ∀ (n : Nat) {a : Nat} {L : List Nd}, L.length ≤ n → Seg a L → (L.map kidsN).sum + 1 = L.length
  | 0, _, _, hl, h => by have := h.pos; omega
  | n + 1, _, _, hl, h => by
    cases h with
    | leaf hf => rw [List.map_cons, List.map_nil, List.sum_cons, leaf_kids hf]; rfl
    | part _ hF =>
      rw [List.length_cons] at hl
      have := forest_len hF fun h2 hl2 => seg_kids n (by omega) h2
      rw [List.map_cons, List.sum_cons, List.length_cons, show ∀ w ks, kidsN (.part w ks) = ks.length from fun _ _ => rfl]
      omega
theorem fold_max22 {s : Sy} {c : Bool} {old : List (Option P2)} : ∀ {L : List (List P2)} {b : Bst} {ps : List P2} {v : List Int}, L.foldl (updB s c old) b = some (ps, v) → (∀ q ∈ L, HT.lexLt v (worthF s q c old) = false)
  | [], _, _, _, _ => fun _ h => nomatch h
  | p :: L, b, ps, v, h => fun q hq => by
    rw [List.foldl_cons] at h
    rcases List.mem_cons.mp hq with rfl | hq
    · have h1 := foldl_ge s c old L (updB s c old b q)
      rw [h] at h1
      have h2 : GeW ((updB s c old b q).map (·.2)) (some (worthF s q c old)) := by
        cases b with
        | none => exact GeW.refl _
        | some x =>
          obtain ⟨qs, u⟩ := x
          unfold updB
          dsimp only
          split
          · exact GeW.refl _
          · rename_i hn
            exact ⟨u, rfl, by simpa using hn⟩
      obtain ⟨v', e, h3⟩ := h1.trans h2
      cases e
      exact h3
    · exact fold_max22 h q hq
theorem pl_mem {s : Sy} {f : List (List P2)} {ps : List P2} (h : IsPl s f f.length ps) : ps ∈ plansF s f := by
  unfold plansF
  split
  · rename_i he
    obtain ⟨r, hr, hre⟩ := List.any_eq_true.mp he
    obtain ⟨k, hk, rfl⟩ := List.getElem_of_mem hr
    have hm := h.mem k _ _ (List.getElem?_eq_getElem hk) (List.getElem?_eq_getElem (by rw [h.len]; exact hk))
    rw [List.isEmpty_iff.mp hre] at hm
    cases hm
  · exact (mem_plansN (Nat.le_refl _)).mpr h
/-- by the best plan's worth no plan is better -/
theorem best_sound {s : Sy} {f : List (List P2)} {c : Bool} {old : List (Option P2)} : Sound s c old ((BsG.best ⟨s, f, c, old⟩).map (·.2)) f := fun ps hps => by
  have hm := pl_mem hps
  cases e : BsG.best ⟨s, f, c, old⟩ with
  | none =>
    have h1 := foldl_ge s c old (plansF s f) none
    obtain ⟨L1, L2, eL⟩ := List.append_of_mem hm
    unfold BsG.best bestB at e
    dsimp only at e
    rw [eL, List.foldl_append, List.foldl_cons] at e
    have h2 := foldl_ge s c old L2 (updB s c old (L1.foldl (updB s c old) none) ps)
    rw [e] at h2
    have h3 : ∃ x, updB s c old (L1.foldl (updB s c old) none) ps = some x := by
      cases L1.foldl (updB s c old) none with
      | none => exact ⟨_, rfl⟩
      | some x => obtain ⟨q, u⟩ := x; unfold updB; dsimp only; split <;> exact ⟨_, rfl⟩
    obtain ⟨x, e3⟩ := h3
    rw [e3] at h2
    obtain ⟨v', e4, _⟩ := h2
    cases e4
  | some x =>
    obtain ⟨qs, v⟩ := x
    exact ⟨v, rfl, fold_max22 (show (plansF s f).foldl (updB s c old) none = some (qs, v) from e) ps hm⟩
/-- what holds by a worth that is less than the best plan's -/
theorem no_less {s : Sy} {f : List (List P2)} {c : Bool} {old : List (Option P2)} {w : Option (List Int)} {d : D} {qs : List P2} {v : List Int} (hs : S30 s) (hf : FieldOf s f) (e : BsG.best ⟨s, f, c, old⟩ = some (qs, v)) (h : casesD s f c old w d = true) : ∃ u, w = some u ∧ HT.lexLt u v = false := by
  obtain ⟨hm, hv⟩ := best_mem e
  have := cases_sound hs hs.wish hf h qs (plans_mem hm)
  rw [← hv] at this
  exact this
theorem cnt_few {f : List (List P2)} {k : Nat} {q : Int} (hl : f.length ≤ k) (hm : manyF f ≤ q) (hq : 0 ≤ q) : cntF f ≤ (k + 1) * q := by
  unfold cntF
  have h1 : mrow f ≤ f.length := by unfold mrow; exact List.length_filter_le _ _
  have h2 := manyF_pos f
  exact Int.mul_le_mul (by omega) hm (by omega) (by omega)
theorem worth_len {s : Sy} {ps : List P2} {c : Bool} {old : List (Option P2)} : (worthF s ps c old).length = 6 := by
  unfold worthF rowF
  split <;> simp [weightsF_len]
def w_p_law_1 : DS := wSeq (wAsg (wCall S_p_cases_hold (wCons (wVar 3) (wCons (wVar 4) (wCons (wVar 5) (wCons (wVar 10) (wCons (wVar 12) (wNil))))))) (gNm 13)) (wSeq (wIf (wNot (wTest (wIsi "bool" (wVar 13)))) (wRet (wC (.bl false))) ((fun D env st => D.nx env st))) (wIf (wAnd (wTest (wVar 13)) (wAnd (wTest (wOp (dIsN fun b => !b) (wVar 6) (wC .non))) (wOr (wTest (wOp (dIsN fun b => b) (wVar 10) (wC .non))) (wTest (wOp dGt (wVar 6) (wVar 10)))))) (wRet (wC (.bl false))) ((fun D env st => D.nx env st))))
def w_p_law_2 : DS := wSeq (wAsg (wLst true (wCons (wVar 7) (wCons (wCB bTuple (wCons (wCall (S_f_law_made_up 24) (wCons (wVar 1) (wCons (wVar 3) (wCons (wVar 4) (wCons (wVar 10) (wCons (wVar 5) (wCons (wLst true (wNil)) (wNil)))))))) (wNil))) (wNil)))) (gNm 11)) (wSeq (wDrop (wM mAppend (wVar 11) (wCons (wCall S_f_law_bent_cases (wCons (wVar 1) (wCons (wOp dIx (wVar 11) (wC (.int 1))) (wCons (wOp dIx (wVar 3) (wC (.int 0))) (wCons (wCB bLen (wCons (wOp dIx (wVar 3) (wC (.int 2))) (wNil))) (wNil)))))) (wNil)))) (wSeq (wDrop (wM mAppend (wVar 11) (wCons (wCall S_f_law_bent_cases (wCons (wVar 1) (wCons (wVar 7) (wCons (wOp dIx (wVar 3) (wC (.int 0))) (wCons (wCB bLen (wCons (wOp dIx (wVar 3) (wC (.int 2))) (wNil))) (wNil)))))) (wNil)))) (wFor (iSeq (wVar 11)) (gNm 12) w_p_law_1)))
def w_p_law_3 : DS := wSeq (wAsg (wCall S_f_law_little (wCons (wVar 1) (wNil))) (gNm 3)) (wSeq (wAsg (wCall S_f_law_few (wCons (wVar 1) (wCons (wCall S_f_law_some (wCons (wVar 1) (wCons (wCall S_f_law_whole (wCons (wVar 3) (wNil))) (wNil)))) (wCons (wC (.int 120)) (wNil))))) (gNm 4)) (wSeq (wAsg (wTup (wCons (wOp dEq (wOp dMod (wCall S_f_law_next (wCons (wVar 1) (wNil))) (wC (.int 2))) (wC (.int 0))) (wCons (wCall S_f_law_pairs (wCons (wVar 1) (wCons (wVar 3) (wNil)))) (wNil)))) (gNm 5)) (wSeq (wAsg (wOp dIx (wCall S_f_law_best (wCons (wVar 3) (wCons (wVar 4) (wCons (wVar 5) (wNil))))) (wC (.int 0))) (gNm 6)) (wSeq (wAsg (wCB bTuple (wCons (wCall (S_f_law_laid 24) (wCons (wVar 1) (wCons (wVar 3) (wCons (wVar 4) (wCons (wVar 6) (wCons (wVar 5) (wCons (wLst true (wNil)) (wNil)))))))) (wNil))) (gNm 7)) (wSeq (wAsg (wLst true (wCons (wVar 6) (wCons (wC .non) (wCons (wOp dMul (wTup (wCons (wOp dMod (wCall S_f_law_next (wCons (wVar 1) (wNil))) (wC (.int 9))) (wNil))) (wC (.int 6))) (wNil))))) (gNm 8)) (wSeq (wIf (wTest (wOp (dIsN fun b => !b) (wVar 6) (wC .non))) (wSeq (wAsg (wOp dMod (wCall S_f_law_next (wCons (wVar 1) (wNil))) (wC (.int 6))) (gNm 9)) (wDrop (wM mAppend (wVar 8) (wCons (wCall S_f_law_put (wCons (wVar 6) (wCons (wVar 9) (wCons (wOp dSub (wOp dSub (wOp dIx (wVar 6) (wVar 9)) (wC (.int 1))) (wOp dMod (wCall S_f_law_next (wCons (wVar 1) (wNil))) (wC (.int 3)))) (wNil))))) (wNil))))) ((fun D env st => D.nx env st))) (wSeq (wFor (iSeq (wVar 8)) (gNm 10) w_p_law_2) (wIf (wTest (wOp (dIsBl fun b => !b) (wCall S_p_cases_hold (wCons (wVar 3) (wCons (wVar 4) (wCons (wVar 5) (wCons (wVar 6) (wCons (wVar 7) (wNil))))))) (wC (.bl true)))) (wRet (wC (.bl false))) ((fun D env st => D.nx env st))))))))))
def w_p_law : DS := wSeq (wAsg (wCall S_f_law_deck (wCons (wVar 0) (wNil))) (gNm 1)) (wSeq (wFor (iRange1 (wCons (wC (.int 3)) (wNil))) (gNm 2) w_p_law_3) (wRet (wC (.bl true))))
def S_p_law : DL.Spec := ⟨1, List Int, fun ns => [.scr (ns.map .int)], fun ns st => ns.length ≤ 63 ∧ st = [], fun _ _ d _ => d = .bl true⟩
theorem vc_p_law : ∀ g sto, (S_p_law.args g).length = S_p_law.n → S_p_law.pre g sto → w_p_law (bodyEnds (popEnds sto.length sto (S_p_law.post g sto))) (startE ["_law_script", "_law_deck_here", "_law_turn", "_law_system", "_law_field", "_law_aim", "_law_greatest", "_law_right", "_law_worths", "_law_at", "_law_worth_here", "_law_things", "_law_thing", "_law_found"] (S_p_law.args g)) sto := by
  rintro (ns : List Int) sto _ ⟨hl, rfl⟩
  have z2 : 2 ≤ sizeLine := by decide
  have z4 : 4 ≤ sizeLine := by decide
  have z1 : 1 ≤ sizeLine := by decide
  have z3 : 3 ≤ sizeLine := by decide
  simp? only [w_p_law, S_p_law, wFor]
  refine deck_use hl fun st hD => ?_
  (try simp? only [true_and])
  refine ⟨by decide, ?_⟩
  refine forL_inv (fun i e s => ∃ x2 x3 x4 x5 x6 x7 x8 x9 x10 x11 x12 x13 rest, e = [some (.scr (ns.map .int)), some (.ref 2), x2, x3, x4, x5, x6, x7, x8, x9, x10, x11, x12, x13] ∧ Dk (i * 100000000) rest s) ?_ ?_ _ _ ⟨_, _, _, _, _, _, _, _, _, _, _, _, _, rfl, hD.mono (by omega)⟩
  · rintro i e st d ⟨x2, x3, x4, x5, x6, x7, x8, x9, x10, x11, x12, x13, rest, rfl, hD⟩ he R hR
    obtain ⟨hi, rfl⟩ := rangeD_at he
    have hi3 : i < 3 := by simpa using hi
    refine ⟨trivial, ?_⟩
    simp?! only [w_p_law_3]
    refine seq_go ?_
    (try simp?! only [true_and])
    refine use_deck () rfl rfl hD (by omega) trivial fun d st hd hD => ?_
    obtain ⟨s, rfl, hs9⟩ := hd
    have hs : S30 s := s30_of hs9 (by omega) (by omega) (by omega) (by omega) (by omega)
    have hw5 := hs9.works
    have hwl : (wholeF s).length = s.works.length := by unfold wholeF; rw [List.length_map]
    refine seq_go ?_
    (try simp?! only [true_and])
    refine use_pure s rfl rfl (good30 hs) ?_
    (try simp?! only [true_and])
    refine use_deck (wholeF s) rfl rfl hD (by omega) (fewR_of hs (SubF.refl _)) fun d st hd hD => ?_
    obtain ⟨f1, rfl, hf1⟩ := hd
    (try simp?! only [true_and])
    refine use_deck (f1, 120) rfl rfl hD (by omega) ⟨fewR_of hs hf1, by show (1 : Int) ≤ 120; decide⟩ fun d st hd hD => ?_
    obtain ⟨f, rfl, hf2, _, hmany⟩ := hd
    dsimp only at hf2 hmany
    have hf : FieldOf s f := hf2.trans hf1
    have hfl : f.length = s.works.length := hf.len.trans hwl
    have hco := caseOk_of hs hf
    have hlay : LayOk s f := ⟨hs, hco, by omega⟩
    have hcnt := cnt_few (k := 5) (by omega) hmany (by decide)
    have hcp := cnt_pos f
    have hmr : mrow f < 24 := by
      have : mrow f ≤ f.length := by unfold mrow; exact List.length_filter_le _ _
      omega
    refine seq_go ?_
    (try simp?! only [true_and])
    refine next_use hD (by omega) fun y1 st y10 y11 hD => ?_
    (try simp?! only [true_and])
    refine ⟨by decide, ?_⟩
    obtain ⟨c, ec⟩ : ∃ c, c = (y1 % 2 == 0) := ⟨_, rfl⟩
    simp only [← ec]
    refine use_deck s rfl rfl hD (by omega) hs fun d st hd hD => ?_
    obtain ⟨old, rfl, hol, hok⟩ := hd
    (try simp?! only [true_and])
    refine ⟨z2, ?_⟩
    refine seq_go ?_
    (try simp?! only [true_and])
    refine use_pure (⟨s, f, c, old⟩ : BsG) rfl rfl ⟨hco, by show manyF f ≤ 1000000; omega⟩ ?_
    obtain ⟨b, eb⟩ : ∃ b, b = BsG.best ⟨s, f, c, old⟩ := ⟨_, rfl⟩
    have hS : Sound s c old (b.map (·.2)) f := by rw [eb]; exact best_sound
    simp?! only [← eb]
    refine seq_go ?_
    (try simp?! only [true_and])
    have hD := hD.mono (show _ ≤ (i : Int) * 100000000 + 60000000 by omega)
    rw [hD.len]
    have gl : ∀ {rest : Sto} {c : Cel}, (rest ++ [c])[rest.length]? = some c := fun {rest c} => by rw [List.getElem?_append_right (Nat.le_refl _), Nat.sub_self]; rfl
    refine ⟨Nat.zero_le _, ⟨rest ++ [.lst []], _, s, f, b.map (·.2), c, old, rest.length, []⟩, rfl, rfl, ⟨hD.push, gl, hlay, hmr, by show (i : Int) * 100000000 + 60000000 + cntF f < 2 ^ 36; omega, by show (0 : Int) + cntF f ≤ 1000; omega⟩, ?_⟩
    rintro d st ⟨L, hD, hLl, hdd⟩
    dsimp only at hD hLl hdd
    rw [List.nil_append, set_last] at hD
    rcases hdd with ⟨_, _, h⟩ | ⟨rfl, hseg, hvs⟩
    · exact absurd hS h
    have hseg : Seg 0 L := hseg
    have hvs : VSeg s c old (b.map (·.2)) f 0 L := hvs
    rw [v_tupL (rd_ref' hD.top)]
    refine seq_go ?_
    (try simp?! only [true_and])
    have hD := hD.mono (show _ ≤ (i : Int) * 100000000 + 60001000 by omega)
    generalize rest ++ [Cel.lst (List.map Nd.d L)] = rest at hD
    refine next_use hD (by omega) fun y2 st y20 y21 hD => ?_
    simp?! only [v_mulT]
    refine ⟨by decide, by decide, by decide, by decide, by decide, by decide, ?_⟩
    rw [hD.len]
    obtain ⟨ls, els⟩ : ∃ ls : List (Option (List Int)), ls = [b.map (·.2), none, some [y2 % 9, y2 % 9, y2 % 9, y2 % 9, y2 % 9, y2 % 9]] := ⟨_, rfl⟩
    have hls : ls.length = 3 := by rw [els]; rfl
    rw [show Cel.lst [encW (Option.map (fun x => x.snd) b), D.non, D.tup (List.replicate (Int.toNat 6) [D.int (y2 % 9)]).flatten] = Cel.lst (ls.map encW) by rw [els]; rfl]
    have hD := hD.push (c := .lst (ls.map encW))
    clear els
    refine seq_cut (fun e st => ∃ (x9 : Option D) (ws : List (Option (List Int))), e = [some (D.scr (List.map D.int ns)), some (D.ref 2), some (D.int (0 + ↑i)), some s.d, some (encF f), some (D.tup [D.bl c, encB old]), some (encW (Option.map (fun x => x.snd) b)), some (D.tup (List.map Nd.d L)), some (D.ref (rest.length + 3)), x9, x10, x11, x12, x13] ∧ ws.length ≤ 4 ∧ Dk ((i : Int) * 100000000 + 60002000) (rest ++ [.lst (ws.map encW)]) st) (fun K hK => ?_) ?_
    · cases hb : b with
      | none =>
        simp?! only [encW, Option.map_none, dIsN, show D.isNon .non = true from rfl]
        exact hK _ _ ⟨_, ls, by rw [hb]; rfl, by omega, hD.mono (by omega)⟩
      | some qv =>
        obtain ⟨q, v⟩ := qv
        simp?! only [encW, Option.map_some, dIsN, show ∀ l, D.isNon (dInts l) = false from fun _ => rfl]
        have hv6 : v.length = 6 := by
          rw [(best_mem (x := ⟨s, f, c, old⟩) (eb.symm.trans hb)).2]
          exact worth_len
        refine seq_go ?_
        (try simp?! only [true_and])
        refine next_use hD (by omega) fun y3 st y30 y31 hD => ?_
        (try simp?! only [true_and])
        refine ⟨by decide, ?_⟩
        have m3 := modb y3 (show (0 : Int) < 6 by decide)
        obtain ⟨k, ek⟩ : ∃ k : Nat, y3 % 6 = (k : Int) := ⟨(y3 % 6).toNat, by omega⟩
        have hk : k < 6 := by omega
        obtain ⟨q0, hq⟩ : ∃ q, v[k]? = some q := ⟨_, List.getElem?_eq_getElem (by omega)⟩
        have hq2 : atI (v.map D.int) (k : Int) = some (.int q0) := atI_map (atI_of (by omega) hq)
        rw [ek]
        have t1 := hD.top
        simp?! only [dInts, hq2]
        refine ⟨⟨_, rd_ref' t1⟩, ?_⟩
        refine next_use hD (by omega) fun y4 st y40 y41 hD => ?_
        have t1 := hD.top
        (try simp?! only [true_and])
        refine ⟨by decide, put_use ⟨by rw [List.length_map]; omega, by rw [List.length_map]; omega⟩ ?_⟩
        rw [v_app t1]
        refine ⟨by rw [List.length_map, hls]; decide, ?_⟩
        have e9 : List.map encW ls ++ [D.tup ((List.map D.int v).set k (D.int (q0 - 1 - y4 % 3)))] = List.map encW (ls ++ [some (v.set k (q0 - 1 - y4 % 3))]) := by
          rw [List.map_append, ← List.map_set]
          rfl
        rw [e9]
        exact hK _ _ ⟨_, ls ++ [some (v.set k (q0 - 1 - y4 % 3))], by rw [hb]; rfl, by rw [List.length_append, hls]; exact Nat.le_refl _, hD.put.mono (by omega)⟩
    · rintro e st ⟨x9, ws, rfl, hws, hD⟩
      refine seq_go ?_
      simp?! only [wFor]
      have hblw : (D.tup (L.map Nd.d)).blw 0 = true := by have := blw_nds L 0; simpa only [D.blw] using this
      have hLN := VSeg.nds (by have := hs9.days; omega) hvs hlay.few L.length (by omega)
      have hL0 : L ≠ [] := fun e => by have := hseg.pos; rw [e] at this; exact absurd this (by decide)
      have hdays := hs9.days
      have gj : (rest ++ [Cel.lst (ws.map encW)])[rest.length]? = some (.lst (ws.map encW)) := gl
      refine seqI_of (rd_ref' hD.top) fun G hG => ?_
      refine forL_inv (fun j e st => ∃ (x9 x10 x11 x12 x13 : Option D) (rest2 : Sto), e = [some (D.scr (List.map D.int ns)), some (D.ref 2), some (D.int (0 + ↑i)), some s.d, some (encF f), some (D.tup [D.bl c, encB old]), some (encW (Option.map (fun x => x.snd) b)), some (D.tup (List.map Nd.d L)), some (D.ref (rest.length + 3)), x9, x10, x11, x12, x13] ∧ rest2[rest.length]? = some (.lst (ws.map encW)) ∧ Dk ((i : Int) * 100000000 + 60002000 + j * 10000) rest2 st) ?_ ?_ _ _ ⟨_, _, _, _, _, _, rfl, gj, hD.mono (by omega)⟩
      · rintro j e st d ⟨x9, x10, x11, x12, x13, rest2, rfl, hg2, hD⟩ he R2 hR2
        refine ⟨hG _ (rd_ref' (dk_get hD hg2)), ?_⟩
        rw [List.getElem?_map] at he
        cases hw : ws[j]? with
        | none => rw [hw] at he; cases he
        | some w =>
          rw [hw] at he
          cases he
          have hj4 : j < 4 := by have := (List.getElem?_eq_some_iff.mp hw).1; omega
          simp?! only [w_p_law_2]
          refine seq_go ?_
          (try simp?! only [true_and])
          have hjl2 := (List.getElem?_eq_some_iff.mp hg2).1
          have hD := hD.mono (show _ ≤ (i : Int) * 100000000 + 60002000 + j * 10000 by omega)
          rw [hD.len]
          refine ⟨Nat.zero_le _, ⟨rest2 ++ [.lst []], (i : Int) * 100000000 + 60002000 + j * 10000, s, f, w, c, old, rest2.length, []⟩, rfl, rfl, ⟨hD.push, gl, hlay, hmr, by show (i : Int) * 100000000 + 60002000 + j * 10000 + cntF f < 2 ^ 36; omega, by show (0 : Int) + cntF f ≤ 1000; omega⟩, ?_⟩
          rintro d st ⟨M, hD, hMl, rfl, hM⟩
          dsimp only at hD hMl hM
          rw [List.nil_append, set_last] at hD
          have hM : Seg 0 M := hM
          rw [v_tupL (rd_ref' hD.top)]
          refine ⟨z2, ?_⟩
          have hMk := seg_kids M.length (Nat.le_refl _) hM
          have hMn := (tree_ok M.length M.length).1 M 0 (Nat.le_refl _) hM (by omega)
          have hM0 : M ≠ [] := fun e => by have := hM.pos; rw [e] at this; exact absurd this (by decide)
          have hg3 : (rest2 ++ [Cel.lst (List.map Nd.d M)])[rest.length]? = some (.lst (ws.map encW)) := by rw [List.getElem?_append_left hjl2]; exact hg2
          generalize rest2 ++ [Cel.lst (List.map Nd.d M)] = rest3 at hD hg3
          have hjl3 := (List.getElem?_eq_some_iff.mp hg3).1
          have hD := hD.mono (show _ ≤ (i : Int) * 100000000 + 60002800 + j * 10000 by omega)
          rw [hD.len]
          have hD := hD.push (c := .lst [.tup (L.map Nd.d), .tup (M.map Nd.d)])
          have t1 := hD.top
          refine seq_go ?_
          (try simp?! only [true_and])
          refine ⟨⟨_, rd_ref' t1⟩, ?_⟩
          rw [v_ixQ (.inl (rd_ref' t1))]
          refine ⟨_, rfl, ?_⟩
          refine use_deck (M, s.days, s.works.length) rfl rfl hD (by omega) ⟨hM0, hMn, by show M.length ≤ 1000; omega, by show (M.map kidsN).sum ≤ 1000; omega, by show 0 ≤ s.days ∧ s.days ≤ 30; omega, by show s.works.length ≤ 12; omega⟩ fun d2 st hd2 hD => ?_
          have t1 := hD.top
          rw [v_app t1]
          refine ⟨by show (2 : Nat) < sizeLine; decide, ?_⟩
          have hD := hD.put (c' := .lst ([D.tup (List.map Nd.d L), D.tup (List.map Nd.d M)] ++ [d2]))
          have t1 := hD.top
          refine seq_go ?_
          (try simp?! only [true_and])
          refine ⟨⟨_, rd_ref' t1⟩, ?_⟩
          refine use_deck (L, s.days, s.works.length) rfl rfl hD (by omega) ⟨hL0, hLN.1, by show L.length ≤ 1000; omega, by show (L.map kidsN).sum ≤ 1000; have := hLN.2; omega, by show 0 ≤ s.days ∧ s.days ≤ 30; omega, by show s.works.length ≤ 12; omega⟩ fun d3 st hd3 hD => ?_
          have t1 := hD.top
          rw [v_app t1]
          refine ⟨by show (3 : Nat) < sizeLine; decide, ?_⟩
          have hD := hD.put (c' := .lst ([D.tup (List.map Nd.d L), D.tup (List.map Nd.d M)] ++ [d2] ++ [d3]))
          have t1 := hD.top
          have hds : ∀ d ∈ [D.tup (List.map Nd.d L), D.tup (List.map Nd.d M)] ++ [d2] ++ [d3], d.blw 0 = true := by
            refine List.forall_mem_cons.mpr ⟨hblw, List.forall_mem_cons.mpr ⟨?_, List.forall_mem_cons.mpr ⟨hd2.blw, List.forall_mem_cons.mpr ⟨hd3.blw, fun _ h => nomatch h⟩⟩⟩⟩
            have := blw_nds M 0
            simpa only [D.blw] using this
          have hdl : ([D.tup (List.map Nd.d L), D.tup (List.map Nd.d M)] ++ [d2] ++ [d3]).length = 4 := rfl
          generalize [D.tup (List.map Nd.d L), D.tup (List.map Nd.d M)] ++ [d2] ++ [d3] = ds at hD t1 hds hdl
          refine seqI_of (rd_ref' t1) fun G2 hG2 => ?_
          refine forL_inv (fun k e st => ∃ (x12 x13 : Option D), e = [some (D.scr (List.map D.int ns)), some (D.ref 2), some (D.int (0 + ↑i)), some s.d, some (encF f), some (D.tup [D.bl c, encB old]), some (encW (Option.map (fun x => x.snd) b)), some (D.tup (List.map Nd.d L)), some (D.ref (rest.length + 3)), x9, some (encW w), some (.ref (rest3.length + 3)), x12, x13] ∧ Dk ((i : Int) * 100000000 + 60005000 + j * 10000) (rest3 ++ [.lst ds]) st) ?_ ?_ _ _ ⟨_, _, rfl, hD.mono (by omega)⟩
          · rintro k e st d ⟨x12, x13, rfl, hD⟩ he R3 hR3
            refine ⟨hG2 _ (rd_ref' hD.top), ?_⟩
            have hdb := hds d (List.mem_of_getElem? he)
            simp?! only [w_p_law_1]
            refine seq_go ?_
            (try simp?! only [true_and])
            refine use_pure (s, f, (c, old), w, d) rfl rfl ⟨hco, hdb⟩ ?_
            dsimp only
            refine seq_go ?_
            (try simp?! only [true_and])
            refine ⟨trivial, ?_⟩
            rw [if_neg (by simp [D.isa])]
            have go : R3 [some (D.scr (List.map D.int ns)), some (D.ref 2), some (D.int (0 + ↑i)), some s.d, some (encF f), some (D.tup [D.bl c, encB old]), some (encW (Option.map (fun x => x.snd) b)), some (D.tup (List.map Nd.d L)), some (D.ref (rest.length + 3)), x9, some (encW w), some (.ref (rest3.length + 3)), some d, some (D.bl (casesD s f c old w d))] st := hR3 _ _ ⟨_, _, rfl, hD⟩
            cases hc : casesD s f c old w d with
            | false =>
              rw [hc] at go
              rw [if_neg (by decide)]
              exact go
            | true =>
              rw [hc] at go
              rw [if_pos rfl]
              cases hb : b with
              | none =>
                rw [hb] at go
                refine ⟨rfl, _, rfl, ?_⟩
                simp only [Option.map_none, encW, D.isNon, Bool.not_true]
                rw [if_neg (by decide)]
                exact go
              | some qv =>
                obtain ⟨q, v⟩ := qv
                obtain ⟨u, rfl, hu⟩ := no_less hs hf (eb.symm.trans hb) hc
                rw [hb] at go
                refine ⟨rfl, _, rfl, ?_⟩
                simp only [Option.map_some, encW, show ∀ l, D.isNon (dInts l) = false from fun _ => rfl, Bool.not_false]
                rw [if_pos trivial]
                refine ⟨rfl, _, rfl, ?_⟩
                rw [show D.isNon (dInts u) = false from rfl, if_neg (by decide)]
                refine v_gtInts ⟨_, rfl, ?_⟩
                rw [hu, if_neg (by decide)]
                exact go
          · rintro e st ⟨x12, x13, rfl, hD⟩
            refine ⟨hG2 _ (rd_ref' hD.top), ?_⟩
            exact hR2 _ _ ⟨_, _, _, _, _, rest3 ++ [.lst ds], rfl, by rw [List.getElem?_append_left hjl3]; exact hg3, hD.mono (by omega)⟩
      · rintro e st ⟨x9, x10, x11, x12, x13, rest2, rfl, hg2, hD⟩
        refine ⟨hG _ (rd_ref' (dk_get hD hg2)), ?_⟩
        (try simp?! only [true_and])
        refine use_pure (s, f, (c, old), b.map (·.2), D.tup (L.map Nd.d)) rfl rfl ⟨hco, hblw⟩ ?_
        dsimp only
        rw [seg_cases hvs (by omega)]
        simp?! only [v_isBl, decide_true]
        exact hR _ _ ⟨_, _, _, _, _, _, _, _, _, _, _, _, _, rfl, hD.mono (by rw [List.length_map]; omega)⟩
  · rintro e st ⟨x2, x3, x4, x5, x6, x7, x8, x9, x10, x11, x12, x13, rest, rfl, hD⟩
    exact ⟨trivial, [], st, rfl, rfl, rfl, fun i c h => by simp at h, rfl⟩
abbrev N_p_is_number : List Str := ["thing"]
theorem sc_p_is_number : FnScope N_p_is_number ["thing"] (defScope s_p_is_number) := ⟨rfl, rfl, rfl, by decide +kernel, rfl, by decide +kernel, by decide +kernel⟩
abbrev N_p_end_of : List Str := ["system", "work", "way"]
theorem sc_p_end_of : FnScope N_p_end_of ["system", "work", "way"] (defScope s_p_end_of) := ⟨rfl, rfl, rfl, by decide +kernel, rfl, by decide +kernel, by decide +kernel⟩
abbrev N_p_with_one_way : List Str := ["field", "work", "way"]
theorem sc_p_with_one_way : FnScope N_p_with_one_way ["field", "work", "way"] (defScope s_p_with_one_way) := ⟨rfl, rfl, rfl, by decide +kernel, rfl, by decide +kernel, by decide +kernel⟩
theorem sc_p_weights_with : FnScope N_p_weights_with ["system", "keeps"] (defScope s_p_weights_with) := ⟨rfl, rfl, rfl, by decide +kernel, rfl, by decide +kernel, by decide +kernel⟩
abbrev N_p_worth_row : List Str := ["calm", "many", "weights", "ends"]
theorem sc_p_worth_row : FnScope N_p_worth_row ["calm", "many", "weights", "ends"] (defScope s_p_worth_row) := ⟨rfl, rfl, rfl, by decide +kernel, rfl, by decide +kernel, by decide +kernel⟩
abbrev N_p_surely_moved : List Str := ["field", "old", "row", "pair"]
theorem sc_p_surely_moved : FnScope N_p_surely_moved ["field", "old"] (defScope s_p_surely_moved) := ⟨rfl, rfl, rfl, by decide +kernel, rfl, by decide +kernel, by decide +kernel⟩
abbrev N_p_given_days : List Str := ["system", "hand", "first", "last", "day"]
theorem sc_p_given_days : FnScope N_p_given_days ["system", "hand", "first", "last"] (defScope s_p_given_days) := ⟨rfl, rfl, rfl, by decide +kernel, rfl, by decide +kernel, by decide +kernel⟩
abbrev N_f_law_deck : List Str := ["_law_script", "_law_digits", "_law_cells", "_law_cell"]
theorem sc_f_law_deck : FnScope N_f_law_deck ["_law_script"] (defScope s_f_law_deck) := ⟨rfl, rfl, rfl, by decide +kernel, rfl, by decide +kernel, by decide +kernel⟩
abbrev N_f_law_next : List Str := ["_law_deck_here", "_law_at", "_law_primes", "_law_cell", "_law_mixed"]
theorem sc_f_law_next : FnScope N_f_law_next ["_law_deck_here"] (defScope s_f_law_next) := ⟨rfl, rfl, rfl, by decide +kernel, rfl, by decide +kernel, by decide +kernel⟩
abbrev N_f_law_put : List Str := ["_law_row", "_law_at", "_law_thing"]
theorem sc_f_law_put : FnScope N_f_law_put ["_law_row", "_law_at", "_law_thing"] (defScope s_f_law_put) := ⟨rfl, rfl, rfl, by decide +kernel, rfl, by decide +kernel, by decide +kernel⟩
abbrev N_f_law_ways : List Str := ["_law_system", "_law_work", "_law_days_here", "_law_hands", "_law_works", "_law_length", "_law_ahead", "_law_able", "_law_found", "_law_start", "_law_hand", "_law_day"]
theorem sc_f_law_ways : FnScope N_f_law_ways ["_law_system", "_law_work"] (defScope s_f_law_ways) := ⟨rfl, rfl, rfl, by decide +kernel, rfl, by decide +kernel, by decide +kernel⟩
abbrev N_f_law_clash : List Str := ["_law_system", "_law_one", "_law_way", "_law_other", "_law_other_way", "_law_end", "_law_other_end"]
theorem sc_f_law_clash : FnScope N_f_law_clash ["_law_system", "_law_one", "_law_way", "_law_other", "_law_other_way"] (defScope s_f_law_clash) := ⟨rfl, rfl, rfl, by decide +kernel, rfl, by decide +kernel, by decide +kernel⟩
abbrev N_f_law_kept : List Str := ["_law_system", "_law_wish", "_law_way"]
theorem sc_f_law_kept : FnScope N_f_law_kept ["_law_system", "_law_wish", "_law_way"] (defScope s_f_law_kept) := ⟨rfl, rfl, rfl, by decide +kernel, rfl, by decide +kernel, by decide +kernel⟩
abbrev N_f_law_ends : List Str := ["_law_system", "_law_plan", "_law_way", "_law_work"]
theorem sc_f_law_ends : FnScope N_f_law_ends ["_law_system", "_law_plan"] (defScope s_f_law_ends) := ⟨rfl, rfl, rfl, by decide +kernel, rfl, by decide +kernel, by decide +kernel⟩
abbrev N_f_law_row_of : List Str := ["_law_calm", "_law_others", "_law_weights_here", "_law_ends_here"]
theorem sc_f_law_row_of : FnScope N_f_law_row_of ["_law_calm", "_law_others", "_law_weights_here", "_law_ends_here"] (defScope s_f_law_row_of) := ⟨rfl, rfl, rfl, by decide +kernel, rfl, by decide +kernel, by decide +kernel⟩
abbrev N_f_law_moved : List Str := ["_law_plan", "_law_old", "_law_way", "_law_pair"]
theorem sc_f_law_moved : FnScope N_f_law_moved ["_law_plan", "_law_old"] (defScope s_f_law_moved) := ⟨rfl, rfl, rfl, by decide +kernel, rfl, by decide +kernel, by decide +kernel⟩
abbrev N_f_law_full : List Str := ["_law_system", "_law_field", "_law_first", "_law_last", "_law_lengths", "_law_hands", "_law_work", "_law_row", "_law_length", "_law_given", "_law_hand", "_law_gone", "_law_way", "_law_day"]
theorem sc_f_law_full : FnScope N_f_law_full ["_law_system", "_law_field", "_law_first", "_law_last"] (defScope s_f_law_full) := ⟨rfl, rfl, rfl, by decide +kernel, rfl, by decide +kernel, by decide +kernel⟩
abbrev N_p_is_from : List Str := ["thing", "low", "high"]
theorem sc_p_is_from : FnScope N_p_is_from ["thing", "low", "high"] (defScope s_p_is_from) := ⟨rfl, rfl, rfl, by decide +kernel, rfl, by decide +kernel, by decide +kernel⟩
abbrev N_p_is_behind : List Str := ["system", "one", "way", "other", "other_way"]
theorem sc_p_is_behind : FnScope N_p_is_behind ["system", "one", "way", "other", "other_way"] (defScope s_p_is_behind) := ⟨rfl, rfl, rfl, by decide +kernel, rfl, by decide +kernel, by decide +kernel⟩
abbrev N_p_is_kept : List Str := ["system", "wish", "way", "work", "sort", "day"]
theorem sc_p_is_kept : FnScope N_p_is_kept ["system", "wish", "way"] (defScope s_p_is_kept) := ⟨rfl, rfl, rfl, by decide +kernel, rfl, by decide +kernel, by decide +kernel⟩
abbrev N_p_hoped_ends : List Str := ["system", "field", "work", "row", "way"]
theorem sc_p_hoped_ends : FnScope N_p_hoped_ends ["system", "field"] (defScope s_p_hoped_ends) := ⟨rfl, rfl, rfl, by decide +kernel, rfl, by decide +kernel, by decide +kernel⟩
abbrev N_p_is_within : List Str := ["system", "work", "row", "first", "last", "way"]
theorem sc_p_is_within : FnScope N_p_is_within ["system", "work", "row", "first", "last"] (defScope s_p_is_within) := ⟨rfl, rfl, rfl, by decide +kernel, rfl, by decide +kernel, by decide +kernel⟩
abbrev N_f_law_goes : List Str := ["_law_system", "_law_ways_here", "_law_work", "_law_way", "_law_one"]
theorem sc_f_law_goes : FnScope N_f_law_goes ["_law_system", "_law_ways_here", "_law_work", "_law_way"] (defScope s_f_law_goes) := ⟨rfl, rfl, rfl, by decide +kernel, rfl, by decide +kernel, by decide +kernel⟩
abbrev N_f_law_whole : List Str := ["_law_system", "_law_work"]
theorem sc_f_law_whole : FnScope N_f_law_whole ["_law_system"] (defScope s_f_law_whole) := ⟨rfl, rfl, rfl, by decide +kernel, rfl, by decide +kernel, by decide +kernel⟩
abbrev N_f_law_weights : List Str := ["_law_system", "_law_plan", "_law_found", "_law_wish", "_law_more"]
theorem sc_f_law_weights : FnScope N_f_law_weights ["_law_system", "_law_plan"] (defScope s_f_law_weights) := ⟨rfl, rfl, rfl, by decide +kernel, rfl, by decide +kernel, by decide +kernel⟩
abbrev N_f_law_hope : List Str := ["_law_system", "_law_field", "_law_aim", "_law_others", "_law_weights_here", "_law_wish", "_law_ends_here", "_law_row", "_law_pair", "_law_way", "_law_work"]
theorem sc_f_law_hope : FnScope N_f_law_hope ["_law_system", "_law_field", "_law_aim"] (defScope s_f_law_hope) := ⟨rfl, rfl, rfl, by decide +kernel, rfl, by decide +kernel, by decide +kernel⟩
abbrev N_f_law_some : List Str := ["_law_deck_here", "_law_field", "_law_way", "_law_found", "_law_row", "_law_one", "_law_k"]
theorem sc_f_law_some : FnScope N_f_law_some ["_law_deck_here", "_law_field"] (defScope s_f_law_some) := ⟨rfl, rfl, rfl, by decide +kernel, rfl, by decide +kernel, by decide +kernel⟩
abbrev N_f_law_few : List Str := ["_law_deck_here", "_law_field", "_law_most", "_law_sizes", "_law_many", "_law_size", "_law_at", "_law_spot", "_law_row"]
theorem sc_f_law_few : FnScope N_f_law_few ["_law_deck_here", "_law_field", "_law_most"] (defScope s_f_law_few) := ⟨rfl, rfl, rfl, by decide +kernel, rfl, by decide +kernel, by decide +kernel⟩
abbrev N_f_law_days : List Str := ["_law_deck_here", "_law_days_here", "_law_some_here", "_law_day"]
theorem sc_f_law_days : FnScope N_f_law_days ["_law_deck_here", "_law_days_here", "_law_some_here"] (defScope s_f_law_days) := ⟨rfl, rfl, rfl, by decide +kernel, rfl, by decide +kernel, by decide +kernel⟩
abbrev N_f_law_pairs : List Str := ["_law_deck_here", "_law_system", "_law_found", "_law_work", "_law_ways_here", "_law_number"]
theorem sc_f_law_pairs : FnScope N_f_law_pairs ["_law_deck_here", "_law_system"] (defScope s_f_law_pairs) := ⟨rfl, rfl, rfl, by decide +kernel, rfl, by decide +kernel, by decide +kernel⟩
abbrev N_f_law_bent_node : List Str := ["_law_number", "_law_node", "_law_size", "_law_days_here", "_law_works", "_law_one", "_law_some_here", "_law_more", "_law_work", "_law_nodes", "_law_spot", "_law_other", "_law_rows", "_law_row"]
theorem sc_f_law_bent_node : FnScope N_f_law_bent_node ["_law_number", "_law_node", "_law_size", "_law_days_here", "_law_works"] (defScope s_f_law_bent_node) := ⟨rfl, rfl, rfl, by decide +kernel, rfl, by decide +kernel, by decide +kernel⟩
abbrev N_p_clash : List Str := ["system", "one", "way", "other", "other_way"]
theorem sc_p_clash : FnScope N_p_clash ["system", "one", "way", "other", "other_way"] (defScope s_p_clash) := ⟨rfl, rfl, rfl, by decide +kernel, rfl, by decide +kernel, by decide +kernel⟩
abbrev N_p_is_full : List Str := ["system", "field", "first", "last", "wanted", "standing", "work", "row", "begin", "hand"]
theorem sc_p_is_full : FnScope N_p_is_full ["system", "field", "first", "last"] (defScope s_p_is_full) := ⟨rfl, rfl, rfl, by decide +kernel, rfl, by decide +kernel, by decide +kernel⟩
abbrev N_p_is_a_node : List Str := ["thing"]
theorem sc_p_is_a_node : FnScope N_p_is_a_node ["thing"] (defScope s_p_is_a_node) := ⟨rfl, rfl, rfl, by decide +kernel, rfl, by decide +kernel, by decide +kernel⟩
abbrev N_p_parted_rightly : List Str := ["field", "node", "work", "nodes"]
theorem sc_p_parted_rightly : FnScope N_p_parted_rightly ["field", "node"] (defScope s_p_parted_rightly) := ⟨rfl, rfl, rfl, by decide +kernel, rfl, by decide +kernel, by decide +kernel⟩
abbrev N_p_has_one_way : List Str := ["field", "work"]
theorem sc_p_has_one_way : FnScope N_p_has_one_way ["field", "work"] (defScope s_p_has_one_way) := ⟨rfl, rfl, rfl, by decide +kernel, rfl, by decide +kernel, by decide +kernel⟩
abbrev N_p_led_down : List Str := ["field", "node", "at", "fields", "way", "there"]
theorem sc_p_led_down : FnScope N_p_led_down ["field", "node", "at", "fields"] (defScope s_p_led_down) := ⟨rfl, rfl, rfl, by decide +kernel, rfl, by decide +kernel, by decide +kernel⟩
abbrev N_f_law_plans : List Str := ["_law_system", "_law_field", "_law_found", "_law_work", "_law_row", "_law_longer_rows", "_law_ways_here", "_law_way"]
theorem sc_f_law_plans : FnScope N_f_law_plans ["_law_system", "_law_field"] (defScope s_f_law_plans) := ⟨rfl, rfl, rfl, by decide +kernel, rfl, by decide +kernel, by decide +kernel⟩
abbrev N_f_law_worth : List Str := ["_law_system", "_law_plan", "_law_aim"]
theorem sc_f_law_worth : FnScope N_f_law_worth ["_law_system", "_law_plan", "_law_aim"] (defScope s_f_law_worth) := ⟨rfl, rfl, rfl, by decide +kernel, rfl, by decide +kernel, by decide +kernel⟩
abbrev N_f_law_little : List Str := ["_law_deck_here", "_law_days_here", "_law_gone", "_law_hands", "_law_works", "_law_work", "_law_ahead", "_law_able", "_law_wishes", "_law_k", "_law_day", "_law_hand", "_law_one"]
theorem sc_f_law_little : FnScope N_f_law_little ["_law_deck_here"] (defScope s_f_law_little) := ⟨rfl, rfl, rfl, by decide +kernel, rfl, by decide +kernel, by decide +kernel⟩
abbrev N_f_law_leaves : List Str := ["_law_system", "_law_field", "_law_worth_here", "_law_aim", "_law_found", "_law_lone", "_law_one", "_law_other", "_law_day", "_law_work"]
theorem sc_f_law_leaves : FnScope N_f_law_leaves ["_law_system", "_law_field", "_law_worth_here", "_law_aim"] (defScope s_f_law_leaves) := ⟨rfl, rfl, rfl, by decide +kernel, rfl, by decide +kernel, by decide +kernel⟩
abbrev N_f_law_bent_cases : List Str := ["_law_deck_here", "_law_cases", "_law_days_here", "_law_works", "_law_way", "_law_at", "_law_number", "_law_other"]
theorem sc_f_law_bent_cases : FnScope N_f_law_bent_cases ["_law_deck_here", "_law_cases", "_law_days_here", "_law_works"] (defScope s_f_law_bent_cases) := ⟨rfl, rfl, rfl, by decide +kernel, rfl, by decide +kernel, by decide +kernel⟩
abbrev N_p_clashes_rightly : List Str := ["system", "field", "node", "one", "other"]
theorem sc_p_clashes_rightly : FnScope N_p_clashes_rightly ["system", "field", "node"] (defScope s_p_clashes_rightly) := ⟨rfl, rfl, rfl, by decide +kernel, rfl, by decide +kernel, by decide +kernel⟩
abbrev N_p_full_rightly : List Str := ["system", "field", "node", "first", "last"]
theorem sc_p_full_rightly : FnScope N_p_full_rightly ["system", "field", "node"] (defScope s_p_full_rightly) := ⟨rfl, rfl, rfl, by decide +kernel, rfl, by decide +kernel, by decide +kernel⟩
abbrev N_f_law_best : List Str := ["_law_system", "_law_field", "_law_aim", "_law_top", "_law_least", "_law_plan", "_law_worth_here"]
theorem sc_f_law_best : FnScope N_f_law_best ["_law_system", "_law_field", "_law_aim"] (defScope s_f_law_best) := ⟨rfl, rfl, rfl, by decide +kernel, rfl, by decide +kernel, by decide +kernel⟩
abbrev N_p_hoped_weights : List Str := ["system", "field", "wish", "way"]
theorem sc_p_hoped_weights : FnScope N_p_hoped_weights ["system", "field"] (defScope s_p_hoped_weights) := ⟨rfl, rfl, rfl, by decide +kernel, rfl, by decide +kernel, by decide +kernel⟩
abbrev N_p_hope_of : List Str := ["system", "field", "aim"]
theorem sc_p_hope_of : FnScope N_p_hope_of ["system", "field", "aim"] (defScope s_p_hope_of) := ⟨rfl, rfl, rfl, by decide +kernel, rfl, by decide +kernel, by decide +kernel⟩
abbrev N_p_hopeless_rightly : List Str := ["system", "field", "aim", "worth"]
theorem sc_p_hopeless_rightly : FnScope N_p_hopeless_rightly ["system", "field", "aim", "worth"] (defScope s_p_hopeless_rightly) := ⟨rfl, rfl, rfl, by decide +kernel, rfl, by decide +kernel, by decide +kernel⟩
abbrev N_p_holds_at : List Str := ["system", "field", "aim", "worth", "node"]
theorem sc_p_holds_at : FnScope N_p_holds_at ["system", "field", "aim", "worth", "node"] (defScope s_p_holds_at) := ⟨rfl, rfl, rfl, by decide +kernel, rfl, by decide +kernel, by decide +kernel⟩
abbrev N_p_cases_hold : List Str := ["system", "field", "aim", "worth", "thing", "fields", "at", "node", "own"]
theorem sc_p_cases_hold : FnScope N_p_cases_hold ["system", "field", "aim", "worth", "thing"] (defScope s_p_cases_hold) := ⟨rfl, rfl, rfl, by decide +kernel, rfl, by decide +kernel, by decide +kernel⟩
abbrev N_f_law_laid : List Str := ["_law_deck_here", "_law_system", "_law_field", "_law_worth_here", "_law_aim", "_law_cases", "_law_at", "_law_some_here", "_law_number", "_law_many", "_law_work", "_law_nodes", "_law_way"]
theorem sc_f_law_laid : FnScope N_f_law_laid ["_law_deck_here", "_law_system", "_law_field", "_law_worth_here", "_law_aim", "_law_cases"] (defScope s_f_law_laid) := ⟨rfl, rfl, rfl, by decide +kernel, rfl, by decide +kernel, by decide +kernel⟩
abbrev N_f_law_made_up : List Str := ["_law_deck_here", "_law_system", "_law_field", "_law_worth_here", "_law_aim", "_law_cases", "_law_at", "_law_some_here", "_law_many", "_law_number", "_law_more", "_law_work", "_law_nodes", "_law_way"]
theorem sc_f_law_made_up : FnScope N_f_law_made_up ["_law_deck_here", "_law_system", "_law_field", "_law_worth_here", "_law_aim", "_law_cases"] (defScope s_f_law_made_up) := ⟨rfl, rfl, rfl, by decide +kernel, rfl, by decide +kernel, by decide +kernel⟩
abbrev N_p_law : List Str := ["_law_script", "_law_deck_here", "_law_turn", "_law_system", "_law_field", "_law_aim", "_law_greatest", "_law_right", "_law_worths", "_law_at", "_law_worth_here", "_law_things", "_law_thing", "_law_found"]
theorem sc_p_law : FnScope N_p_law ["_law_script"] (defScope s_p_law) := ⟨rfl, rfl, rfl, by decide +kernel, rfl, by decide +kernel, by decide +kernel⟩
set_option genInjectivity false in
set_option genSizeOf false in
structure Txt (K : PySem.W.Frag) (mg : Str → Option Value) where
  a_p_is_number : Addr
  d_p_is_number : FuncData
  F_p_is_number : Fun K "is_number" "is_number" s_p_is_number a_p_is_number d_p_is_number
  b_p_is_number : Binds K d_p_is_number ["thing"] []
  m_p_is_number : mg "is_number" = some (.ref a_p_is_number)
  a_p_end_of : Addr
  d_p_end_of : FuncData
  F_p_end_of : Fun K "end_of" "end_of" s_p_end_of a_p_end_of d_p_end_of
  b_p_end_of : Binds K d_p_end_of ["system", "work", "way"] []
  m_p_end_of : mg "end_of" = some (.ref a_p_end_of)
  a_p_with_one_way : Addr
  d_p_with_one_way : FuncData
  F_p_with_one_way : Fun K "with_one_way" "with_one_way" s_p_with_one_way a_p_with_one_way d_p_with_one_way
  b_p_with_one_way : Binds K d_p_with_one_way ["field", "work", "way"] []
  m_p_with_one_way : mg "with_one_way" = some (.ref a_p_with_one_way)
  a_p_weights_with : Addr
  d_p_weights_with : FuncData
  F_p_weights_with : Fun K "weights_with" "weights_with" s_p_weights_with a_p_weights_with d_p_weights_with
  b_p_weights_with : Binds K d_p_weights_with ["system", "keeps"] []
  m_p_weights_with : mg "weights_with" = some (.ref a_p_weights_with)
  a_p_worth_row : Addr
  d_p_worth_row : FuncData
  F_p_worth_row : Fun K "worth_row" "worth_row" s_p_worth_row a_p_worth_row d_p_worth_row
  b_p_worth_row : Binds K d_p_worth_row ["calm", "many", "weights", "ends"] []
  m_p_worth_row : mg "worth_row" = some (.ref a_p_worth_row)
  a_p_surely_moved : Addr
  d_p_surely_moved : FuncData
  F_p_surely_moved : Fun K "surely_moved" "surely_moved" s_p_surely_moved a_p_surely_moved d_p_surely_moved
  b_p_surely_moved : Binds K d_p_surely_moved ["field", "old"] []
  m_p_surely_moved : mg "surely_moved" = some (.ref a_p_surely_moved)
  a_p_given_days : Addr
  d_p_given_days : FuncData
  F_p_given_days : Fun K "given_days" "given_days" s_p_given_days a_p_given_days d_p_given_days
  b_p_given_days : Binds K d_p_given_days ["system", "hand", "first", "last"] []
  m_p_given_days : mg "given_days" = some (.ref a_p_given_days)
  a_f_law_deck : Addr
  d_f_law_deck : FuncData
  F_f_law_deck : Fun K "_law_deck" "_law_deck" s_f_law_deck a_f_law_deck d_f_law_deck
  b_f_law_deck : Binds K d_f_law_deck ["_law_script"] []
  m_f_law_deck : mg "_law_deck" = some (.ref a_f_law_deck)
  a_f_law_next : Addr
  d_f_law_next : FuncData
  F_f_law_next : Fun K "_law_next" "_law_next" s_f_law_next a_f_law_next d_f_law_next
  b_f_law_next : Binds K d_f_law_next ["_law_deck_here"] []
  m_f_law_next : mg "_law_next" = some (.ref a_f_law_next)
  a_f_law_put : Addr
  d_f_law_put : FuncData
  F_f_law_put : Fun K "_law_put" "_law_put" s_f_law_put a_f_law_put d_f_law_put
  b_f_law_put : Binds K d_f_law_put ["_law_row", "_law_at", "_law_thing"] []
  m_f_law_put : mg "_law_put" = some (.ref a_f_law_put)
  a_f_law_ways : Addr
  d_f_law_ways : FuncData
  F_f_law_ways : Fun K "_law_ways" "_law_ways" s_f_law_ways a_f_law_ways d_f_law_ways
  b_f_law_ways : Binds K d_f_law_ways ["_law_system", "_law_work"] []
  m_f_law_ways : mg "_law_ways" = some (.ref a_f_law_ways)
  a_f_law_clash : Addr
  d_f_law_clash : FuncData
  F_f_law_clash : Fun K "_law_clash" "_law_clash" s_f_law_clash a_f_law_clash d_f_law_clash
  b_f_law_clash : Binds K d_f_law_clash ["_law_system", "_law_one", "_law_way", "_law_other", "_law_other_way"] []
  m_f_law_clash : mg "_law_clash" = some (.ref a_f_law_clash)
  a_f_law_kept : Addr
  d_f_law_kept : FuncData
  F_f_law_kept : Fun K "_law_kept" "_law_kept" s_f_law_kept a_f_law_kept d_f_law_kept
  b_f_law_kept : Binds K d_f_law_kept ["_law_system", "_law_wish", "_law_way"] []
  m_f_law_kept : mg "_law_kept" = some (.ref a_f_law_kept)
  a_f_law_ends : Addr
  d_f_law_ends : FuncData
  F_f_law_ends : Fun K "_law_ends" "_law_ends" s_f_law_ends a_f_law_ends d_f_law_ends
  b_f_law_ends : Binds K d_f_law_ends ["_law_system", "_law_plan"] []
  m_f_law_ends : mg "_law_ends" = some (.ref a_f_law_ends)
  a_f_law_row_of : Addr
  d_f_law_row_of : FuncData
  F_f_law_row_of : Fun K "_law_row_of" "_law_row_of" s_f_law_row_of a_f_law_row_of d_f_law_row_of
  b_f_law_row_of : Binds K d_f_law_row_of ["_law_calm", "_law_others", "_law_weights_here", "_law_ends_here"] []
  m_f_law_row_of : mg "_law_row_of" = some (.ref a_f_law_row_of)
  a_f_law_moved : Addr
  d_f_law_moved : FuncData
  F_f_law_moved : Fun K "_law_moved" "_law_moved" s_f_law_moved a_f_law_moved d_f_law_moved
  b_f_law_moved : Binds K d_f_law_moved ["_law_plan", "_law_old"] []
  m_f_law_moved : mg "_law_moved" = some (.ref a_f_law_moved)
  a_f_law_full : Addr
  d_f_law_full : FuncData
  F_f_law_full : Fun K "_law_full" "_law_full" s_f_law_full a_f_law_full d_f_law_full
  b_f_law_full : Binds K d_f_law_full ["_law_system", "_law_field", "_law_first", "_law_last"] []
  m_f_law_full : mg "_law_full" = some (.ref a_f_law_full)
  a_p_is_from : Addr
  d_p_is_from : FuncData
  F_p_is_from : Fun K "is_from" "is_from" s_p_is_from a_p_is_from d_p_is_from
  b_p_is_from : Binds K d_p_is_from ["thing", "low", "high"] []
  m_p_is_from : mg "is_from" = some (.ref a_p_is_from)
  a_p_is_behind : Addr
  d_p_is_behind : FuncData
  F_p_is_behind : Fun K "is_behind" "is_behind" s_p_is_behind a_p_is_behind d_p_is_behind
  b_p_is_behind : Binds K d_p_is_behind ["system", "one", "way", "other", "other_way"] []
  m_p_is_behind : mg "is_behind" = some (.ref a_p_is_behind)
  a_p_is_kept : Addr
  d_p_is_kept : FuncData
  F_p_is_kept : Fun K "is_kept" "is_kept" s_p_is_kept a_p_is_kept d_p_is_kept
  b_p_is_kept : Binds K d_p_is_kept ["system", "wish", "way"] []
  m_p_is_kept : mg "is_kept" = some (.ref a_p_is_kept)
  a_p_hoped_ends : Addr
  d_p_hoped_ends : FuncData
  F_p_hoped_ends : Fun K "hoped_ends" "hoped_ends" s_p_hoped_ends a_p_hoped_ends d_p_hoped_ends
  b_p_hoped_ends : Binds K d_p_hoped_ends ["system", "field"] []
  m_p_hoped_ends : mg "hoped_ends" = some (.ref a_p_hoped_ends)
  a_p_is_within : Addr
  d_p_is_within : FuncData
  F_p_is_within : Fun K "is_within" "is_within" s_p_is_within a_p_is_within d_p_is_within
  b_p_is_within : Binds K d_p_is_within ["system", "work", "row", "first", "last"] []
  m_p_is_within : mg "is_within" = some (.ref a_p_is_within)
  a_f_law_goes : Addr
  d_f_law_goes : FuncData
  F_f_law_goes : Fun K "_law_goes" "_law_goes" s_f_law_goes a_f_law_goes d_f_law_goes
  b_f_law_goes : Binds K d_f_law_goes ["_law_system", "_law_ways_here", "_law_work", "_law_way"] []
  m_f_law_goes : mg "_law_goes" = some (.ref a_f_law_goes)
  a_f_law_whole : Addr
  d_f_law_whole : FuncData
  F_f_law_whole : Fun K "_law_whole" "_law_whole" s_f_law_whole a_f_law_whole d_f_law_whole
  b_f_law_whole : Binds K d_f_law_whole ["_law_system"] []
  m_f_law_whole : mg "_law_whole" = some (.ref a_f_law_whole)
  a_f_law_weights : Addr
  d_f_law_weights : FuncData
  F_f_law_weights : Fun K "_law_weights" "_law_weights" s_f_law_weights a_f_law_weights d_f_law_weights
  b_f_law_weights : Binds K d_f_law_weights ["_law_system", "_law_plan"] []
  m_f_law_weights : mg "_law_weights" = some (.ref a_f_law_weights)
  a_f_law_hope : Addr
  d_f_law_hope : FuncData
  F_f_law_hope : Fun K "_law_hope" "_law_hope" s_f_law_hope a_f_law_hope d_f_law_hope
  b_f_law_hope : Binds K d_f_law_hope ["_law_system", "_law_field", "_law_aim"] []
  m_f_law_hope : mg "_law_hope" = some (.ref a_f_law_hope)
  a_f_law_some : Addr
  d_f_law_some : FuncData
  F_f_law_some : Fun K "_law_some" "_law_some" s_f_law_some a_f_law_some d_f_law_some
  b_f_law_some : Binds K d_f_law_some ["_law_deck_here", "_law_field"] []
  m_f_law_some : mg "_law_some" = some (.ref a_f_law_some)
  a_f_law_few : Addr
  d_f_law_few : FuncData
  F_f_law_few : Fun K "_law_few" "_law_few" s_f_law_few a_f_law_few d_f_law_few
  b_f_law_few : Binds K d_f_law_few ["_law_deck_here", "_law_field", "_law_most"] []
  m_f_law_few : mg "_law_few" = some (.ref a_f_law_few)
  a_f_law_days : Addr
  d_f_law_days : FuncData
  F_f_law_days : Fun K "_law_days" "_law_days" s_f_law_days a_f_law_days d_f_law_days
  b_f_law_days : Binds K d_f_law_days ["_law_deck_here", "_law_days_here", "_law_some_here"] []
  m_f_law_days : mg "_law_days" = some (.ref a_f_law_days)
  a_f_law_pairs : Addr
  d_f_law_pairs : FuncData
  F_f_law_pairs : Fun K "_law_pairs" "_law_pairs" s_f_law_pairs a_f_law_pairs d_f_law_pairs
  b_f_law_pairs : Binds K d_f_law_pairs ["_law_deck_here", "_law_system"] []
  m_f_law_pairs : mg "_law_pairs" = some (.ref a_f_law_pairs)
  a_f_law_bent_node : Addr
  d_f_law_bent_node : FuncData
  F_f_law_bent_node : Fun K "_law_bent_node" "_law_bent_node" s_f_law_bent_node a_f_law_bent_node d_f_law_bent_node
  b_f_law_bent_node : Binds K d_f_law_bent_node ["_law_number", "_law_node", "_law_size", "_law_days_here", "_law_works"] []
  m_f_law_bent_node : mg "_law_bent_node" = some (.ref a_f_law_bent_node)
  a_p_clash : Addr
  d_p_clash : FuncData
  F_p_clash : Fun K "clash" "clash" s_p_clash a_p_clash d_p_clash
  b_p_clash : Binds K d_p_clash ["system", "one", "way", "other", "other_way"] []
  m_p_clash : mg "clash" = some (.ref a_p_clash)
  a_p_is_full : Addr
  d_p_is_full : FuncData
  F_p_is_full : Fun K "is_full" "is_full" s_p_is_full a_p_is_full d_p_is_full
  b_p_is_full : Binds K d_p_is_full ["system", "field", "first", "last"] []
  m_p_is_full : mg "is_full" = some (.ref a_p_is_full)
  a_p_is_a_node : Addr
  d_p_is_a_node : FuncData
  F_p_is_a_node : Fun K "is_a_node" "is_a_node" s_p_is_a_node a_p_is_a_node d_p_is_a_node
  b_p_is_a_node : Binds K d_p_is_a_node ["thing"] []
  m_p_is_a_node : mg "is_a_node" = some (.ref a_p_is_a_node)
  a_p_parted_rightly : Addr
  d_p_parted_rightly : FuncData
  F_p_parted_rightly : Fun K "parted_rightly" "parted_rightly" s_p_parted_rightly a_p_parted_rightly d_p_parted_rightly
  b_p_parted_rightly : Binds K d_p_parted_rightly ["field", "node"] []
  m_p_parted_rightly : mg "parted_rightly" = some (.ref a_p_parted_rightly)
  a_p_has_one_way : Addr
  d_p_has_one_way : FuncData
  F_p_has_one_way : Fun K "has_one_way" "has_one_way" s_p_has_one_way a_p_has_one_way d_p_has_one_way
  b_p_has_one_way : Binds K d_p_has_one_way ["field", "work"] []
  m_p_has_one_way : mg "has_one_way" = some (.ref a_p_has_one_way)
  a_p_led_down : Addr
  d_p_led_down : FuncData
  F_p_led_down : Fun K "led_down" "led_down" s_p_led_down a_p_led_down d_p_led_down
  b_p_led_down : Binds K d_p_led_down ["field", "node", "at", "fields"] []
  m_p_led_down : mg "led_down" = some (.ref a_p_led_down)
  a_f_law_plans : Addr
  d_f_law_plans : FuncData
  F_f_law_plans : Fun K "_law_plans" "_law_plans" s_f_law_plans a_f_law_plans d_f_law_plans
  b_f_law_plans : Binds K d_f_law_plans ["_law_system", "_law_field"] []
  m_f_law_plans : mg "_law_plans" = some (.ref a_f_law_plans)
  a_f_law_worth : Addr
  d_f_law_worth : FuncData
  F_f_law_worth : Fun K "_law_worth" "_law_worth" s_f_law_worth a_f_law_worth d_f_law_worth
  b_f_law_worth : Binds K d_f_law_worth ["_law_system", "_law_plan", "_law_aim"] []
  m_f_law_worth : mg "_law_worth" = some (.ref a_f_law_worth)
  a_f_law_little : Addr
  d_f_law_little : FuncData
  F_f_law_little : Fun K "_law_little" "_law_little" s_f_law_little a_f_law_little d_f_law_little
  b_f_law_little : Binds K d_f_law_little ["_law_deck_here"] []
  m_f_law_little : mg "_law_little" = some (.ref a_f_law_little)
  a_f_law_leaves : Addr
  d_f_law_leaves : FuncData
  F_f_law_leaves : Fun K "_law_leaves" "_law_leaves" s_f_law_leaves a_f_law_leaves d_f_law_leaves
  b_f_law_leaves : Binds K d_f_law_leaves ["_law_system", "_law_field", "_law_worth_here", "_law_aim"] []
  m_f_law_leaves : mg "_law_leaves" = some (.ref a_f_law_leaves)
  a_f_law_bent_cases : Addr
  d_f_law_bent_cases : FuncData
  F_f_law_bent_cases : Fun K "_law_bent_cases" "_law_bent_cases" s_f_law_bent_cases a_f_law_bent_cases d_f_law_bent_cases
  b_f_law_bent_cases : Binds K d_f_law_bent_cases ["_law_deck_here", "_law_cases", "_law_days_here", "_law_works"] []
  m_f_law_bent_cases : mg "_law_bent_cases" = some (.ref a_f_law_bent_cases)
  a_p_clashes_rightly : Addr
  d_p_clashes_rightly : FuncData
  F_p_clashes_rightly : Fun K "clashes_rightly" "clashes_rightly" s_p_clashes_rightly a_p_clashes_rightly d_p_clashes_rightly
  b_p_clashes_rightly : Binds K d_p_clashes_rightly ["system", "field", "node"] []
  m_p_clashes_rightly : mg "clashes_rightly" = some (.ref a_p_clashes_rightly)
  a_p_full_rightly : Addr
  d_p_full_rightly : FuncData
  F_p_full_rightly : Fun K "full_rightly" "full_rightly" s_p_full_rightly a_p_full_rightly d_p_full_rightly
  b_p_full_rightly : Binds K d_p_full_rightly ["system", "field", "node"] []
  m_p_full_rightly : mg "full_rightly" = some (.ref a_p_full_rightly)
  a_f_law_best : Addr
  d_f_law_best : FuncData
  F_f_law_best : Fun K "_law_best" "_law_best" s_f_law_best a_f_law_best d_f_law_best
  b_f_law_best : Binds K d_f_law_best ["_law_system", "_law_field", "_law_aim"] []
  m_f_law_best : mg "_law_best" = some (.ref a_f_law_best)
  a_p_hoped_weights : Addr
  d_p_hoped_weights : FuncData
  F_p_hoped_weights : Fun K "hoped_weights" "hoped_weights" s_p_hoped_weights a_p_hoped_weights d_p_hoped_weights
  b_p_hoped_weights : Binds K d_p_hoped_weights ["system", "field"] []
  m_p_hoped_weights : mg "hoped_weights" = some (.ref a_p_hoped_weights)
  a_p_hope_of : Addr
  d_p_hope_of : FuncData
  F_p_hope_of : Fun K "hope_of" "hope_of" s_p_hope_of a_p_hope_of d_p_hope_of
  b_p_hope_of : Binds K d_p_hope_of ["system", "field", "aim"] []
  m_p_hope_of : mg "hope_of" = some (.ref a_p_hope_of)
  a_p_hopeless_rightly : Addr
  d_p_hopeless_rightly : FuncData
  F_p_hopeless_rightly : Fun K "hopeless_rightly" "hopeless_rightly" s_p_hopeless_rightly a_p_hopeless_rightly d_p_hopeless_rightly
  b_p_hopeless_rightly : Binds K d_p_hopeless_rightly ["system", "field", "aim", "worth"] []
  m_p_hopeless_rightly : mg "hopeless_rightly" = some (.ref a_p_hopeless_rightly)
  a_p_holds_at : Addr
  d_p_holds_at : FuncData
  F_p_holds_at : Fun K "holds_at" "holds_at" s_p_holds_at a_p_holds_at d_p_holds_at
  b_p_holds_at : Binds K d_p_holds_at ["system", "field", "aim", "worth", "node"] []
  m_p_holds_at : mg "holds_at" = some (.ref a_p_holds_at)
  a_p_cases_hold : Addr
  d_p_cases_hold : FuncData
  F_p_cases_hold : Fun K "cases_hold" "cases_hold" s_p_cases_hold a_p_cases_hold d_p_cases_hold
  b_p_cases_hold : Binds K d_p_cases_hold ["system", "field", "aim", "worth", "thing"] []
  m_p_cases_hold : mg "cases_hold" = some (.ref a_p_cases_hold)
  a_f_law_laid : Addr
  d_f_law_laid : FuncData
  F_f_law_laid : Fun K "_law_laid" "_law_laid" s_f_law_laid a_f_law_laid d_f_law_laid
  b_f_law_laid : Binds K d_f_law_laid ["_law_deck_here", "_law_system", "_law_field", "_law_worth_here", "_law_aim", "_law_cases"] []
  m_f_law_laid : mg "_law_laid" = some (.ref a_f_law_laid)
  a_f_law_made_up : Addr
  d_f_law_made_up : FuncData
  F_f_law_made_up : Fun K "_law_made_up" "_law_made_up" s_f_law_made_up a_f_law_made_up d_f_law_made_up
  b_f_law_made_up : Binds K d_f_law_made_up ["_law_deck_here", "_law_system", "_law_field", "_law_worth_here", "_law_aim", "_law_cases"] []
  m_f_law_made_up : mg "_law_made_up" = some (.ref a_f_law_made_up)
  a_p_law : Addr
  d_p_law : FuncData
  F_p_law : Fun K "law" "law" s_p_law a_p_law d_p_law
  b_p_law : Binds K d_p_law ["_law_script"] []
  m_p_law : mg "law" = some (.ref a_p_law)
  u : tabsOkB K = true
  t_p_hoped_weights : ∃ c P, d_p_hoped_weights.code = .ref c ∧ PySem.W.tabIn K "hoped_weights" = some (c, P)
  n_abs : mg "abs" = none
  n_all : mg "all" = none
  n_any : mg "any" = none
  n_bool : mg "bool" = none
  n_enumerate : mg "enumerate" = none
  n_int : mg "int" = none
  n_isinstance : mg "isinstance" = none
  n_len : mg "len" = none
  n_list : mg "list" = none
  n_max : mg "max" = none
  n_min : mg "min" = none
  n_range : mg "range" = none
  n_sum : mg "sum" = none
  n_tuple : mg "tuple" = none
  n_zip : mg "zip" = none
  g_CLASH : ∃ t, mg "CLASH" = some (.int 1 t)
  g_FULL : ∃ t, mg "FULL" = some (.int 2 t)
  g_MOST_NODES : ∃ t, mg "MOST_NODES" = some (.int 30000 t)
  g_PARTED : ∃ t, mg "PARTED" = some (.int 0 t)
  g_RANKS : ∃ t, mg "RANKS" = some (.int 4 t)
  g_SIZES : ∃ a, mg "SIZES" = some (.ref a) ∧ ∀ io F, Den K io F (.ref a) (.tup [.int 3, .int 3, .int 3, .int 1])
set_option genInjectivity false in
set_option genSizeOf false in
structure TxtB (K : PySem.W.Frag) (mg : Str → Option Value) extends Txt K mg where
  base : Heap
  TB : ∀ p ∈ tabCs K, LamX.TabB base mg p.1 p.2
section
variable {P : Program} {w : World} {K : PySem.W.Frag} {mg : Str → Option Value} {base : Heap}
theorem ok_p_is_number (T : TxtB K mg) : FnG P w K mg T.base CX0 1 T.a_p_is_number T.d_p_is_number ["thing"] (spOf K S_p_is_number) := by
  refine fn_ok T.F_p_is_number sc_p_is_number rfl (fun cdv A outer s H E hr hgd => ?_) vc_p_is_number
  have nd := sc_p_is_number.nd
  exact wb_one (ws_ret (we_and (we_isi tok_int (by rfl) T.n_isinstance (by rfl) T.n_int bb_int (we_var (i := 0) rfl (.inl rfl))) (we_one (we_not (we_isi tok_bool (by rfl) T.n_isinstance (by rfl) T.n_bool bb_bool (we_var (i := 0) rfl (.inl rfl)))))))
theorem ok_p_end_of (T : TxtB K mg) : FnG P w K mg T.base CX0 1 T.a_p_end_of T.d_p_end_of ["system", "work", "way"] (spOf K S_p_end_of) := by
  refine fn_ok T.F_p_end_of sc_p_end_of rfl (fun cdv A outer s H E hr hgd => ?_) vc_p_end_of
  have nd := sc_p_end_of.nd
  exact wb_one (ws_ret (we_op op_addD z_add (we_ix (we_var (i := 2) rfl (.inl rfl)) (we_int)) (we_ix (we_ix (we_ix (we_var (i := 0) rfl (.inl rfl)) (we_int)) (we_var (i := 1) rfl (.inl rfl))) (we_int))))
theorem ok_p_with_one_way (T : TxtB K mg) : FnG P w K mg T.base CX0 1 T.a_p_with_one_way T.d_p_with_one_way ["field", "work", "way"] (spOf K S_p_with_one_way) := by
  refine fn_ok T.F_p_with_one_way sc_p_with_one_way rfl (fun cdv A outer s H E hr hgd => ?_) vc_p_with_one_way
  have nd := sc_p_with_one_way.nd
  exact wb_one (ws_ret (we_op op_addD z_add (we_op op_addD z_add (we_sl (m := false) (we_var (i := 0) rfl (.inl rfl)) wo_none (wo_some (we_var (i := 1) rfl (.inl rfl)))) (we_tup (wa_cons (we_tup (wa_cons (we_var (i := 2) rfl (.inl rfl)) (wa_nil))) (wa_nil)))) (we_sl (m := false) (we_var (i := 0) rfl (.inl rfl)) (wo_some (we_op op_addD z_add (we_var (i := 1) rfl (.inl rfl)) (we_int))) wo_none)))
theorem tx_p_weights_with [Bs] (T : TxtB K mg) (cdv : Value) (A : Around) (outer : List Env) (s : Shared) (H : Hp) (E : XK) (y : D) (L : List D → Sto → DK → Prop) (hr : Room 0 (A.deeper (envOfC "weights_with" (defScope s_p_weights_with) s.heap.objs.size T.a_p_weights_with cdv))) (hgd : A.guards = some [])
    (lam : LamRule (cxOf CX0 P w K mg T.base N_p_weights_with "weights_with" (defScope s_p_weights_with) T.a_p_weights_with cdv A outer s H E).nox "keeps" y L) : WB (cxOf CX0 P w K mg T.base N_p_weights_with "weights_with" (defScope s_p_weights_with) T.a_p_weights_with cdv A outer s H E).nox (defBody s_p_weights_with) (w_p_weights_with y L) := by
  have nd := sc_p_weights_with.nd
  exact wb_cons (ws_set (i := 2) nd rfl (.inl rfl) (we_op op_mulD z_mulM (we_lst (m := false) (wa_cons (we_int) (wa_nil))) (we_gint (by rfl) T.g_RANKS))) (wb_cons (ws_for PassesOwn.never rfl (wi_seq (we_ix (we_var (i := 0) rfl (.inl rfl)) (we_int))) (wg_name (i := 3) nd rfl (.inl rfl)) (wb_one (ws_if (wt_val (lam.go (wa_cons (we_var (i := 3) rfl (.inl rfl)) (wa_nil)) (by rfl) (by rfl))) (wb_one (ws_asg (we_op op_addD z_add (we_ix (we_var (i := 2) rfl (.inl rfl)) (we_ix (we_var (i := 3) rfl (.inl rfl)) (we_int))) (we_ix (we_var (i := 3) rfl (.inl rfl)) (we_int))) (wg_sub (we_var (i := 2) rfl (.inl rfl)) (we_ix (we_var (i := 3) rfl (.inl rfl)) (we_int))))) (wb_nil)))) (wb_one (ws_ret (we_callX z_tuple (fun h => pe_callTy call_tupleX (by rfl) T.n_tuple bb_tuple h) (wa_cons (we_var (i := 2) rfl (.inl rfl)) (wa_nil))))))
theorem ok_p_worth_row (T : TxtB K mg) : FnG P w K mg T.base CX0 1 T.a_p_worth_row T.d_p_worth_row ["calm", "many", "weights", "ends"] (spOf K S_p_worth_row) := by
  refine fn_ok T.F_p_worth_row sc_p_worth_row rfl (fun cdv A outer s H E hr hgd => ?_) vc_p_worth_row
  have nd := sc_p_worth_row.nd
  exact wb_cons (ws_if (wt_val (we_var (i := 0) rfl (.inl rfl))) (wb_one (ws_ret (we_op op_addD z_add (we_op op_addD z_add (we_tup (wa_cons (we_op op_sub z_sub (we_int) (we_var (i := 1) rfl (.inl rfl))) (wa_nil))) (we_var (i := 2) rfl (.inl rfl))) (we_tup (wa_cons (we_op op_sub z_sub (we_int) (we_var (i := 3) rfl (.inl rfl))) (wa_nil)))))) (wb_nil)) (wb_one (ws_ret (we_op op_addD z_add (we_var (i := 2) rfl (.inl rfl)) (we_tup (wa_cons (we_op op_sub z_sub (we_int) (we_var (i := 3) rfl (.inl rfl))) (wa_cons (we_op op_sub z_sub (we_int) (we_var (i := 1) rfl (.inl rfl))) (wa_nil)))))))
theorem ok_p_surely_moved (T : TxtB K mg) : FnG P w K mg T.base CX0 1 T.a_p_surely_moved T.d_p_surely_moved ["field", "old"] (spOf K S_p_surely_moved) := by
  refine fn_ok T.F_p_surely_moved sc_p_surely_moved rfl (fun cdv A outer s H E hr hgd => ?_) vc_p_surely_moved
  have nd := sc_p_surely_moved.nd
  exact wb_one (ws_ret (we_callX z_len (fun h => pe_callB (CallR.or call_len_seq call_len_str) (by rfl) T.n_len bb_len h) (wa_cons (we_lc (m := false) (t := (.tp [2, 3])) (own := [("row", 2), ("pair", 3)]) rfl nd (wi_zip (by rfl) T.n_zip (we_var (i := 0) rfl (.inl rfl)) (we_var (i := 1) rfl (.inl rfl))) (blkOk_by (own := [("row", 2), ("pair", 3)]) (N := N_p_surely_moved) (by kernel_rfl)) (by simp [Tg.ix]) (fun _ _ _ _ _ => pg_tup rfl (pgs_cons (pg_name (i := 2) nd rfl (.inl rfl)) (pgs_cons (pg_name (i := 3) nd rfl (.inl rfl)) (pgs_nil)))) (fun _ _ _ _ _ => wts_one ((ww_and (wt_cmp (op_notN) (z_isN (f := fun b => !b)) (we_var (i := 3) rfl (.inl rfl)) (we_non) ((nomark _))) (ww_and1 (wt_cmp (op_notInB hr.units) z_inB (we_var (i := 3) rfl (.inl rfl)) (we_var (i := 2) rfl (.inl rfl)) (by rfl)))).wt)) (fun _ _ _ _ _ => we_var (i := 3) rfl (.inl rfl))) (wa_nil))))
theorem ok_p_given_days (T : TxtB K mg) : FnG P w K mg T.base CX0 1 T.a_p_given_days T.d_p_given_days ["system", "hand", "first", "last"] (spOf K S_p_given_days) := by
  refine fn_ok T.F_p_given_days sc_p_given_days rfl (fun cdv A outer s H E hr hgd => ?_) vc_p_given_days
  have nd := sc_p_given_days.nd
  exact wb_one (ws_ret (we_callX z_len (fun h => pe_callB (CallR.or call_len_seq call_len_str) (by rfl) T.n_len bb_len h) (wa_cons (we_lc (m := false) (t := (.nm 4)) (own := [("day", 4)]) rfl nd (wi_range2 (by rfl) T.n_range (wa_cons (we_var (i := 2) rfl (.inl rfl)) (wa_cons (we_var (i := 3) rfl (.inl rfl)) (wa_nil)))) (blkOk_by (own := [("day", 4)]) (N := N_p_given_days) (by kernel_rfl)) (by simp [Tg.ix]) (fun _ _ _ _ _ => pg_name (i := 4) nd rfl (.inl rfl)) (fun _ _ _ _ _ => wts_one (wt_cmp (op_notInB hr.units) z_inB (we_var (i := 4) rfl (.inl rfl)) (we_ix (we_ix (we_var (i := 0) rfl (.inr (.inl rfl))) (we_int)) (we_var (i := 1) rfl (.inr (.inl rfl)))) (by rfl))) (fun _ _ _ _ _ => we_var (i := 4) rfl (.inl rfl))) (wa_nil))))
theorem ok_f_law_deck (T : TxtB K mg) : FnG P w K mg T.base CX0 1 T.a_f_law_deck T.d_f_law_deck ["_law_script"] (spOf K S_f_law_deck) := by
  refine fn_ok T.F_f_law_deck sc_f_law_deck rfl (fun cdv A outer s H E hr hgd => ?_) vc_f_law_deck
  have nd := sc_f_law_deck.nd
  exact wb_cons (ws_set (i := 1) nd rfl (.inl rfl) (we_lst (m := true) (wa_nil))) (wb_cons (ws_set (i := 2) nd rfl (.inl rfl) (we_lst (m := true) (wa_cons (we_callX z_len (fun h => pe_callB (CallR.or call_len_seq call_len_str) (by rfl) T.n_len bb_len h) (wa_cons (we_var (i := 0) rfl (.inl rfl)) (wa_nil))) (wa_nil)))) (wb_cons (ws_for PassesOwn.never rfl (wi_seq (we_sl (m := false) (we_var (i := 0) rfl (.inl rfl)) wo_none (wo_some (we_int)))) (wg_name (i := 3) nd rfl (.inl rfl)) (wb_cons (ws_set (i := 3) nd rfl (.inl rfl) (we_callX z_abs (fun h => pe_callB call_abs (by rfl) T.n_abs bb_abs h) (wa_cons (we_var (i := 3) rfl (.inl rfl)) (wa_nil)))) (wb_cons (ws_expr (we_m PySem.F.slot_list_append PySem.F.type_list_append mt_append z_append (we_var (i := 2) rfl (.inl rfl)) (wa_cons (we_op op_mod z_mod (we_var (i := 3) rfl (.inl rfl)) (we_int)) (wa_nil)) (fun h1 h2 => pe_bm PySem.F.plainAttrs_list PySem.F.slot_list_append PySem.F.type_list_append mt_append h1 h2))) (wb_one (ws_while PassesOwn.never ((ww_and (wt_cmp (op_geD hr.units0) z_ge (we_var (i := 3) rfl (.inl rfl)) (we_op op_pow z_pow (we_int) (we_int)) ((nomark _))) (ww_and1 (wt_cmp (op_ltD hr.units0) z_lt (we_callX z_len (fun h => pe_callB (CallR.or call_len_seq call_len_str) (by rfl) T.n_len bb_len h) (wa_cons (we_var (i := 1) rfl (.inl rfl)) (wa_nil))) (we_int) ((nomark _))))).wt) (wb_cons (ws_expr (we_m PySem.F.slot_list_append PySem.F.type_list_append mt_append z_append (we_var (i := 1) rfl (.inl rfl)) (wa_cons (we_op op_mod z_mod (we_var (i := 3) rfl (.inl rfl)) (we_int)) (wa_nil)) (fun h1 h2 => pe_bm PySem.F.plainAttrs_list PySem.F.slot_list_append PySem.F.type_list_append mt_append h1 h2))) (wb_one (ws_set (i := 3) nd rfl (.inl rfl) (we_op op_fdivW z_fdiv (we_var (i := 3) rfl (.inl rfl)) (we_int)))))))))) (wb_one (ws_ret (we_lst (m := true) (wa_cons (we_var (i := 1) rfl (.inl rfl)) (wa_cons (we_var (i := 2) rfl (.inl rfl)) (wa_cons (we_int) (wa_nil)))))))))
theorem ok_f_law_next (T : TxtB K mg) : FnG P w K mg T.base CX0 1 T.a_f_law_next T.d_f_law_next ["_law_deck_here"] (spOf K S_f_law_next) := by
  refine fn_ok T.F_f_law_next sc_f_law_next rfl (fun cdv A outer s H E hr hgd => ?_) vc_f_law_next
  have nd := sc_f_law_next.nd
  exact wb_cons (ws_if (wt_cmp (op_neC hr.units) z_eqB (we_ix (we_var (i := 0) rfl (.inl rfl)) (we_int)) (we_lst (m := false) (wa_nil)) ((nomark _))) (wb_one (ws_ret (we_m PySem.F.slot_list_pop PySem.F.type_list_pop mt_popAt z_popAt (we_ix (we_var (i := 0) rfl (.inl rfl)) (we_int)) (wa_cons (we_int) (wa_nil)) (fun h1 h2 => pe_bm PySem.F.plainAttrs_list PySem.F.slot_list_pop PySem.F.type_list_pop mt_popAt h1 h2)))) (wb_nil)) (wb_cons (ws_set (i := 1) nd rfl (.inl rfl) (we_ix (we_var (i := 0) rfl (.inl rfl)) (we_int))) (wb_cons (ws_asg (we_op op_addD z_add (we_var (i := 1) rfl (.inl rfl)) (we_int)) (wg_sub (we_var (i := 0) rfl (.inl rfl)) (we_int))) (wb_cons (ws_set (i := 2) nd rfl (.inl rfl) (we_tup (wa_cons (we_int) (wa_cons (we_int) (wa_cons (we_int) (wa_cons (we_int) (wa_cons (we_int) (wa_cons (we_int) (wa_cons (we_int) (wa_cons (we_int) (wa_cons (we_int) (wa_cons (we_int) (wa_cons (we_int) (wa_cons (we_int) (wa_nil))))))))))))))) (wb_cons (ws_set (i := 3) nd rfl (.inl rfl) (we_op op_addD z_add (we_ix (we_ix (we_var (i := 0) rfl (.inl rfl)) (we_int)) (we_op op_mod z_mod (we_op op_addD z_add (we_var (i := 1) rfl (.inl rfl)) (we_int)) (we_callX z_len (fun h => pe_callB (CallR.or call_len_seq call_len_str) (by rfl) T.n_len bb_len h) (wa_cons (we_ix (we_var (i := 0) rfl (.inl rfl)) (we_int)) (wa_nil))))) (we_op op_mulD z_mul (we_int) (we_var (i := 1) rfl (.inl rfl))))) (wb_cons (ws_set (i := 4) nd rfl (.inl rfl) (we_op op_mod z_mod (we_op op_pow z_pow (we_op op_addD z_add (we_var (i := 3) rfl (.inl rfl)) (we_op op_mulD z_mul (we_ix (we_var (i := 2) rfl (.inl rfl)) (we_op op_mod z_mod (we_var (i := 1) rfl (.inl rfl)) (we_int))) (we_op op_addD z_add (we_var (i := 1) rfl (.inl rfl)) (we_int)))) (we_int)) (we_int))) (wb_one (ws_ret (we_op op_mod z_mod (we_op op_addD z_add (we_var (i := 4) rfl (.inl rfl)) (we_op op_mulD z_mul (we_ix (we_var (i := 2) rfl (.inl rfl)) (we_op op_mod z_mod (we_op op_addD z_add (we_var (i := 1) rfl (.inl rfl)) (we_int)) (we_int))) (we_var (i := 3) rfl (.inl rfl)))) (we_int)))))))))
theorem ok_f_law_put (T : TxtB K mg) : FnG P w K mg T.base CX0 1 T.a_f_law_put T.d_f_law_put ["_law_row", "_law_at", "_law_thing"] (spOf K S_f_law_put) := by
  refine fn_ok T.F_f_law_put sc_f_law_put rfl (fun cdv A outer s H E hr hgd => ?_) vc_f_law_put
  have nd := sc_f_law_put.nd
  exact wb_one (ws_ret (we_op op_addD z_add (we_op op_addD z_add (we_sl (m := false) (we_var (i := 0) rfl (.inl rfl)) wo_none (wo_some (we_var (i := 1) rfl (.inl rfl)))) (we_tup (wa_cons (we_var (i := 2) rfl (.inl rfl)) (wa_nil)))) (we_sl (m := false) (we_var (i := 0) rfl (.inl rfl)) (wo_some (we_op op_addD z_add (we_var (i := 1) rfl (.inl rfl)) (we_int))) wo_none)))
theorem ok_f_law_ways (T : TxtB K mg) : FnG P w K mg T.base CX0 1 T.a_f_law_ways T.d_f_law_ways ["_law_system", "_law_work"] (spOf K S_f_law_ways) := by
  refine fn_okP T.F_f_law_ways sc_f_law_ways rfl (fun cdv A outer s H E hr hgd => ?_) vc_f_law_ways
  have nd := sc_f_law_ways.nd
  exact wb_cons (ws_asg (we_sl (m := false) (we_var (i := 0) rfl (.inl rfl)) wo_none (wo_some (we_int))) (wg_tup rfl (wgs_cons (wg_name (i := 2) nd rfl (.inl rfl)) (wgs_cons (wg_name (i := 3) nd rfl (.inl rfl)) (wgs_cons (wg_name (i := 4) nd rfl (.inl rfl)) (wgs_nil)))))) (wb_cons (ws_asg (we_ix (we_var (i := 4) rfl (.inl rfl)) (we_var (i := 1) rfl (.inl rfl))) (wg_tup rfl (wgs_cons (wg_name (i := 5) nd rfl (.inr rfl)) (wgs_cons (wg_name (i := 6) nd rfl (.inl rfl)) (wgs_cons (wg_name (i := 7) nd rfl (.inl rfl)) (wgs_nil)))))) (wb_cons (ws_set (i := 8) nd rfl (.inl rfl) (we_lst (m := true) (wa_nil))) (wb_cons (ws_for PassesOwn.never rfl (wi_range1 (by rfl) T.n_range (wa_cons (we_op op_addD z_add (we_op op_sub z_sub (we_var (i := 2) rfl (.inl rfl)) (we_var (i := 5) rfl (.inr (.inl rfl)))) (we_int)) (wa_nil))) (wg_name (i := 9) nd rfl (.inr rfl)) (wb_one (ws_for PassesOwn.never rfl (wi_seq (we_var (i := 7) rfl (.inl rfl))) (wg_name (i := 10) nd rfl (.inl rfl)) (wb_one (ws_if (wt_cmp (op_eqC hr.units) z_eqB (we_lc (m := false) (t := (.nm 11)) (own := [("_law_day", 11)]) rfl nd (wi_seq (we_ix (we_var (i := 3) rfl (.inl rfl)) (we_var (i := 10) rfl (.inl rfl)))) (blkOk_by (own := [("_law_day", 11)]) (N := N_f_law_ways) (by kernel_rfl)) (by simp [Tg.ix]) (fun _ _ _ _ _ => pg_name (i := 11) nd rfl (.inl rfl)) (fun _ _ _ _ _ => wts_one (wt_chain (op_leD hr.units0) z_le (op_ltD hr.units0) z_lt (we_var (i := 9) rfl (.inr (.inl rfl))) (we_var (i := 11) rfl (.inl rfl)) (we_op op_addD z_add (we_var (i := 9) rfl (.inr (.inl rfl))) (we_var (i := 5) rfl (.inr (.inl rfl)))))) (fun _ _ _ _ _ => we_var (i := 11) rfl (.inl rfl))) (we_lst (m := false) (wa_nil)) ((nomark _))) (wb_one (ws_expr (we_m PySem.F.slot_list_append PySem.F.type_list_append mt_append z_append (we_var (i := 8) rfl (.inl rfl)) (wa_cons (we_tup (wa_cons (we_var (i := 9) rfl (.inr (.inl rfl))) (wa_cons (we_var (i := 10) rfl (.inl rfl)) (wa_nil)))) (wa_nil)) (fun h1 h2 => pe_bm PySem.F.plainAttrs_list PySem.F.slot_list_append PySem.F.type_list_append mt_append h1 h2)))) (wb_nil)))))) (wb_one (ws_ret (we_callX z_tuple (fun h => pe_callTy call_tupleX (by rfl) T.n_tuple bb_tuple h) (wa_cons (we_var (i := 8) rfl (.inl rfl)) (wa_nil))))))))
theorem ok_f_law_clash (T : TxtB K mg) : FnG P w K mg T.base CX0 1 T.a_f_law_clash T.d_f_law_clash ["_law_system", "_law_one", "_law_way", "_law_other", "_law_other_way"] (spOf K S_f_law_clash) := by
  refine fn_ok T.F_f_law_clash sc_f_law_clash rfl (fun cdv A outer s H E hr hgd => ?_) vc_f_law_clash
  have nd := sc_f_law_clash.nd
  exact wb_cons (ws_set (i := 5) nd rfl (.inl rfl) (we_op op_addD z_add (we_ix (we_var (i := 2) rfl (.inl rfl)) (we_int)) (we_ix (we_ix (we_ix (we_var (i := 0) rfl (.inl rfl)) (we_int)) (we_var (i := 1) rfl (.inl rfl))) (we_int)))) (wb_cons (ws_set (i := 6) nd rfl (.inl rfl) (we_op op_addD z_add (we_ix (we_var (i := 4) rfl (.inl rfl)) (we_int)) (we_ix (we_ix (we_ix (we_var (i := 0) rfl (.inl rfl)) (we_int)) (we_var (i := 3) rfl (.inl rfl))) (we_int)))) (wb_cons (ws_if ((ww_and (wt_cmp (op_eqC hr.units) z_eqB (we_ix (we_var (i := 2) rfl (.inl rfl)) (we_int)) (we_ix (we_var (i := 4) rfl (.inl rfl)) (we_int)) ((nomark _))) (ww_and (wt_cmp (op_ltD hr.units0) z_lt (we_ix (we_var (i := 2) rfl (.inl rfl)) (we_int)) (we_var (i := 6) rfl (.inl rfl)) ((nomark _))) (ww_and1 (wt_cmp (op_ltD hr.units0) z_lt (we_ix (we_var (i := 4) rfl (.inl rfl)) (we_int)) (we_var (i := 5) rfl (.inl rfl)) ((nomark _)))))).wt) (wb_one (ws_ret (we_bl))) (wb_nil)) (wb_cons (ws_if ((ww_and (wt_cmp (op_inB hr.units) z_inB (we_var (i := 1) rfl (.inl rfl)) (we_ix (we_ix (we_ix (we_var (i := 0) rfl (.inl rfl)) (we_int)) (we_var (i := 3) rfl (.inl rfl))) (we_int)) (by rfl)) (ww_and1 (wt_cmp (op_ltD hr.units0) z_lt (we_ix (we_var (i := 4) rfl (.inl rfl)) (we_int)) (we_var (i := 5) rfl (.inl rfl)) ((nomark _))))).wt) (wb_one (ws_ret (we_bl))) (wb_nil)) (wb_one (ws_ret (we_and (we_cmp (op_inB hr.units) z_inB (we_var (i := 3) rfl (.inl rfl)) (we_ix (we_ix (we_ix (we_var (i := 0) rfl (.inl rfl)) (we_int)) (we_var (i := 1) rfl (.inl rfl))) (we_int)) (by rfl)) (we_one (we_cmp (op_ltD hr.units0) z_lt (we_ix (we_var (i := 2) rfl (.inl rfl)) (we_int)) (we_var (i := 6) rfl (.inl rfl)) ((nomark _))))))))))
theorem ok_f_law_kept (T : TxtB K mg) : FnG P w K mg T.base CX0 1 T.a_f_law_kept T.d_f_law_kept ["_law_system", "_law_wish", "_law_way"] (spOf K S_f_law_kept) := by
  refine fn_ok T.F_f_law_kept sc_f_law_kept rfl (fun cdv A outer s H E hr hgd => ?_) vc_f_law_kept
  have nd := sc_f_law_kept.nd
  exact wb_cons (ws_if (wt_cmp (op_eqC hr.units) z_eqB (we_ix (we_var (i := 1) rfl (.inl rfl)) (we_int)) (we_int) ((nomark _))) (wb_one (ws_ret (we_cmp (op_geD hr.units0) z_ge (we_ix (we_var (i := 2) rfl (.inl rfl)) (we_int)) (we_ix (we_var (i := 1) rfl (.inl rfl)) (we_int)) ((nomark _))))) (wb_nil)) (wb_one (ws_ret (we_cmp (op_leD hr.units0) z_le (we_op op_addD z_add (we_ix (we_var (i := 2) rfl (.inl rfl)) (we_int)) (we_ix (we_ix (we_ix (we_var (i := 0) rfl (.inl rfl)) (we_int)) (we_ix (we_var (i := 1) rfl (.inl rfl)) (we_int))) (we_int))) (we_ix (we_var (i := 1) rfl (.inl rfl)) (we_int)) ((nomark _)))))
theorem ok_f_law_ends (T : TxtB K mg) : FnG P w K mg T.base CX0 1 T.a_f_law_ends T.d_f_law_ends ["_law_system", "_law_plan"] (spOf K S_f_law_ends) := by
  refine fn_ok T.F_f_law_ends sc_f_law_ends rfl (fun cdv A outer s H E hr hgd => ?_) vc_f_law_ends
  have nd := sc_f_law_ends.nd
  exact wb_one (ws_ret (we_callX z_sum (fun h => pe_callB (cr_sum rfl) (by rfl) T.n_sum bb_sum h) (wa_cons (we_lc (m := false) (t := (.tp [2, 3])) (own := [("_law_way", 2), ("_law_work", 3)]) rfl nd (wi_zip (by rfl) T.n_zip (we_var (i := 1) rfl (.inl rfl)) (we_ix (we_var (i := 0) rfl (.inl rfl)) (we_int))) (blkOk_by (own := [("_law_way", 2), ("_law_work", 3)]) (N := N_f_law_ends) (by kernel_rfl)) (by simp [Tg.ix]) (fun _ _ _ _ _ => pg_tup rfl (pgs_cons (pg_name (i := 2) nd rfl (.inl rfl)) (pgs_cons (pg_name (i := 3) nd rfl (.inl rfl)) (pgs_nil)))) (fun _ _ _ _ _ => wts_nil) (fun _ _ _ _ _ => we_op op_addD z_add (we_ix (we_var (i := 2) rfl (.inl rfl)) (we_int)) (we_ix (we_var (i := 3) rfl (.inl rfl)) (we_int)))) (wa_nil))))
theorem ok_f_law_row_of (T : TxtB K mg) : FnG P w K mg T.base CX0 1 T.a_f_law_row_of T.d_f_law_row_of ["_law_calm", "_law_others", "_law_weights_here", "_law_ends_here"] (spOf K S_f_law_row_of) := by
  refine fn_ok T.F_f_law_row_of sc_f_law_row_of rfl (fun cdv A outer s H E hr hgd => ?_) vc_f_law_row_of
  have nd := sc_f_law_row_of.nd
  exact wb_cons (ws_if (wt_val (we_var (i := 0) rfl (.inl rfl))) (wb_one (ws_ret (we_op op_addD z_add (we_op op_addD z_add (we_tup (wa_cons (we_op op_sub z_sub (we_int) (we_var (i := 1) rfl (.inl rfl))) (wa_nil))) (we_var (i := 2) rfl (.inl rfl))) (we_tup (wa_cons (we_op op_sub z_sub (we_int) (we_var (i := 3) rfl (.inl rfl))) (wa_nil)))))) (wb_nil)) (wb_one (ws_ret (we_op op_addD z_add (we_var (i := 2) rfl (.inl rfl)) (we_tup (wa_cons (we_op op_sub z_sub (we_int) (we_var (i := 3) rfl (.inl rfl))) (wa_cons (we_op op_sub z_sub (we_int) (we_var (i := 1) rfl (.inl rfl))) (wa_nil)))))))
theorem ok_f_law_moved (T : TxtB K mg) : FnG P w K mg T.base CX0 1 T.a_f_law_moved T.d_f_law_moved ["_law_plan", "_law_old"] (spOf K S_f_law_moved) := by
  refine fn_ok T.F_f_law_moved sc_f_law_moved rfl (fun cdv A outer s H E hr hgd => ?_) vc_f_law_moved
  have nd := sc_f_law_moved.nd
  exact wb_one (ws_ret (we_callX z_len (fun h => pe_callB (CallR.or call_len_seq call_len_str) (by rfl) T.n_len bb_len h) (wa_cons (we_lc (m := false) (t := (.tp [2, 3])) (own := [("_law_way", 2), ("_law_pair", 3)]) rfl nd (wi_zip (by rfl) T.n_zip (we_var (i := 0) rfl (.inl rfl)) (we_var (i := 1) rfl (.inl rfl))) (blkOk_by (own := [("_law_way", 2), ("_law_pair", 3)]) (N := N_f_law_moved) (by kernel_rfl)) (by simp [Tg.ix]) (fun _ _ _ _ _ => pg_tup rfl (pgs_cons (pg_name (i := 2) nd rfl (.inl rfl)) (pgs_cons (pg_name (i := 3) nd rfl (.inl rfl)) (pgs_nil)))) (fun _ _ _ _ _ => wts_one ((ww_and (wt_cmp (op_notN) (z_isN (f := fun b => !b)) (we_var (i := 3) rfl (.inl rfl)) (we_non) ((nomark _))) (ww_and1 (wt_cmp (op_neC hr.units) z_eqB (we_var (i := 3) rfl (.inl rfl)) (we_var (i := 2) rfl (.inl rfl)) ((nomark _))))).wt)) (fun _ _ _ _ _ => we_int)) (wa_nil))))
theorem ok_f_law_full (T : TxtB K mg) : FnG P w K mg T.base CX0 1 T.a_f_law_full T.d_f_law_full ["_law_system", "_law_field", "_law_first", "_law_last"] (spOf K S_f_law_full) := by
  refine fn_ok T.F_f_law_full sc_f_law_full rfl (fun cdv A outer s H E hr hgd => ?_) vc_f_law_full
  have nd := sc_f_law_full.nd
  exact wb_cons (ws_set (i := 4) nd rfl (.inl rfl) (we_int)) (wb_cons (ws_set (i := 5) nd rfl (.inl rfl) (we_lst (m := false) (wa_nil))) (wb_cons (ws_for PassesOwn.never rfl (wi_enum (by rfl) T.n_enumerate (we_var (i := 1) rfl (.inl rfl))) (wg_tup rfl (wgs_cons (wg_name (i := 6) nd rfl (.inl rfl)) (wgs_cons (wg_name (i := 7) nd rfl (.inl rfl)) (wgs_nil)))) (wb_cons (ws_set (i := 8) nd rfl (.inr rfl) (we_ix (we_ix (we_ix (we_var (i := 0) rfl (.inl rfl)) (we_int)) (we_var (i := 6) rfl (.inl rfl))) (we_int))) (wb_one (ws_if (wt_cmp (op_eqC hr.units) z_eqB (we_lc (m := false) (t := (.nm 12)) (own := [("_law_way", 12)]) rfl nd (wi_seq (we_var (i := 7) rfl (.inl rfl))) (blkOk_by (own := [("_law_way", 12)]) (N := N_f_law_full) (by kernel_rfl)) (by simp [Tg.ix]) (fun _ _ _ _ _ => pg_name (i := 12) nd rfl (.inl rfl)) (fun _ _ _ _ _ => wts_one ((ww_or (wt_cmp (op_ltD hr.units0) z_lt (we_ix (we_var (i := 12) rfl (.inl rfl)) (we_int)) (we_var (i := 2) rfl (.inr (.inl rfl))) ((nomark _))) (ww_or1 (wt_cmp (op_gtD hr.units0) z_gt (we_op op_addD z_add (we_ix (we_var (i := 12) rfl (.inl rfl)) (we_int)) (we_var (i := 8) rfl (.inr (.inl rfl)))) (we_var (i := 3) rfl (.inr (.inl rfl))) ((nomark _))))).wt)) (fun _ _ _ _ _ => we_var (i := 12) rfl (.inl rfl))) (we_lst (m := false) (wa_nil)) ((nomark _))) (wb_cons (ws_set (i := 4) nd rfl (.inl rfl) (we_op op_addD z_add (we_var (i := 4) rfl (.inl rfl)) (we_var (i := 8) rfl (.inr (.inl rfl))))) (wb_one (ws_set (i := 5) nd rfl (.inl rfl) (we_op op_addD z_add (we_var (i := 5) rfl (.inl rfl)) (we_lc (m := false) (t := (.nm 12)) (own := [("_law_way", 12)]) rfl nd (wi_seq (we_var (i := 7) rfl (.inl rfl))) (blkOk_by (own := [("_law_way", 12)]) (N := N_f_law_full) (by kernel_rfl)) (by simp [Tg.ix]) (fun _ _ _ _ _ => pg_name (i := 12) nd rfl (.inl rfl)) (fun _ _ _ _ _ => wts_nil) (fun _ _ _ _ _ => we_ix (we_var (i := 12) rfl (.inl rfl)) (we_int))))))) (wb_nil))))) (wb_cons (ws_set (i := 9) nd rfl (.inl rfl) (we_int)) (wb_cons (ws_for PassesOwn.never rfl (wi_enum (by rfl) T.n_enumerate (we_ix (we_var (i := 0) rfl (.inl rfl)) (we_int))) (wg_tup rfl (wgs_cons (wg_name (i := 10) nd rfl (.inl rfl)) (wgs_cons (wg_name (i := 11) nd rfl (.inr rfl)) (wgs_nil)))) (wb_one (ws_if (wt_cmp (op_inB hr.units) z_inB (we_var (i := 10) rfl (.inl rfl)) (we_var (i := 5) rfl (.inl rfl)) (by rfl)) (wb_one (ws_set (i := 9) nd rfl (.inl rfl) (we_op op_addD z_add (we_var (i := 9) rfl (.inl rfl)) (we_callX z_len (fun h => pe_callB (CallR.or call_len_seq call_len_str) (by rfl) T.n_len bb_len h) (wa_cons (we_lc (m := false) (t := (.nm 13)) (own := [("_law_day", 13)]) rfl nd (wi_range2 (by rfl) T.n_range (wa_cons (we_var (i := 2) rfl (.inr (.inl rfl))) (wa_cons (we_var (i := 3) rfl (.inr (.inl rfl))) (wa_nil)))) (blkOk_by (own := [("_law_day", 13)]) (N := N_f_law_full) (by kernel_rfl)) (by simp [Tg.ix]) (fun _ _ _ _ _ => pg_name (i := 13) nd rfl (.inl rfl)) (fun _ _ _ _ _ => wts_one (wt_cmp (op_notInB hr.units) z_inB (we_var (i := 13) rfl (.inl rfl)) (we_var (i := 11) rfl (.inr (.inl rfl))) (by rfl))) (fun _ _ _ _ _ => we_var (i := 13) rfl (.inl rfl))) (wa_nil)))))) (wb_nil)))) (wb_one (ws_ret (we_cmp (op_gtD hr.units0) z_gt (we_var (i := 4) rfl (.inl rfl)) (we_var (i := 9) rfl (.inl rfl)) ((nomark _)))))))))
theorem ok_p_is_from (T : TxtB K mg) : FnG P w K mg T.base CX0 2 T.a_p_is_from T.d_p_is_from ["thing", "low", "high"] (spOf K S_p_is_from) := by
  refine fn_ok T.F_p_is_from sc_p_is_from rfl (fun cdv A outer s H E hr hgd => ?_) vc_p_is_from
  have nd := sc_p_is_from.nd
  exact wb_one (ws_ret (we_and (we_call (ok_p_is_number T) (hr.mono (by decide)) hgd (by rfl) T.m_p_is_number T.F_p_is_number.kp T.b_p_is_number (wa_cons (we_var (i := 0) rfl (.inl rfl)) (wa_nil))) (we_one (we_chain (op_leD hr.units0) z_le (op_leD hr.units0) z_le (we_var (i := 1) rfl (.inl rfl)) (we_var (i := 0) rfl (.inl rfl)) (we_var (i := 2) rfl (.inl rfl))))))
theorem ok_p_is_behind (T : TxtB K mg) : FnG P w K mg T.base CX0 2 T.a_p_is_behind T.d_p_is_behind ["system", "one", "way", "other", "other_way"] (spOf K S_p_is_behind) := by
  refine fn_ok T.F_p_is_behind sc_p_is_behind rfl (fun cdv A outer s H E hr hgd => ?_) vc_p_is_behind
  have nd := sc_p_is_behind.nd
  exact wb_one (ws_ret (we_and (we_cmp (op_inB hr.units) z_inB (we_var (i := 1) rfl (.inl rfl)) (we_ix (we_ix (we_ix (we_var (i := 0) rfl (.inl rfl)) (we_int)) (we_var (i := 3) rfl (.inl rfl))) (we_int)) (by rfl)) (we_one (we_cmp (op_ltD hr.units0) z_lt (we_ix (we_var (i := 4) rfl (.inl rfl)) (we_int)) (we_call (ok_p_end_of T) (hr.mono (by decide)) hgd (by rfl) T.m_p_end_of T.F_p_end_of.kp T.b_p_end_of (wa_cons (we_var (i := 0) rfl (.inl rfl)) (wa_cons (we_var (i := 1) rfl (.inl rfl)) (wa_cons (we_var (i := 2) rfl (.inl rfl)) (wa_nil))))) ((nomark _))))))
theorem ok_p_is_kept (T : TxtB K mg) : FnG P w K mg T.base CX0 2 T.a_p_is_kept T.d_p_is_kept ["system", "wish", "way"] (spOf K S_p_is_kept) := by
  refine fn_ok T.F_p_is_kept sc_p_is_kept rfl (fun cdv A outer s H E hr hgd => ?_) vc_p_is_kept
  have nd := sc_p_is_kept.nd
  exact wb_cons (ws_asg (we_sl (m := false) (we_var (i := 1) rfl (.inl rfl)) wo_none (wo_some (we_int))) (wg_tup rfl (wgs_cons (wg_name (i := 3) nd rfl (.inl rfl)) (wgs_cons (wg_name (i := 4) nd rfl (.inl rfl)) (wgs_cons (wg_name (i := 5) nd rfl (.inl rfl)) (wgs_nil)))))) (wb_cons (ws_if (wt_cmp (op_eqC hr.units) z_eqB (we_var (i := 4) rfl (.inl rfl)) (we_int) ((nomark _))) (wb_one (ws_ret (we_cmp (op_geD hr.units0) z_ge (we_ix (we_var (i := 2) rfl (.inl rfl)) (we_int)) (we_var (i := 5) rfl (.inl rfl)) ((nomark _))))) (wb_nil)) (wb_one (ws_ret (we_cmp (op_leD hr.units0) z_le (we_call (ok_p_end_of T) (hr.mono (by decide)) hgd (by rfl) T.m_p_end_of T.F_p_end_of.kp T.b_p_end_of (wa_cons (we_var (i := 0) rfl (.inl rfl)) (wa_cons (we_var (i := 3) rfl (.inl rfl)) (wa_cons (we_var (i := 2) rfl (.inl rfl)) (wa_nil))))) (we_var (i := 5) rfl (.inl rfl)) ((nomark _))))))
theorem ok_p_hoped_ends (T : TxtB K mg) : FnG P w K mg T.base CX0 2 T.a_p_hoped_ends T.d_p_hoped_ends ["system", "field"] (spOf K S_p_hoped_ends) := by
  refine fn_ok T.F_p_hoped_ends sc_p_hoped_ends rfl (fun cdv A outer s H E hr hgd => ?_) vc_p_hoped_ends
  have nd := sc_p_hoped_ends.nd
  exact wb_one (ws_ret (we_callX z_sum (fun h => pe_callB (cr_sum rfl) (by rfl) T.n_sum bb_sum h) (wa_cons (we_lc (m := false) (t := (.tp [2, 3])) (own := [("work", 2), ("row", 3)]) rfl nd (wi_enum (by rfl) T.n_enumerate (we_var (i := 1) rfl (.inl rfl))) (blkOk_by (own := [("work", 2), ("row", 3)]) (N := N_p_hoped_ends) (by kernel_rfl)) (by simp [Tg.ix]) (fun _ _ _ _ _ => pg_tup rfl (pgs_cons (pg_name (i := 2) nd rfl (.inr rfl)) (pgs_cons (pg_name (i := 3) nd rfl (.inl rfl)) (pgs_nil)))) (fun _ _ _ _ _ => wts_nil) (fun _ _ _ _ _ => we_callX z_min1 (fun h => pe_callB (cr_min rfl) (by rfl) T.n_min bb_min h) (wa_cons (we_lc (m := false) (t := (.nm 4)) (own := [("way", 4)]) rfl nd (wi_seq (we_var (i := 3) rfl (.inl rfl))) (blkOk_by (own := [("way", 4)]) (N := N_p_hoped_ends) (by kernel_rfl)) (by simp [Tg.ix]) (fun _ _ _ _ _ => pg_name (i := 4) nd rfl (.inl rfl)) (fun _ _ _ _ _ => wts_nil) (fun _ _ _ _ _ => we_call (ok_p_end_of T) (hr.mono (by decide)) hgd (by rfl) T.m_p_end_of T.F_p_end_of.kp T.b_p_end_of (wa_cons (we_var (i := 0) rfl (.inr (.inl rfl))) (wa_cons (we_var (i := 2) rfl (.inr (.inl rfl))) (wa_cons (we_var (i := 4) rfl (.inl rfl)) (wa_nil)))))) (wa_nil)))) (wa_nil))))
theorem ok_p_is_within (T : TxtB K mg) : FnG P w K mg T.base CX0 2 T.a_p_is_within T.d_p_is_within ["system", "work", "row", "first", "last"] (spOf K S_p_is_within) := by
  refine fn_ok T.F_p_is_within sc_p_is_within rfl (fun cdv A outer s H E hr hgd => ?_) vc_p_is_within
  have nd := sc_p_is_within.nd
  exact wb_one (ws_ret (we_callX z_all (fun h => pe_callB (cr_all rfl) (by rfl) T.n_all bb_all h) (wa_cons (we_lc (m := false) (t := (.nm 5)) (own := [("way", 5)]) rfl nd (wi_seq (we_var (i := 2) rfl (.inl rfl))) (blkOk_by (own := [("way", 5)]) (N := N_p_is_within) (by kernel_rfl)) (by simp [Tg.ix]) (fun _ _ _ _ _ => pg_name (i := 5) nd rfl (.inl rfl)) (fun _ _ _ _ _ => wts_nil) (fun _ _ _ _ _ => we_and (we_cmp (op_leD hr.units0) z_le (we_var (i := 3) rfl (.inr (.inl rfl))) (we_ix (we_var (i := 5) rfl (.inl rfl)) (we_int)) ((nomark _))) (we_one (we_cmp (op_leD hr.units0) z_le (we_call (ok_p_end_of T) (hr.mono (by decide)) hgd (by rfl) T.m_p_end_of T.F_p_end_of.kp T.b_p_end_of (wa_cons (we_var (i := 0) rfl (.inr (.inl rfl))) (wa_cons (we_var (i := 1) rfl (.inr (.inl rfl))) (wa_cons (we_var (i := 5) rfl (.inl rfl)) (wa_nil))))) (we_var (i := 4) rfl (.inr (.inl rfl))) ((nomark _)))))) (wa_nil))))
theorem ok_f_law_goes (T : TxtB K mg) : FnG P w K mg T.base CX0 2 T.a_f_law_goes T.d_f_law_goes ["_law_system", "_law_ways_here", "_law_work", "_law_way"] (spOf K S_f_law_goes) := by
  refine fn_ok T.F_f_law_goes sc_f_law_goes rfl (fun cdv A outer s H E hr hgd => ?_) vc_f_law_goes
  have nd := sc_f_law_goes.nd
  exact wb_one (ws_ret (we_cmp (op_eqC hr.units) z_eqB (we_lc (m := false) (t := (.nm 4)) (own := [("_law_one", 4)]) rfl nd (wi_range1 (by rfl) T.n_range (wa_cons (we_callX z_len (fun h => pe_callB (CallR.or call_len_seq call_len_str) (by rfl) T.n_len bb_len h) (wa_cons (we_var (i := 1) rfl (.inr (.inl rfl))) (wa_nil))) (wa_nil))) (blkOk_by (own := [("_law_one", 4)]) (N := N_f_law_goes) (by kernel_rfl)) (by simp [Tg.ix]) (fun _ _ _ _ _ => pg_name (i := 4) nd rfl (.inl rfl)) (fun _ _ _ _ _ => wts_one (wt_val (we_call (ok_f_law_clash T) (hr.mono (by decide)) hgd (by rfl) T.m_f_law_clash T.F_f_law_clash.kp T.b_f_law_clash (wa_cons (we_var (i := 0) rfl (.inr (.inl rfl))) (wa_cons (we_var (i := 4) rfl (.inl rfl)) (wa_cons (we_ix (we_var (i := 1) rfl (.inr (.inl rfl))) (we_var (i := 4) rfl (.inl rfl))) (wa_cons (we_var (i := 2) rfl (.inr (.inl rfl))) (wa_cons (we_var (i := 3) rfl (.inr (.inl rfl))) (wa_nil))))))))) (fun _ _ _ _ _ => we_var (i := 4) rfl (.inl rfl))) (we_lst (m := false) (wa_nil)) ((nomark _))))
theorem ok_f_law_whole (T : TxtB K mg) : FnG P w K mg T.base CX0 2 T.a_f_law_whole T.d_f_law_whole ["_law_system"] (spOf K S_f_law_whole) := by
  refine fn_ok T.F_f_law_whole sc_f_law_whole rfl (fun cdv A outer s H E hr hgd => ?_) vc_f_law_whole
  have nd := sc_f_law_whole.nd
  exact wb_one (ws_ret (we_callX z_tuple (fun h => pe_callTy call_tupleX (by rfl) T.n_tuple bb_tuple h) (wa_cons (we_lc (m := false) (t := (.nm 1)) (own := [("_law_work", 1)]) rfl nd (wi_range1 (by rfl) T.n_range (wa_cons (we_callX z_len (fun h => pe_callB (CallR.or call_len_seq call_len_str) (by rfl) T.n_len bb_len h) (wa_cons (we_ix (we_var (i := 0) rfl (.inr (.inl rfl))) (we_int)) (wa_nil))) (wa_nil))) (blkOk_by (own := [("_law_work", 1)]) (N := N_f_law_whole) (by kernel_rfl)) (by simp [Tg.ix]) (fun _ _ _ _ _ => pg_name (i := 1) nd rfl (.inl rfl)) (fun _ _ _ _ _ => wts_nil) (fun _ _ _ _ _ => we_call (ok_f_law_ways T) (hr.mono (by decide)) hgd (by rfl) T.m_f_law_ways T.F_f_law_ways.kp T.b_f_law_ways (wa_cons (we_var (i := 0) rfl (.inr (.inl rfl))) (wa_cons (we_var (i := 1) rfl (.inl rfl)) (wa_nil))))) (wa_nil))))
theorem ok_f_law_weights (T : TxtB K mg) : FnG P w K mg T.base CX0 2 T.a_f_law_weights T.d_f_law_weights ["_law_system", "_law_plan"] (spOf K S_f_law_weights) := by
  refine fn_okP T.F_f_law_weights sc_f_law_weights rfl (fun cdv A outer s H E hr hgd => ?_) vc_f_law_weights
  have nd := sc_f_law_weights.nd
  exact wb_cons (ws_set (i := 2) nd rfl (.inl rfl) (we_lst (m := true) (wa_cons (we_int) (wa_cons (we_int) (wa_cons (we_int) (wa_cons (we_int) (wa_nil))))))) (wb_cons (ws_for PassesOwn.never rfl (wi_seq (we_ix (we_var (i := 0) rfl (.inl rfl)) (we_int))) (wg_name (i := 3) nd rfl (.inl rfl)) (wb_cons (ws_set (i := 4) nd rfl (.inl rfl) (we_op op_mulD z_mul (we_ix (we_var (i := 3) rfl (.inl rfl)) (we_int)) (we_callX z_int (fun h => pe_callTy call_int1 (by rfl) T.n_int bb_int h) (wa_cons (we_call (ok_f_law_kept T) (hr.mono (by decide)) hgd (by rfl) T.m_f_law_kept T.F_f_law_kept.kp T.b_f_law_kept (wa_cons (we_var (i := 0) rfl (.inl rfl)) (wa_cons (we_var (i := 3) rfl (.inl rfl)) (wa_cons (we_ix (we_var (i := 1) rfl (.inl rfl)) (we_ix (we_var (i := 3) rfl (.inl rfl)) (we_int))) (wa_nil))))) (wa_nil))))) (wb_one (ws_asg (we_op op_addD z_add (we_ix (we_var (i := 2) rfl (.inl rfl)) (we_ix (we_var (i := 3) rfl (.inl rfl)) (we_int))) (we_var (i := 4) rfl (.inl rfl))) (wg_sub (we_var (i := 2) rfl (.inl rfl)) (we_ix (we_var (i := 3) rfl (.inl rfl)) (we_int))))))) (wb_one (ws_ret (we_callX z_tuple (fun h => pe_callTy call_tupleX (by rfl) T.n_tuple bb_tuple h) (wa_cons (we_var (i := 2) rfl (.inl rfl)) (wa_nil))))))
theorem ok_f_law_hope (T : TxtB K mg) : FnG P w K mg T.base CX0 2 T.a_f_law_hope T.d_f_law_hope ["_law_system", "_law_field", "_law_aim"] (spOf K S_f_law_hope) := by
  refine fn_okP T.F_f_law_hope sc_f_law_hope rfl (fun cdv A outer s H E hr hgd => ?_) vc_f_law_hope
  have nd := sc_f_law_hope.nd
  exact wb_cons (ws_set (i := 3) nd rfl (.inl rfl) (we_callX z_len (fun h => pe_callB (CallR.or call_len_seq call_len_str) (by rfl) T.n_len bb_len h) (wa_cons (we_lc (m := false) (t := (.tp [7, 8])) (own := [("_law_row", 7), ("_law_pair", 8)]) rfl nd (wi_zip (by rfl) T.n_zip (we_var (i := 1) rfl (.inl rfl)) (we_ix (we_var (i := 2) rfl (.inl rfl)) (we_int))) (blkOk_by (own := [("_law_row", 7), ("_law_pair", 8)]) (N := N_f_law_hope) (by kernel_rfl)) (by simp [Tg.ix]) (fun _ _ _ _ _ => pg_tup rfl (pgs_cons (pg_name (i := 7) nd rfl (.inl rfl)) (pgs_cons (pg_name (i := 8) nd rfl (.inl rfl)) (pgs_nil)))) (fun _ _ _ _ _ => wts_one ((ww_and (wt_cmp (op_notN) (z_isN (f := fun b => !b)) (we_var (i := 8) rfl (.inl rfl)) (we_non) ((nomark _))) (ww_and1 (wt_cmp (op_notInB hr.units) z_inB (we_var (i := 8) rfl (.inl rfl)) (we_var (i := 7) rfl (.inl rfl)) (by rfl)))).wt)) (fun _ _ _ _ _ => we_int)) (wa_nil)))) (wb_cons (ws_set (i := 4) nd rfl (.inl rfl) (we_lst (m := true) (wa_cons (we_int) (wa_cons (we_int) (wa_cons (we_int) (wa_cons (we_int) (wa_nil))))))) (wb_cons (ws_for PassesOwn.never rfl (wi_seq (we_ix (we_var (i := 0) rfl (.inr (.inl rfl))) (we_int))) (wg_name (i := 5) nd rfl (.inr rfl)) (wb_one (ws_if (wt_cmp (op_neC hr.units) z_eqB (we_lc (m := false) (t := (.nm 9)) (own := [("_law_way", 9)]) rfl nd (wi_seq (we_ix (we_var (i := 1) rfl (.inl rfl)) (we_ix (we_var (i := 5) rfl (.inr (.inl rfl))) (we_int)))) (blkOk_by (own := [("_law_way", 9)]) (N := N_f_law_hope) (by kernel_rfl)) (by simp [Tg.ix]) (fun _ _ _ _ _ => pg_name (i := 9) nd rfl (.inl rfl)) (fun _ _ _ _ _ => wts_one (wt_val (we_call (ok_f_law_kept T) (hr.mono (by decide)) hgd (by rfl) T.m_f_law_kept T.F_f_law_kept.kp T.b_f_law_kept (wa_cons (we_var (i := 0) rfl (.inr (.inl rfl))) (wa_cons (we_var (i := 5) rfl (.inr (.inl rfl))) (wa_cons (we_var (i := 9) rfl (.inl rfl)) (wa_nil))))))) (fun _ _ _ _ _ => we_var (i := 9) rfl (.inl rfl))) (we_lst (m := false) (wa_nil)) ((nomark _))) (wb_one (ws_asg (we_op op_addD z_add (we_ix (we_var (i := 4) rfl (.inl rfl)) (we_ix (we_var (i := 5) rfl (.inr (.inl rfl))) (we_int))) (we_ix (we_var (i := 5) rfl (.inr (.inl rfl))) (we_int))) (wg_sub (we_var (i := 4) rfl (.inl rfl)) (we_ix (we_var (i := 5) rfl (.inr (.inl rfl))) (we_int))))) (wb_nil)))) (wb_cons (ws_set (i := 6) nd rfl (.inl rfl) (we_callX z_sum (fun h => pe_callB (cr_sum rfl) (by rfl) T.n_sum bb_sum h) (wa_cons (we_lc (m := false) (t := (.tp [7, 10])) (own := [("_law_row", 7), ("_law_work", 10)]) rfl nd (wi_zip (by rfl) T.n_zip (we_var (i := 1) rfl (.inl rfl)) (we_ix (we_var (i := 0) rfl (.inr (.inl rfl))) (we_int))) (blkOk_by (own := [("_law_row", 7), ("_law_work", 10)]) (N := N_f_law_hope) (by kernel_rfl)) (by simp [Tg.ix]) (fun _ _ _ _ _ => pg_tup rfl (pgs_cons (pg_name (i := 7) nd rfl (.inl rfl)) (pgs_cons (pg_name (i := 10) nd rfl (.inl rfl)) (pgs_nil)))) (fun _ _ _ _ _ => wts_nil) (fun _ _ _ _ _ => we_op op_addD z_add (we_callX z_min1 (fun h => pe_callB (cr_min rfl) (by rfl) T.n_min bb_min h) (wa_cons (we_lc (m := false) (t := (.nm 9)) (own := [("_law_way", 9)]) rfl nd (wi_seq (we_var (i := 7) rfl (.inl rfl))) (blkOk_by (own := [("_law_way", 9)]) (N := N_f_law_hope) (by kernel_rfl)) (by simp [Tg.ix]) (fun _ _ _ _ _ => pg_name (i := 9) nd rfl (.inl rfl)) (fun _ _ _ _ _ => wts_nil) (fun _ _ _ _ _ => we_ix (we_var (i := 9) rfl (.inl rfl)) (we_int))) (wa_nil))) (we_ix (we_var (i := 10) rfl (.inl rfl)) (we_int)))) (wa_nil)))) (wb_one (ws_ret (we_call (ok_f_law_row_of T) (hr.mono (by decide)) hgd (by rfl) T.m_f_law_row_of T.F_f_law_row_of.kp T.b_f_law_row_of (wa_cons (we_ix (we_var (i := 2) rfl (.inl rfl)) (we_int)) (wa_cons (we_var (i := 3) rfl (.inl rfl)) (wa_cons (we_callX z_tuple (fun h => pe_callTy call_tupleX (by rfl) T.n_tuple bb_tuple h) (wa_cons (we_var (i := 4) rfl (.inl rfl)) (wa_nil))) (wa_cons (we_var (i := 6) rfl (.inl rfl)) (wa_nil)))))))))))
theorem ok_f_law_some (T : TxtB K mg) : FnG P w K mg T.base CX0 2 T.a_f_law_some T.d_f_law_some ["_law_deck_here", "_law_field"] (spOf K S_f_law_some) := by
  refine fn_okP T.F_f_law_some sc_f_law_some rfl (fun cdv A outer s H E hr hgd => ?_) vc_f_law_some
  have nd := sc_f_law_some.nd
  exact wb_cons (ws_set (i := 2) nd rfl (.inr rfl) (we_op op_mod z_mod (we_call (ok_f_law_next T) (hr.mono (by decide)) hgd (by rfl) T.m_f_law_next T.F_f_law_next.kp T.b_f_law_next (wa_cons (we_var (i := 0) rfl (.inr (.inl rfl))) (wa_nil))) (we_int))) (wb_cons (ws_set (i := 3) nd rfl (.inl rfl) (we_lst (m := true) (wa_nil))) (wb_cons (ws_for PassesOwn.never rfl (wi_seq (we_var (i := 1) rfl (.inl rfl))) (wg_name (i := 4) nd rfl (.inr rfl)) (wb_cons (ws_setLc (m := false) (t := (.nm 6)) (i := 5) (own := [("_law_k", 6)]) rfl nd rfl rfl (sw_true rfl rfl rfl (by decide +kernel)) (wi_range1 (by rfl) T.n_range (wa_cons (we_callX z_len (fun h => pe_callB (CallR.or call_len_seq call_len_str) (by rfl) T.n_len bb_len h) (wa_cons (we_var (i := 4) rfl (.inr (.inl rfl))) (wa_nil))) (wa_nil))) (blkOk_by (own := [("_law_k", 6)]) (N := N_f_law_some) (by kernel_rfl)) (by simp [Tg.ix]) (fun _ _ _ _ _ => pg_name (i := 6) nd rfl (.inl rfl)) (fun _ _ _ _ _ => wts_one ((ww_or (wt_cmp (op_eqC hr.units) z_eqB (we_var (i := 2) rfl (.inr (.inl rfl))) (we_int) ((nomark _))) (ww_or1 (wt_cmp (op_gtD hr.units0) z_gt (we_op op_mod z_mod (we_call (ok_f_law_next T) (hr.mono (by decide)) hgd (by rfl) T.m_f_law_next T.F_f_law_next.kp T.b_f_law_next (wa_cons (we_var (i := 0) rfl (.inr (.inl rfl))) (wa_nil))) (we_ix (we_lst (m := false) (wa_cons (we_int) (wa_cons (we_int) (wa_cons (we_int) (wa_nil))))) (we_var (i := 2) rfl (.inr (.inl rfl))))) (we_int) ((nomark _))))).wt)) (fun _ _ _ _ _ => we_var (i := 6) rfl (.inl rfl))) (wb_one (ws_expr (we_m PySem.F.slot_list_append PySem.F.type_list_append mt_append z_append (we_var (i := 3) rfl (.inl rfl)) (wa_cons (we_callX z_tuple (fun h => pe_callTy call_tupleX (by rfl) T.n_tuple bb_tuple h) (wa_cons (we_lc (m := false) (t := (.nm 6)) (own := [("_law_k", 6)]) rfl nd (wi_seq (we_var (i := 5) rfl (.inl rfl))) (blkOk_by (own := [("_law_k", 6)]) (N := N_f_law_some) (by kernel_rfl)) (by simp [Tg.ix]) (fun _ _ _ _ _ => pg_name (i := 6) nd rfl (.inl rfl)) (fun _ _ _ _ _ => wts_nil) (fun _ _ _ _ _ => we_ix (we_var (i := 4) rfl (.inr (.inl rfl))) (we_var (i := 6) rfl (.inl rfl)))) (wa_nil))) (wa_nil)) (fun h1 h2 => pe_bm PySem.F.plainAttrs_list PySem.F.slot_list_append PySem.F.type_list_append mt_append h1 h2)))))) (wb_one (ws_ret (we_callX z_tuple (fun h => pe_callTy call_tupleX (by rfl) T.n_tuple bb_tuple h) (wa_cons (we_var (i := 3) rfl (.inl rfl)) (wa_nil)))))))
theorem ok_f_law_few (T : TxtB K mg) : FnG P w K mg T.base CX0 2 T.a_f_law_few T.d_f_law_few ["_law_deck_here", "_law_field", "_law_most"] (spOf K S_f_law_few) := by
  refine fn_ok T.F_f_law_few sc_f_law_few rfl (fun cdv A outer s H E hr hgd => ?_) vc_f_law_few
  have nd := sc_f_law_few.nd
  exact wb_one (ws_while PassesOwn.never (wt_val (we_bl)) (wb_cons (ws_setLc (m := false) (t := (.nm 8)) (i := 3) (own := [("_law_row", 8)]) rfl nd rfl rfl (sw_true rfl rfl rfl (by decide +kernel)) (wi_seq (we_var (i := 1) rfl (.inl rfl))) (blkOk_by (own := [("_law_row", 8)]) (N := N_f_law_few) (by kernel_rfl)) (by simp [Tg.ix]) (fun _ _ _ _ _ => pg_name (i := 8) nd rfl (.inl rfl)) (fun _ _ _ _ _ => wts_nil) (fun _ _ _ _ _ => we_callX z_max2 (fun h => pe_callB (call_max2 rfl) (by rfl) T.n_max bb_max h) (wa_cons (we_int) (wa_cons (we_callX z_len (fun h => pe_callB (CallR.or call_len_seq call_len_str) (by rfl) T.n_len bb_len h) (wa_cons (we_var (i := 8) rfl (.inl rfl)) (wa_nil))) (wa_nil))))) (wb_cons (ws_set (i := 4) nd rfl (.inl rfl) (we_int)) (wb_cons (ws_for PassesOwn.never rfl (wi_seq (we_var (i := 3) rfl (.inl rfl))) (wg_name (i := 5) nd rfl (.inl rfl)) (wb_one (ws_set (i := 4) nd rfl (.inl rfl) (we_op op_mulD z_mul (we_var (i := 4) rfl (.inl rfl)) (we_var (i := 5) rfl (.inl rfl)))))) (wb_cons (ws_if (wt_cmp (op_leD hr.units0) z_le (we_var (i := 4) rfl (.inl rfl)) (we_var (i := 2) rfl (.inl rfl)) ((nomark _))) (wb_one (ws_ret (we_var (i := 1) rfl (.inl rfl)))) (wb_nil)) (wb_cons (ws_set (i := 6) nd rfl (.inl rfl) (we_m PySem.F.slot_list_index PySem.F.type_list_index (mt_indexD (hu1 hr)) z_index (we_var (i := 3) rfl (.inl rfl)) (wa_cons (we_callX z_max1 (fun h => pe_callB (cr_max rfl) (by rfl) T.n_max bb_max h) (wa_cons (we_var (i := 3) rfl (.inl rfl)) (wa_nil))) (wa_nil)) (fun h1 h2 => pe_bm PySem.F.plainAttrs_list PySem.F.slot_list_index PySem.F.type_list_index (mt_indexD (hu1 hr)) h1 h2))) (wb_cons (ws_set (i := 7) nd rfl (.inl rfl) (we_op op_mod z_mod (we_call (ok_f_law_next T) (hr.mono (by decide)) hgd (by rfl) T.m_f_law_next T.F_f_law_next.kp T.b_f_law_next (wa_cons (we_var (i := 0) rfl (.inl rfl)) (wa_nil))) (we_ix (we_var (i := 3) rfl (.inl rfl)) (we_var (i := 6) rfl (.inl rfl))))) (wb_one (ws_set (i := 1) nd rfl (.inl rfl) (we_call (ok_f_law_put T) (hr.mono (by decide)) hgd (by rfl) T.m_f_law_put T.F_f_law_put.kp T.b_f_law_put (wa_cons (we_var (i := 1) rfl (.inl rfl)) (wa_cons (we_var (i := 6) rfl (.inl rfl)) (wa_cons (we_op op_addD z_add (we_sl (m := false) (we_ix (we_var (i := 1) rfl (.inl rfl)) (we_var (i := 6) rfl (.inl rfl))) wo_none (wo_some (we_var (i := 7) rfl (.inl rfl)))) (we_sl (m := false) (we_ix (we_var (i := 1) rfl (.inl rfl)) (we_var (i := 6) rfl (.inl rfl))) (wo_some (we_op op_addD z_add (we_var (i := 7) rfl (.inl rfl)) (we_int))) wo_none)) (wa_nil))))))))))))))
theorem ok_f_law_days (T : TxtB K mg) : FnG P w K mg T.base CX0 2 T.a_f_law_days T.d_f_law_days ["_law_deck_here", "_law_days_here", "_law_some_here"] (spOf K S_f_law_days) := by
  refine fn_ok T.F_f_law_days sc_f_law_days rfl (fun cdv A outer s H E hr hgd => ?_) vc_f_law_days
  have nd := sc_f_law_days.nd
  exact wb_one (ws_ret (we_callX z_tuple (fun h => pe_callTy call_tupleX (by rfl) T.n_tuple bb_tuple h) (wa_cons (we_lc (m := false) (t := (.nm 3)) (own := [("_law_day", 3)]) rfl nd (wi_range1 (by rfl) T.n_range (wa_cons (we_var (i := 1) rfl (.inl rfl)) (wa_nil))) (blkOk_by (own := [("_law_day", 3)]) (N := N_f_law_days) (by kernel_rfl)) (by simp [Tg.ix]) (fun _ _ _ _ _ => pg_name (i := 3) nd rfl (.inl rfl)) (fun _ _ _ _ _ => wts_one (wt_cmp (op_eqC hr.units) z_eqB (we_op op_mod z_mod (we_call (ok_f_law_next T) (hr.mono (by decide)) hgd (by rfl) T.m_f_law_next T.F_f_law_next.kp T.b_f_law_next (wa_cons (we_var (i := 0) rfl (.inr (.inl rfl))) (wa_nil))) (we_var (i := 2) rfl (.inr (.inl rfl)))) (we_int) ((nomark _)))) (fun _ _ _ _ _ => we_var (i := 3) rfl (.inl rfl))) (wa_nil))))
theorem ok_f_law_pairs (T : TxtB K mg) : FnG P w K mg T.base CX0 2 T.a_f_law_pairs T.d_f_law_pairs ["_law_deck_here", "_law_system"] (spOf K S_f_law_pairs) := by
  refine fn_okP T.F_f_law_pairs sc_f_law_pairs rfl (fun cdv A outer s H E hr hgd => ?_) vc_f_law_pairs
  have nd := sc_f_law_pairs.nd
  exact wb_cons (ws_set (i := 2) nd rfl (.inl rfl) (we_lst (m := true) (wa_nil))) (wb_cons (ws_for PassesOwn.never rfl (wi_range1 (by rfl) T.n_range (wa_cons (we_callX z_len (fun h => pe_callB (CallR.or call_len_seq call_len_str) (by rfl) T.n_len bb_len h) (wa_cons (we_ix (we_var (i := 1) rfl (.inl rfl)) (we_int)) (wa_nil))) (wa_nil))) (wg_name (i := 3) nd rfl (.inl rfl)) (wb_cons (ws_set (i := 4) nd rfl (.inl rfl) (we_op op_addD z_add (we_call (ok_f_law_ways T) (hr.mono (by decide)) hgd (by rfl) T.m_f_law_ways T.F_f_law_ways.kp T.b_f_law_ways (wa_cons (we_var (i := 1) rfl (.inl rfl)) (wa_cons (we_var (i := 3) rfl (.inl rfl)) (wa_nil)))) (we_tup (wa_cons (we_tup (wa_cons (we_int) (wa_cons (we_int) (wa_nil)))) (wa_cons (we_tup (wa_cons (we_int) (wa_cons (we_int) (wa_nil)))) (wa_nil)))))) (wb_cons (ws_set (i := 5) nd rfl (.inl rfl) (we_call (ok_f_law_next T) (hr.mono (by decide)) hgd (by rfl) T.m_f_law_next T.F_f_law_next.kp T.b_f_law_next (wa_cons (we_var (i := 0) rfl (.inl rfl)) (wa_nil)))) (wb_one (ws_expr (we_m PySem.F.slot_list_append PySem.F.type_list_append mt_append z_append (we_var (i := 2) rfl (.inl rfl)) (wa_cons (we_ix (we_lst (m := false) (wa_cons (we_non) (wa_cons (we_ix (we_var (i := 4) rfl (.inl rfl)) (we_op op_mod z_mod (we_op op_fdivW z_fdiv (we_var (i := 5) rfl (.inl rfl)) (we_int)) (we_callX z_len (fun h => pe_callB (CallR.or call_len_seq call_len_str) (by rfl) T.n_len bb_len h) (wa_cons (we_var (i := 4) rfl (.inl rfl)) (wa_nil))))) (wa_nil)))) (we_callX z_int (fun h => pe_callTy call_int1 (by rfl) T.n_int bb_int h) (wa_cons (we_cmp (op_gtD hr.units0) z_gt (we_op op_mod z_mod (we_var (i := 5) rfl (.inl rfl)) (we_int)) (we_int) ((nomark _))) (wa_nil)))) (wa_nil)) (fun h1 h2 => pe_bm PySem.F.plainAttrs_list PySem.F.slot_list_append PySem.F.type_list_append mt_append h1 h2))))))) (wb_one (ws_ret (we_callX z_tuple (fun h => pe_callTy call_tupleX (by rfl) T.n_tuple bb_tuple h) (wa_cons (we_var (i := 2) rfl (.inl rfl)) (wa_nil))))))
theorem ok_f_law_bent_node (T : TxtB K mg) : FnG P w K mg T.base CX0 2 T.a_f_law_bent_node T.d_f_law_bent_node ["_law_number", "_law_node", "_law_size", "_law_days_here", "_law_works"] (spOf K S_f_law_bent_node) := by
  refine fn_ok T.F_f_law_bent_node sc_f_law_bent_node rfl (fun cdv A outer s H E hr hgd => ?_) vc_f_law_bent_node
  have nd := sc_f_law_bent_node.nd
  exact wb_cons (ws_set (i := 5) nd rfl (.inl rfl) (we_op op_sub z_sub (we_op op_mod z_mod (we_op op_fdivW z_fdiv (we_var (i := 0) rfl (.inl rfl)) (we_int)) (we_int)) (we_int))) (wb_cons (ws_set (i := 6) nd rfl (.inl rfl) (we_lst (m := false) (wa_cons (we_tup (wa_cons (we_int) (wa_cons (we_var (i := 5) rfl (.inl rfl)) (wa_cons (we_tup (wa_nil)) (wa_nil))))) (wa_cons (we_tup (wa_cons (we_int) (wa_cons (we_var (i := 5) rfl (.inl rfl)) (wa_cons (we_op op_sub z_sub (we_op op_mod z_mod (we_op op_fdivW z_fdiv (we_var (i := 0) rfl (.inl rfl)) (we_int)) (we_int)) (we_int)) (wa_nil))))) (wa_cons (we_tup (wa_cons (we_int) (wa_cons (we_var (i := 5) rfl (.inl rfl)) (wa_cons (we_op op_addD z_add (we_op op_addD z_add (we_var (i := 5) rfl (.inl rfl)) (we_int)) (we_op op_mod z_mod (we_op op_fdivW z_fdiv (we_var (i := 0) rfl (.inl rfl)) (we_int)) (we_int))) (wa_nil))))) (wa_cons (we_tup (wa_cons (we_int) (wa_nil))) (wa_nil))))))) (wb_cons (ws_set (i := 6) nd rfl (.inl rfl) (we_op op_addD z_add (we_var (i := 6) rfl (.inl rfl)) (we_lst (m := false) (wa_cons (we_tup (wa_cons (we_int) (wa_cons (we_int) (wa_cons (we_var (i := 3) rfl (.inl rfl)) (wa_nil))))) (wa_cons (we_op op_addD z_add (we_var (i := 1) rfl (.inl rfl)) (we_tup (wa_cons (we_int) (wa_nil)))) (wa_cons (we_sl (m := false) (we_var (i := 1) rfl (.inl rfl)) wo_none (wo_some (we_neg (we_int)))) (wa_cons (we_callX (z_list (m := false)) (fun h => pe_callTy call_list_of (by rfl) T.n_list bb_list h) (wa_cons (we_var (i := 1) rfl (.inl rfl)) (wa_nil))) (wa_cons (we_tup (wa_nil)) (wa_cons (we_non) (wa_cons (we_tup (wa_cons (we_int) (wa_nil))) (wa_cons (we_tup (wa_cons (we_neg (we_int)) (wa_nil))) (wa_cons (we_op op_addD z_add (we_tup (wa_cons (we_bl) (wa_nil))) (we_sl (m := false) (we_var (i := 1) rfl (.inl rfl)) (wo_some (we_int)) wo_none)) (wa_nil))))))))))))) (wb_cons (ws_set (i := 6) nd rfl (.inl rfl) (we_op op_addD z_add (we_var (i := 6) rfl (.inl rfl)) (we_lst (m := false) (wa_cons (we_tup (wa_cons (we_int) (wa_cons (we_int) (wa_nil)))) (wa_cons (we_tup (wa_cons (we_int) (wa_cons (we_bl) (wa_cons (we_int) (wa_nil))))) (wa_cons (we_tup (wa_cons (we_int) (wa_cons (we_bl) (wa_cons (we_var (i := 3) rfl (.inl rfl)) (wa_nil))))) (wa_cons (we_tup (wa_cons (we_int) (wa_cons (we_op op_mod z_mod (we_var (i := 5) rfl (.inl rfl)) (we_callX z_max2 (fun h => pe_callB (call_max2 rfl) (by rfl) T.n_max bb_max h) (wa_cons (we_int) (wa_cons (we_var (i := 4) rfl (.inl rfl)) (wa_nil))))) (wa_cons (we_op op_mod z_mod (we_var (i := 5) rfl (.inl rfl)) (we_callX z_max2 (fun h => pe_callB (call_max2 rfl) (by rfl) T.n_max bb_max h) (wa_cons (we_int) (wa_cons (we_var (i := 4) rfl (.inl rfl)) (wa_nil))))) (wa_nil))))) (wa_cons (we_tup (wa_cons (we_int) (wa_cons (we_var (i := 5) rfl (.inl rfl)) (wa_cons (we_var (i := 5) rfl (.inl rfl)) (wa_nil))))) (wa_nil))))))))) (wb_cons (ws_set (i := 7) nd rfl (.inl rfl) (we_lst (m := false) (wa_nil))) (wb_cons (ws_if (wt_cmp (op_eqC hr.units) z_eqB (we_ix (we_var (i := 1) rfl (.inl rfl)) (we_int)) (we_int) ((nomark _))) (wb_cons (ws_asg (we_sl (m := false) (we_var (i := 1) rfl (.inl rfl)) (wo_some (we_int)) wo_none) (wg_tup rfl (wgs_cons (wg_name (i := 8) nd rfl (.inr rfl)) (wgs_cons (wg_name (i := 9) nd rfl (.inl rfl)) (wgs_nil))))) (wb_cons (ws_set (i := 10) nd rfl (.inl rfl) (we_op op_mod z_mod (we_op op_fdivW z_fdiv (we_var (i := 0) rfl (.inl rfl)) (we_int)) (we_op op_addD z_add (we_callX z_len (fun h => pe_callB (CallR.or call_len_seq call_len_str) (by rfl) T.n_len bb_len h) (wa_cons (we_var (i := 9) rfl (.inl rfl)) (wa_nil))) (we_int)))) (wb_cons (ws_set (i := 11) nd rfl (.inl rfl) (we_op op_sub z_sub (we_op op_mod z_mod (we_op op_fdivW z_fdiv (we_var (i := 0) rfl (.inl rfl)) (we_int)) (we_op op_addD z_add (we_var (i := 2) rfl (.inl rfl)) (we_int))) (we_int))) (wb_cons (ws_set (i := 12) nd rfl (.inl rfl) (we_lst (m := false) (wa_cons (we_revA (m := false) (we_var (i := 9) rfl (.inl rfl))) (wa_cons (we_call (ok_f_law_put T) (hr.mono (by decide)) hgd (by rfl) T.m_f_law_put T.F_f_law_put.kp T.b_f_law_put (wa_cons (we_var (i := 9) rfl (.inl rfl)) (wa_cons (we_var (i := 10) rfl (.inl rfl)) (wa_cons (we_var (i := 11) rfl (.inl rfl)) (wa_nil))))) (wa_cons (we_op op_addD z_add (we_sl (m := false) (we_var (i := 9) rfl (.inl rfl)) wo_none (wo_some (we_var (i := 10) rfl (.inl rfl)))) (we_sl (m := false) (we_var (i := 9) rfl (.inl rfl)) (wo_some (we_op op_addD z_add (we_var (i := 10) rfl (.inl rfl)) (we_int))) wo_none)) (wa_cons (we_callX (z_list (m := false)) (fun h => pe_callTy call_list_of (by rfl) T.n_list bb_list h) (wa_cons (we_var (i := 9) rfl (.inl rfl)) (wa_nil))) (wa_nil))))))) (wb_cons (ws_set (i := 12) nd rfl (.inl rfl) (we_op op_addD z_add (we_var (i := 12) rfl (.inl rfl)) (we_lst (m := false) (wa_cons (we_op op_addD z_add (we_op op_addD z_add (we_sl (m := false) (we_var (i := 9) rfl (.inl rfl)) wo_none (wo_some (we_var (i := 10) rfl (.inl rfl)))) (we_tup (wa_cons (we_var (i := 11) rfl (.inl rfl)) (wa_nil)))) (we_sl (m := false) (we_var (i := 9) rfl (.inl rfl)) (wo_some (we_var (i := 10) rfl (.inl rfl))) wo_none)) (wa_cons (we_call (ok_f_law_put T) (hr.mono (by decide)) hgd (by rfl) T.m_f_law_put T.F_f_law_put.kp T.b_f_law_put (wa_cons (we_var (i := 9) rfl (.inl rfl)) (wa_cons (we_var (i := 10) rfl (.inl rfl)) (wa_cons (we_ix (we_lst (m := false) (wa_cons (we_non) (wa_cons (we_bl) (wa_cons (we_str) (wa_nil))))) (we_op op_mod z_mod (we_var (i := 11) rfl (.inl rfl)) (we_int))) (wa_nil))))) (wa_nil)))))) (wb_one (ws_set (i := 7) nd rfl (.inl rfl) (we_op op_addD z_add (we_lc (m := false) (t := (.nm 13)) (own := [("_law_row", 13)]) rfl nd (wi_seq (we_var (i := 12) rfl (.inl rfl))) (blkOk_by (own := [("_law_row", 13)]) (N := N_f_law_bent_node) (by kernel_rfl)) (by simp [Tg.ix]) (fun _ _ _ _ _ => pg_name (i := 13) nd rfl (.inl rfl)) (fun _ _ _ _ _ => wts_nil) (fun _ _ _ _ _ => we_tup (wa_cons (we_int) (wa_cons (we_var (i := 8) rfl (.inr (.inl rfl))) (wa_cons (we_var (i := 13) rfl (.inl rfl)) (wa_nil)))))) (we_lst (m := false) (wa_cons (we_tup (wa_cons (we_int) (wa_cons (we_var (i := 5) rfl (.inl rfl)) (wa_cons (we_var (i := 9) rfl (.inl rfl)) (wa_nil))))) (wa_cons (we_tup (wa_cons (we_int) (wa_cons (we_bl) (wa_cons (we_var (i := 9) rfl (.inl rfl)) (wa_nil))))) (wa_cons (we_tup (wa_cons (we_bl) (wa_cons (we_var (i := 8) rfl (.inr (.inl rfl))) (wa_cons (we_var (i := 9) rfl (.inl rfl)) (wa_nil))))) (wa_nil))))))))))))) (wb_one (ws_if (wt_cmp (op_ltD hr.units0) z_lt (we_ix (we_var (i := 1) rfl (.inl rfl)) (we_int)) (we_int) ((nomark _))) (wb_cons (ws_asg (we_sl (m := false) (we_var (i := 1) rfl (.inl rfl)) (wo_some (we_int)) wo_none) (wg_tup rfl (wgs_cons (wg_name (i := 5) nd rfl (.inl rfl)) (wgs_cons (wg_name (i := 11) nd rfl (.inl rfl)) (wgs_nil))))) (wb_cons (ws_set (i := 7) nd rfl (.inl rfl) (we_lst (m := false) (wa_cons (we_tup (wa_cons (we_ix (we_var (i := 1) rfl (.inl rfl)) (we_int)) (wa_cons (we_var (i := 11) rfl (.inl rfl)) (wa_cons (we_var (i := 5) rfl (.inl rfl)) (wa_nil))))) (wa_cons (we_tup (wa_cons (we_ix (we_var (i := 1) rfl (.inl rfl)) (we_int)) (wa_cons (we_op op_addD z_add (we_var (i := 5) rfl (.inl rfl)) (we_int)) (wa_cons (we_var (i := 11) rfl (.inl rfl)) (wa_nil))))) (wa_cons (we_tup (wa_cons (we_ix (we_var (i := 1) rfl (.inl rfl)) (we_int)) (wa_cons (we_var (i := 5) rfl (.inl rfl)) (wa_cons (we_op op_addD z_add (we_var (i := 11) rfl (.inl rfl)) (we_int)) (wa_nil))))) (wa_cons (we_tup (wa_cons (we_ix (we_var (i := 1) rfl (.inl rfl)) (we_int)) (wa_cons (we_op op_sub z_sub (we_var (i := 5) rfl (.inl rfl)) (we_int)) (wa_cons (we_var (i := 11) rfl (.inl rfl)) (wa_nil))))) (wa_nil))))))) (wb_one (ws_set (i := 7) nd rfl (.inl rfl) (we_op op_addD z_add (we_var (i := 7) rfl (.inl rfl)) (we_lst (m := false) (wa_cons (we_tup (wa_cons (we_ix (we_var (i := 1) rfl (.inl rfl)) (we_int)) (wa_cons (we_var (i := 5) rfl (.inl rfl)) (wa_cons (we_op op_sub z_sub (we_var (i := 11) rfl (.inl rfl)) (we_int)) (wa_nil))))) (wa_cons (we_tup (wa_cons (we_op op_sub z_sub (we_int) (we_ix (we_var (i := 1) rfl (.inl rfl)) (we_int))) (wa_cons (we_var (i := 5) rfl (.inl rfl)) (wa_cons (we_var (i := 11) rfl (.inl rfl)) (wa_nil))))) (wa_cons (we_tup (wa_cons (we_ix (we_var (i := 1) rfl (.inl rfl)) (we_int)) (wa_cons (we_non) (wa_cons (we_var (i := 11) rfl (.inl rfl)) (wa_nil))))) (wa_nil)))))))))) (wb_nil)))) (wb_one (ws_ret (we_ix (we_op op_addD z_add (we_op op_addD z_add (we_var (i := 7) rfl (.inl rfl)) (we_var (i := 7) rfl (.inl rfl))) (we_var (i := 6) rfl (.inl rfl))) (we_op op_mod z_mod (we_var (i := 0) rfl (.inl rfl)) (we_op op_addD z_add (we_op op_mulD z_mul (we_int) (we_callX z_len (fun h => pe_callB (CallR.or call_len_seq call_len_str) (by rfl) T.n_len bb_len h) (wa_cons (we_var (i := 7) rfl (.inl rfl)) (wa_nil)))) (we_callX z_len (fun h => pe_callB (CallR.or call_len_seq call_len_str) (by rfl) T.n_len bb_len h) (wa_cons (we_var (i := 6) rfl (.inl rfl)) (wa_nil)))))))))))))
theorem ok_p_clash (T : TxtB K mg) : FnG P w K mg T.base CX0 3 T.a_p_clash T.d_p_clash ["system", "one", "way", "other", "other_way"] (spOf K S_p_clash) := by
  refine fn_ok T.F_p_clash sc_p_clash rfl (fun cdv A outer s H E hr hgd => ?_) vc_p_clash
  have nd := sc_p_clash.nd
  exact wb_cons (ws_if ((ww_and (wt_cmp (op_eqC hr.units) z_eqB (we_ix (we_var (i := 2) rfl (.inl rfl)) (we_int)) (we_ix (we_var (i := 4) rfl (.inl rfl)) (we_int)) ((nomark _))) (ww_and (wt_cmp (op_ltD hr.units0) z_lt (we_ix (we_var (i := 2) rfl (.inl rfl)) (we_int)) (we_call (ok_p_end_of T) (hr.mono (by decide)) hgd (by rfl) T.m_p_end_of T.F_p_end_of.kp T.b_p_end_of (wa_cons (we_var (i := 0) rfl (.inl rfl)) (wa_cons (we_var (i := 3) rfl (.inl rfl)) (wa_cons (we_var (i := 4) rfl (.inl rfl)) (wa_nil))))) ((nomark _))) (ww_and1 (wt_cmp (op_ltD hr.units0) z_lt (we_ix (we_var (i := 4) rfl (.inl rfl)) (we_int)) (we_call (ok_p_end_of T) (hr.mono (by decide)) hgd (by rfl) T.m_p_end_of T.F_p_end_of.kp T.b_p_end_of (wa_cons (we_var (i := 0) rfl (.inl rfl)) (wa_cons (we_var (i := 1) rfl (.inl rfl)) (wa_cons (we_var (i := 2) rfl (.inl rfl)) (wa_nil))))) ((nomark _)))))).wt) (wb_one (ws_ret (we_bl))) (wb_nil)) (wb_one (ws_ret (we_or (we_call (ok_p_is_behind T) (hr.mono (by decide)) hgd (by rfl) T.m_p_is_behind T.F_p_is_behind.kp T.b_p_is_behind (wa_cons (we_var (i := 0) rfl (.inl rfl)) (wa_cons (we_var (i := 1) rfl (.inl rfl)) (wa_cons (we_var (i := 2) rfl (.inl rfl)) (wa_cons (we_var (i := 3) rfl (.inl rfl)) (wa_cons (we_var (i := 4) rfl (.inl rfl)) (wa_nil))))))) (we_one (we_call (ok_p_is_behind T) (hr.mono (by decide)) hgd (by rfl) T.m_p_is_behind T.F_p_is_behind.kp T.b_p_is_behind (wa_cons (we_var (i := 0) rfl (.inl rfl)) (wa_cons (we_var (i := 3) rfl (.inl rfl)) (wa_cons (we_var (i := 4) rfl (.inl rfl)) (wa_cons (we_var (i := 1) rfl (.inl rfl)) (wa_cons (we_var (i := 2) rfl (.inl rfl)) (wa_nil)))))))))))
theorem ok_p_is_full (T : TxtB K mg) : FnG P w K mg T.base CX0 3 T.a_p_is_full T.d_p_is_full ["system", "field", "first", "last"] (spOf K S_p_is_full) := by
  refine fn_okP T.F_p_is_full sc_p_is_full rfl (fun cdv A outer s H E hr hgd => ?_) vc_p_is_full
  have nd := sc_p_is_full.nd
  exact wb_cons (ws_set (i := 4) nd rfl (.inl rfl) (we_int)) (wb_cons (ws_set (i := 5) nd rfl (.inr rfl) (we_lst (m := true) (wa_nil))) (wb_cons (ws_for PassesOwn.never rfl (wi_enum (by rfl) T.n_enumerate (we_var (i := 1) rfl (.inl rfl))) (wg_tup rfl (wgs_cons (wg_name (i := 6) nd rfl (.inl rfl)) (wgs_cons (wg_name (i := 7) nd rfl (.inl rfl)) (wgs_nil)))) (wb_one (ws_if (wt_val (we_call (ok_p_is_within T) (hr.mono (by decide)) hgd (by rfl) T.m_p_is_within T.F_p_is_within.kp T.b_p_is_within (wa_cons (we_var (i := 0) rfl (.inr (.inl rfl))) (wa_cons (we_var (i := 6) rfl (.inl rfl)) (wa_cons (we_var (i := 7) rfl (.inl rfl)) (wa_cons (we_var (i := 2) rfl (.inr (.inl rfl))) (wa_cons (we_var (i := 3) rfl (.inr (.inl rfl))) (wa_nil)))))))) (wb_cons (ws_aug (i := 4) nd rfl (.inl rfl) (we_ix (we_ix (we_ix (we_var (i := 0) rfl (.inr (.inl rfl))) (we_int)) (we_var (i := 6) rfl (.inl rfl))) (we_int)) ip_add z_iadd) (wb_one (ws_expr (we_m PySem.F.slot_list_extend PySem.F.type_list_extend mt_extend z_extend (we_var (i := 5) rfl (.inr (.inl rfl))) (wa_cons (we_lc (m := false) (t := (.tp [8, 9])) (own := [("begin", 8), ("hand", 9)]) rfl nd (wi_seq (we_var (i := 7) rfl (.inl rfl))) (blkOk_by (own := [("begin", 8), ("hand", 9)]) (N := N_p_is_full) (by kernel_rfl)) (by simp [Tg.ix]) (fun _ _ _ _ _ => pg_tup rfl (pgs_cons (pg_name (i := 8) nd rfl (.inl rfl)) (pgs_cons (pg_name (i := 9) nd rfl (.inl rfl)) (pgs_nil)))) (fun _ _ _ _ _ => wts_nil) (fun _ _ _ _ _ => we_var (i := 9) rfl (.inl rfl))) (wa_nil)) (fun h1 h2 => pe_bm PySem.F.plainAttrs_list PySem.F.slot_list_extend PySem.F.type_list_extend mt_extend h1 h2))))) (wb_nil)))) (wb_one (ws_ret (we_cmp (op_gtD hr.units0) z_gt (we_var (i := 4) rfl (.inl rfl)) (we_callX z_sum (fun h => pe_callB (cr_sum rfl) (by rfl) T.n_sum bb_sum h) (wa_cons (we_lc (m := false) (t := (.nm 9)) (own := [("hand", 9)]) rfl nd (wi_range1 (by rfl) T.n_range (wa_cons (we_callX z_len (fun h => pe_callB (CallR.or call_len_seq call_len_str) (by rfl) T.n_len bb_len h) (wa_cons (we_ix (we_var (i := 0) rfl (.inr (.inl rfl))) (we_int)) (wa_nil))) (wa_nil))) (blkOk_by (own := [("hand", 9)]) (N := N_p_is_full) (by kernel_rfl)) (by simp [Tg.ix]) (fun _ _ _ _ _ => pg_name (i := 9) nd rfl (.inl rfl)) (fun _ _ _ _ _ => wts_one (wt_cmp (op_inB hr.units) z_inB (we_var (i := 9) rfl (.inl rfl)) (we_var (i := 5) rfl (.inr (.inl rfl))) (by rfl))) (fun _ _ _ _ _ => we_call (ok_p_given_days T) (hr.mono (by decide)) hgd (by rfl) T.m_p_given_days T.F_p_given_days.kp T.b_p_given_days (wa_cons (we_var (i := 0) rfl (.inr (.inl rfl))) (wa_cons (we_var (i := 9) rfl (.inl rfl)) (wa_cons (we_var (i := 2) rfl (.inr (.inl rfl))) (wa_cons (we_var (i := 3) rfl (.inr (.inl rfl))) (wa_nil))))))) (wa_nil))) ((nomark _)))))))
theorem ok_p_is_a_node (T : TxtB K mg) : FnG P w K mg T.base CX0 3 T.a_p_is_a_node T.d_p_is_a_node ["thing"] (spOf K S_p_is_a_node) := by
  refine fn_ok T.F_p_is_a_node sc_p_is_a_node rfl (fun cdv A outer s H E hr hgd => ?_) vc_p_is_a_node
  have nd := sc_p_is_a_node.nd
  exact wb_cons (ws_if ((ww_or (wt_not (wt_val (we_isi tok_tuple (by rfl) T.n_isinstance (by rfl) T.n_tuple bb_tuple (we_var (i := 0) rfl (.inl rfl))))) (ww_or (wt_cmp (op_eqC hr.units) z_eqB (we_callX z_len (fun h => pe_callB (CallR.or call_len_seq call_len_str) (by rfl) T.n_len bb_len h) (wa_cons (we_var (i := 0) rfl (.inl rfl)) (wa_nil))) (we_int) ((nomark _))) (ww_or1 (wt_not (wt_val (we_call (ok_p_is_from T) (hr.mono (by decide)) hgd (by rfl) T.m_p_is_from T.F_p_is_from.kp T.b_p_is_from (wa_cons (we_ix (we_var (i := 0) rfl (.inl rfl)) (we_int)) (wa_cons (we_int) (wa_cons (we_int) (wa_nil)))))))))).wt) (wb_one (ws_ret (we_bl))) (wb_nil)) (wb_one (ws_ret (we_cmp (op_eqC hr.units) z_eqB (we_callX z_len (fun h => pe_callB (CallR.or call_len_seq call_len_str) (by rfl) T.n_len bb_len h) (wa_cons (we_var (i := 0) rfl (.inl rfl)) (wa_nil))) (we_ix (we_gtupE (by rfl) T.g_SIZES) (we_ix (we_var (i := 0) rfl (.inl rfl)) (we_int))) ((nomark _)))))
theorem ok_p_parted_rightly (T : TxtB K mg) : FnG P w K mg T.base CX0 3 T.a_p_parted_rightly T.d_p_parted_rightly ["field", "node"] (spOf K S_p_parted_rightly) := by
  refine fn_ok T.F_p_parted_rightly sc_p_parted_rightly rfl (fun cdv A outer s H E hr hgd => ?_) vc_p_parted_rightly
  have nd := sc_p_parted_rightly.nd
  exact wb_cons (ws_asg (we_sl (m := false) (we_var (i := 1) rfl (.inl rfl)) (wo_some (we_int)) wo_none) (wg_tup rfl (wgs_cons (wg_name (i := 2) nd rfl (.inl rfl)) (wgs_cons (wg_name (i := 3) nd rfl (.inl rfl)) (wgs_nil))))) (wb_cons (ws_if ((ww_or (wt_not (wt_val (we_call (ok_p_is_from T) (hr.mono (by decide)) hgd (by rfl) T.m_p_is_from T.F_p_is_from.kp T.b_p_is_from (wa_cons (we_var (i := 2) rfl (.inl rfl)) (wa_cons (we_int) (wa_cons (we_op op_sub z_sub (we_callX z_len (fun h => pe_callB (CallR.or call_len_seq call_len_str) (by rfl) T.n_len bb_len h) (wa_cons (we_var (i := 0) rfl (.inl rfl)) (wa_nil))) (we_int)) (wa_nil))))))) (ww_or1 (wt_not (wt_val (we_isi tok_tuple (by rfl) T.n_isinstance (by rfl) T.n_tuple bb_tuple (we_var (i := 3) rfl (.inl rfl))))))).wt) (wb_one (ws_ret (we_bl))) (wb_nil)) (wb_one (ws_ret (we_and (we_cmp (op_neC hr.units) z_eqB (we_callX z_len (fun h => pe_callB (CallR.or call_len_seq call_len_str) (by rfl) T.n_len bb_len h) (wa_cons (we_ix (we_var (i := 0) rfl (.inl rfl)) (we_var (i := 2) rfl (.inl rfl))) (wa_nil))) (we_int) ((nomark _))) (we_one (we_cmp (op_eqC hr.units) z_eqB (we_callX z_len (fun h => pe_callB (CallR.or call_len_seq call_len_str) (by rfl) T.n_len bb_len h) (wa_cons (we_var (i := 3) rfl (.inl rfl)) (wa_nil))) (we_callX z_len (fun h => pe_callB (CallR.or call_len_seq call_len_str) (by rfl) T.n_len bb_len h) (wa_cons (we_ix (we_var (i := 0) rfl (.inl rfl)) (we_var (i := 2) rfl (.inl rfl))) (wa_nil))) ((nomark _))))))))
theorem ok_p_has_one_way (T : TxtB K mg) : FnG P w K mg T.base CX0 3 T.a_p_has_one_way T.d_p_has_one_way ["field", "work"] (spOf K S_p_has_one_way) := by
  refine fn_ok T.F_p_has_one_way sc_p_has_one_way rfl (fun cdv A outer s H E hr hgd => ?_) vc_p_has_one_way
  have nd := sc_p_has_one_way.nd
  exact wb_one (ws_ret (we_and (we_call (ok_p_is_from T) (hr.mono (by decide)) hgd (by rfl) T.m_p_is_from T.F_p_is_from.kp T.b_p_is_from (wa_cons (we_var (i := 1) rfl (.inl rfl)) (wa_cons (we_int) (wa_cons (we_op op_sub z_sub (we_callX z_len (fun h => pe_callB (CallR.or call_len_seq call_len_str) (by rfl) T.n_len bb_len h) (wa_cons (we_var (i := 0) rfl (.inl rfl)) (wa_nil))) (we_int)) (wa_nil))))) (we_one (we_cmp (op_eqC hr.units) z_eqB (we_callX z_len (fun h => pe_callB (CallR.or call_len_seq call_len_str) (by rfl) T.n_len bb_len h) (wa_cons (we_ix (we_var (i := 0) rfl (.inl rfl)) (we_var (i := 1) rfl (.inl rfl))) (wa_nil))) (we_int) ((nomark _))))))
theorem ok_p_led_down (T : TxtB K mg) : FnG P w K mg T.base CX0 3 T.a_p_led_down T.d_p_led_down ["field", "node", "at", "fields"] (spOf K S_p_led_down) := by
  refine fn_ok T.F_p_led_down sc_p_led_down rfl (fun cdv A outer s H E hr hgd => ?_) vc_p_led_down
  have nd := sc_p_led_down.nd
  exact wb_cons (ws_for PassesOwn.never rfl (wi_zip (by rfl) T.n_zip (we_ix (we_var (i := 0) rfl (.inl rfl)) (we_ix (we_var (i := 1) rfl (.inl rfl)) (we_int))) (we_ix (we_var (i := 1) rfl (.inl rfl)) (we_int))) (wg_tup rfl (wgs_cons (wg_name (i := 4) nd rfl (.inl rfl)) (wgs_cons (wg_name (i := 5) nd rfl (.inl rfl)) (wgs_nil)))) (wb_cons (ws_if ((ww_or (wt_not (wt_val (we_call (ok_p_is_from T) (hr.mono (by decide)) hgd (by rfl) T.m_p_is_from T.F_p_is_from.kp T.b_p_is_from (wa_cons (we_var (i := 5) rfl (.inl rfl)) (wa_cons (we_op op_addD z_add (we_var (i := 2) rfl (.inl rfl)) (we_int)) (wa_cons (we_op op_sub z_sub (we_callX z_len (fun h => pe_callB (CallR.or call_len_seq call_len_str) (by rfl) T.n_len bb_len h) (wa_cons (we_var (i := 3) rfl (.inl rfl)) (wa_nil))) (we_int)) (wa_nil))))))) (ww_or1 (wt_cmp (op_notN) (z_isN (f := fun b => !b)) (we_ix (we_var (i := 3) rfl (.inl rfl)) (we_var (i := 5) rfl (.inl rfl))) (we_non) ((nomark _))))).wt) (wb_one (ws_ret (we_bl))) (wb_nil)) (wb_one (ws_asg (we_call (ok_p_with_one_way T) (hr.mono (by decide)) hgd (by rfl) T.m_p_with_one_way T.F_p_with_one_way.kp T.b_p_with_one_way (wa_cons (we_var (i := 0) rfl (.inl rfl)) (wa_cons (we_ix (we_var (i := 1) rfl (.inl rfl)) (we_int)) (wa_cons (we_var (i := 4) rfl (.inl rfl)) (wa_nil))))) (wg_sub (we_var (i := 3) rfl (.inl rfl)) (we_var (i := 5) rfl (.inl rfl))))))) (wb_one (ws_ret (we_bl)))
theorem ok_f_law_plans (T : TxtB K mg) : FnG P w K mg T.base CX0 3 T.a_f_law_plans T.d_f_law_plans ["_law_system", "_law_field"] (spOf K S_f_law_plans) := by
  refine fn_okP T.F_f_law_plans sc_f_law_plans rfl (fun cdv A outer s H E hr hgd => ?_) vc_f_law_plans
  have nd := sc_f_law_plans.nd
  exact wb_cons (ws_if (wt_cmp (op_inB hr.units) z_inB (we_tup (wa_nil)) (we_var (i := 1) rfl (.inl rfl)) (by rfl)) (wb_one (ws_ret (we_lst (m := false) (wa_nil)))) (wb_nil)) (wb_cons (ws_set (i := 2) nd rfl (.inl rfl) (we_lst (m := false) (wa_cons (we_tup (wa_nil)) (wa_nil)))) (wb_cons (ws_for PassesOwn.never rfl (wi_enum (by rfl) T.n_enumerate (we_var (i := 1) rfl (.inl rfl))) (wg_tup rfl (wgs_cons (wg_name (i := 3) nd rfl (.inr rfl)) (wgs_cons (wg_name (i := 4) nd rfl (.inl rfl)) (wgs_nil)))) (wb_cons (ws_set (i := 5) nd rfl (.inl rfl) (we_lst (m := true) (wa_nil))) (wb_cons (ws_for PassesOwn.never rfl (wi_seq (we_var (i := 2) rfl (.inl rfl))) (wg_name (i := 6) nd rfl (.inr rfl)) (wb_one (ws_expr (we_m PySem.F.slot_list_extend PySem.F.type_list_extend mt_extend z_extend (we_var (i := 5) rfl (.inl rfl)) (wa_cons (we_lc (m := false) (t := (.nm 7)) (own := [("_law_way", 7)]) rfl nd (wi_seq (we_var (i := 4) rfl (.inl rfl))) (blkOk_by (own := [("_law_way", 7)]) (N := N_f_law_plans) (by kernel_rfl)) (by simp [Tg.ix]) (fun _ _ _ _ _ => pg_name (i := 7) nd rfl (.inl rfl)) (fun _ _ _ _ _ => wts_one (wt_val (we_call (ok_f_law_goes T) (hr.mono (by decide)) hgd (by rfl) T.m_f_law_goes T.F_f_law_goes.kp T.b_f_law_goes (wa_cons (we_var (i := 0) rfl (.inr (.inl rfl))) (wa_cons (we_var (i := 6) rfl (.inr (.inl rfl))) (wa_cons (we_var (i := 3) rfl (.inr (.inl rfl))) (wa_cons (we_var (i := 7) rfl (.inl rfl)) (wa_nil)))))))) (fun _ _ _ _ _ => we_op op_addD z_add (we_var (i := 6) rfl (.inr (.inl rfl))) (we_tup (wa_cons (we_var (i := 7) rfl (.inl rfl)) (wa_nil))))) (wa_nil)) (fun h1 h2 => pe_bm PySem.F.plainAttrs_list PySem.F.slot_list_extend PySem.F.type_list_extend mt_extend h1 h2))))) (wb_one (ws_set (i := 2) nd rfl (.inl rfl) (we_var (i := 5) rfl (.inl rfl))))))) (wb_one (ws_ret (we_frzA (i := 2) rfl (.inl rfl))))))
theorem ok_f_law_worth (T : TxtB K mg) : FnG P w K mg T.base CX0 3 T.a_f_law_worth T.d_f_law_worth ["_law_system", "_law_plan", "_law_aim"] (spOf K S_f_law_worth) := by
  refine fn_ok T.F_f_law_worth sc_f_law_worth rfl (fun cdv A outer s H E hr hgd => ?_) vc_f_law_worth
  have nd := sc_f_law_worth.nd
  exact wb_one (ws_ret (we_call (ok_f_law_row_of T) (hr.mono (by decide)) hgd (by rfl) T.m_f_law_row_of T.F_f_law_row_of.kp T.b_f_law_row_of (wa_cons (we_ix (we_var (i := 2) rfl (.inl rfl)) (we_int)) (wa_cons (we_call (ok_f_law_moved T) (hr.mono (by decide)) hgd (by rfl) T.m_f_law_moved T.F_f_law_moved.kp T.b_f_law_moved (wa_cons (we_var (i := 1) rfl (.inl rfl)) (wa_cons (we_ix (we_var (i := 2) rfl (.inl rfl)) (we_int)) (wa_nil)))) (wa_cons (we_call (ok_f_law_weights T) (hr.mono (by decide)) hgd (by rfl) T.m_f_law_weights T.F_f_law_weights.kp T.b_f_law_weights (wa_cons (we_var (i := 0) rfl (.inl rfl)) (wa_cons (we_var (i := 1) rfl (.inl rfl)) (wa_nil)))) (wa_cons (we_call (ok_f_law_ends T) (hr.mono (by decide)) hgd (by rfl) T.m_f_law_ends T.F_f_law_ends.kp T.b_f_law_ends (wa_cons (we_var (i := 0) rfl (.inl rfl)) (wa_cons (we_var (i := 1) rfl (.inl rfl)) (wa_nil)))) (wa_nil)))))))
theorem ok_f_law_little (T : TxtB K mg) : FnG P w K mg T.base CX0 3 T.a_f_law_little T.d_f_law_little ["_law_deck_here"] (spOf K S_f_law_little) := by
  refine fn_okP T.F_f_law_little sc_f_law_little rfl (fun cdv A outer s H E hr hgd => ?_) vc_f_law_little
  have nd := sc_f_law_little.nd
  exact wb_cons (ws_set (i := 1) nd rfl (.inr rfl) (we_op op_addD z_add (we_int) (we_op op_mod z_mod (we_call (ok_f_law_next T) (hr.mono (by decide)) hgd (by rfl) T.m_f_law_next T.F_f_law_next.kp T.b_f_law_next (wa_cons (we_var (i := 0) rfl (.inr (.inl rfl))) (wa_nil))) (we_int)))) (wb_cons (ws_set (i := 2) nd rfl (.inr rfl) (we_ix (we_lst (m := false) (wa_cons (we_int) (wa_cons (we_int) (wa_cons (we_int) (wa_nil))))) (we_op op_mod z_mod (we_call (ok_f_law_next T) (hr.mono (by decide)) hgd (by rfl) T.m_f_law_next T.F_f_law_next.kp T.b_f_law_next (wa_cons (we_var (i := 0) rfl (.inr (.inl rfl))) (wa_nil))) (we_int)))) (wb_cons (ws_set (i := 3) nd rfl (.inl rfl) (we_callX z_tuple (fun h => pe_callTy call_tupleX (by rfl) T.n_tuple bb_tuple h) (wa_cons (we_lc (m := false) (t := (.nm 11)) (own := [("_law_hand", 11)]) rfl nd (wi_range1 (by rfl) T.n_range (wa_cons (we_op op_addD z_add (we_int) (we_op op_mod z_mod (we_call (ok_f_law_next T) (hr.mono (by decide)) hgd (by rfl) T.m_f_law_next T.F_f_law_next.kp T.b_f_law_next (wa_cons (we_var (i := 0) rfl (.inr (.inl rfl))) (wa_nil))) (we_int))) (wa_nil))) (blkOk_by (own := [("_law_hand", 11)]) (N := N_f_law_little) (by kernel_rfl)) (by simp [Tg.ix]) (fun _ _ _ _ _ => pg_name (i := 11) nd rfl (.inl rfl)) (fun _ _ _ _ _ => wts_nil) (fun _ _ _ _ _ => we_call (ok_f_law_days T) (hr.mono (by decide)) hgd (by rfl) T.m_f_law_days T.F_f_law_days.kp T.b_f_law_days (wa_cons (we_var (i := 0) rfl (.inr (.inl rfl))) (wa_cons (we_var (i := 1) rfl (.inr (.inl rfl))) (wa_cons (we_var (i := 2) rfl (.inr (.inl rfl))) (wa_nil)))))) (wa_nil)))) (wb_cons (ws_set (i := 4) nd rfl (.inl rfl) (we_lst (m := true) (wa_nil))) (wb_cons (ws_for PassesOwn.never rfl (wi_range1 (by rfl) T.n_range (wa_cons (we_op op_mod z_mod (we_call (ok_f_law_next T) (hr.mono (by decide)) hgd (by rfl) T.m_f_law_next T.F_f_law_next.kp T.b_f_law_next (wa_cons (we_var (i := 0) rfl (.inr (.inl rfl))) (wa_nil))) (we_int)) (wa_nil))) (wg_name (i := 5) nd rfl (.inl rfl)) (wb_cons (ws_set (i := 6) nd rfl (.inl rfl) (we_callX z_tuple (fun h => pe_callTy call_tupleX (by rfl) T.n_tuple bb_tuple h) (wa_cons (we_lc (m := false) (t := (.nm 12)) (own := [("_law_one", 12)]) rfl nd (wi_range1 (by rfl) T.n_range (wa_cons (we_var (i := 5) rfl (.inl rfl)) (wa_nil))) (blkOk_by (own := [("_law_one", 12)]) (N := N_f_law_little) (by kernel_rfl)) (by simp [Tg.ix]) (fun _ _ _ _ _ => pg_name (i := 12) nd rfl (.inl rfl)) (fun _ _ _ _ _ => wts_one (wt_cmp (op_eqC hr.units) z_eqB (we_op op_mod z_mod (we_call (ok_f_law_next T) (hr.mono (by decide)) hgd (by rfl) T.m_f_law_next T.F_f_law_next.kp T.b_f_law_next (wa_cons (we_var (i := 0) rfl (.inr (.inl rfl))) (wa_nil))) (we_int)) (we_int) ((nomark _)))) (fun _ _ _ _ _ => we_var (i := 12) rfl (.inl rfl))) (wa_nil)))) (wb_cons (ws_set (i := 7) nd rfl (.inl rfl) (we_callX z_tuple (fun h => pe_callTy call_tupleX (by rfl) T.n_tuple bb_tuple h) (wa_cons (we_lc (m := false) (t := (.nm 11)) (own := [("_law_hand", 11)]) rfl nd (wi_range1 (by rfl) T.n_range (wa_cons (we_callX z_len (fun h => pe_callB (CallR.or call_len_seq call_len_str) (by rfl) T.n_len bb_len h) (wa_cons (we_var (i := 3) rfl (.inl rfl)) (wa_nil))) (wa_nil))) (blkOk_by (own := [("_law_hand", 11)]) (N := N_f_law_little) (by kernel_rfl)) (by simp [Tg.ix]) (fun _ _ _ _ _ => pg_name (i := 11) nd rfl (.inl rfl)) (fun _ _ _ _ _ => wts_one (wt_cmp (op_gtD hr.units0) z_gt (we_op op_mod z_mod (we_call (ok_f_law_next T) (hr.mono (by decide)) hgd (by rfl) T.m_f_law_next T.F_f_law_next.kp T.b_f_law_next (wa_cons (we_var (i := 0) rfl (.inr (.inl rfl))) (wa_nil))) (we_int)) (we_int) ((nomark _)))) (fun _ _ _ _ _ => we_var (i := 11) rfl (.inl rfl))) (wa_nil)))) (wb_one (ws_expr (we_m PySem.F.slot_list_append PySem.F.type_list_append mt_append z_append (we_var (i := 4) rfl (.inl rfl)) (wa_cons (we_tup (wa_cons (we_op op_addD z_add (we_int) (we_op op_mod z_mod (we_call (ok_f_law_next T) (hr.mono (by decide)) hgd (by rfl) T.m_f_law_next T.F_f_law_next.kp T.b_f_law_next (wa_cons (we_var (i := 0) rfl (.inr (.inl rfl))) (wa_nil))) (we_int))) (wa_cons (we_var (i := 6) rfl (.inl rfl)) (wa_cons (we_op op_addD z_add (we_var (i := 7) rfl (.inl rfl)) (we_op op_mulD z_mul (we_tup (wa_cons (we_int) (wa_nil))) (we_callX z_int (fun h => pe_callTy call_int1 (by rfl) T.n_int bb_int h) (wa_cons (we_cmp (op_eqC hr.units) z_eqB (we_var (i := 7) rfl (.inl rfl)) (we_tup (wa_nil)) ((nomark _))) (wa_nil))))) (wa_nil))))) (wa_nil)) (fun h1 h2 => pe_bm PySem.F.plainAttrs_list PySem.F.slot_list_append PySem.F.type_list_append mt_append h1 h2))))))) (wb_cons (ws_set (i := 8) nd rfl (.inl rfl) (we_lst (m := true) (wa_nil))) (wb_cons (ws_for PassesOwn.never rfl (wi_range1 (by rfl) T.n_range (wa_cons (we_op op_mulD z_mul (we_op op_mod z_mod (we_call (ok_f_law_next T) (hr.mono (by decide)) hgd (by rfl) T.m_f_law_next T.F_f_law_next.kp T.b_f_law_next (wa_cons (we_var (i := 0) rfl (.inr (.inl rfl))) (wa_nil))) (we_int)) (we_callX z_int (fun h => pe_callTy call_int1 (by rfl) T.n_int bb_int h) (wa_cons (we_cmp (op_neC hr.units) z_eqB (we_var (i := 4) rfl (.inl rfl)) (we_lst (m := false) (wa_nil)) ((nomark _))) (wa_nil)))) (wa_nil))) (wg_name (i := 9) nd rfl (.inl rfl)) (wb_cons (ws_set (i := 5) nd rfl (.inl rfl) (we_op op_mod z_mod (we_call (ok_f_law_next T) (hr.mono (by decide)) hgd (by rfl) T.m_f_law_next T.F_f_law_next.kp T.b_f_law_next (wa_cons (we_var (i := 0) rfl (.inr (.inl rfl))) (wa_nil))) (we_callX z_len (fun h => pe_callB (CallR.or call_len_seq call_len_str) (by rfl) T.n_len bb_len h) (wa_cons (we_var (i := 4) rfl (.inl rfl)) (wa_nil))))) (wb_cons (ws_set (i := 10) nd rfl (.inl rfl) (we_op op_mod z_mod (we_call (ok_f_law_next T) (hr.mono (by decide)) hgd (by rfl) T.m_f_law_next T.F_f_law_next.kp T.b_f_law_next (wa_cons (we_var (i := 0) rfl (.inr (.inl rfl))) (wa_nil))) (we_op op_addD z_add (we_var (i := 1) rfl (.inr (.inl rfl))) (we_int)))) (wb_one (ws_expr (we_m PySem.F.slot_list_append PySem.F.type_list_append mt_append z_append (we_var (i := 8) rfl (.inl rfl)) (wa_cons (we_tup (wa_cons (we_var (i := 5) rfl (.inl rfl)) (wa_cons (we_op op_mod z_mod (we_call (ok_f_law_next T) (hr.mono (by decide)) hgd (by rfl) T.m_f_law_next T.F_f_law_next.kp T.b_f_law_next (wa_cons (we_var (i := 0) rfl (.inr (.inl rfl))) (wa_nil))) (we_int)) (wa_cons (we_var (i := 10) rfl (.inl rfl)) (wa_cons (we_op op_addD z_add (we_int) (we_op op_mod z_mod (we_call (ok_f_law_next T) (hr.mono (by decide)) hgd (by rfl) T.m_f_law_next T.F_f_law_next.kp T.b_f_law_next (wa_cons (we_var (i := 0) rfl (.inr (.inl rfl))) (wa_nil))) (we_ix (we_lst (m := false) (wa_cons (we_int) (wa_cons (we_int) (wa_nil)))) (we_op op_mod z_mod (we_var (i := 9) rfl (.inl rfl)) (we_int))))) (wa_cons (we_op op_mod z_mod (we_call (ok_f_law_next T) (hr.mono (by decide)) hgd (by rfl) T.m_f_law_next T.F_f_law_next.kp T.b_f_law_next (wa_cons (we_var (i := 0) rfl (.inr (.inl rfl))) (wa_nil))) (we_int)) (wa_nil))))))) (wa_nil)) (fun h1 h2 => pe_bm PySem.F.plainAttrs_list PySem.F.slot_list_append PySem.F.type_list_append mt_append h1 h2))))))) (wb_one (ws_ret (we_tup (wa_cons (we_var (i := 1) rfl (.inr (.inl rfl))) (wa_cons (we_var (i := 3) rfl (.inl rfl)) (wa_cons (we_callX z_tuple (fun h => pe_callTy call_tupleX (by rfl) T.n_tuple bb_tuple h) (wa_cons (we_var (i := 4) rfl (.inl rfl)) (wa_nil))) (wa_cons (we_callX z_tuple (fun h => pe_callTy call_tupleX (by rfl) T.n_tuple bb_tuple h) (wa_cons (we_var (i := 8) rfl (.inl rfl)) (wa_nil))) (wa_nil))))))))))))))
theorem ok_f_law_leaves (T : TxtB K mg) : FnG P w K mg T.base CX0 3 T.a_f_law_leaves T.d_f_law_leaves ["_law_system", "_law_field", "_law_worth_here", "_law_aim"] (spOf K S_f_law_leaves) := by
  refine fn_okP T.F_f_law_leaves sc_f_law_leaves rfl (fun cdv A outer s H E hr hgd => ?_) vc_f_law_leaves
  have nd := sc_f_law_leaves.nd
  exact wb_cons (ws_set (i := 4) nd rfl (.inl rfl) (we_lst (m := true) (wa_nil))) (wb_cons (ws_setLc (m := false) (t := (.nm 9)) (i := 5) (own := [("_law_work", 9)]) rfl nd rfl rfl (sw_true rfl rfl rfl (by decide +kernel)) (wi_range1 (by rfl) T.n_range (wa_cons (we_callX z_len (fun h => pe_callB (CallR.or call_len_seq call_len_str) (by rfl) T.n_len bb_len h) (wa_cons (we_var (i := 1) rfl (.inr (.inl rfl))) (wa_nil))) (wa_nil))) (blkOk_by (own := [("_law_work", 9)]) (N := N_f_law_leaves) (by kernel_rfl)) (by simp [Tg.ix]) (fun _ _ _ _ _ => pg_name (i := 9) nd rfl (.inl rfl)) (fun _ _ _ _ _ => wts_one (wt_cmp (op_eqC hr.units) z_eqB (we_callX z_len (fun h => pe_callB (CallR.or call_len_seq call_len_str) (by rfl) T.n_len bb_len h) (wa_cons (we_ix (we_var (i := 1) rfl (.inr (.inl rfl))) (we_var (i := 9) rfl (.inl rfl))) (wa_nil))) (we_int) ((nomark _)))) (fun _ _ _ _ _ => we_var (i := 9) rfl (.inl rfl))) (wb_cons (ws_for PassesOwn.never rfl (wi_seq (we_var (i := 5) rfl (.inl rfl))) (wg_name (i := 6) nd rfl (.inl rfl)) (wb_one (ws_for PassesOwn.never rfl (wi_seq (we_var (i := 5) rfl (.inl rfl))) (wg_name (i := 7) nd rfl (.inl rfl)) (wb_one (ws_if (wt_cmp (op_neC hr.units) z_eqB (we_var (i := 6) rfl (.inl rfl)) (we_var (i := 7) rfl (.inl rfl)) ((nomark _))) (wb_one (ws_if (wt_val (we_call (ok_f_law_clash T) (hr.mono (by decide)) hgd (by rfl) T.m_f_law_clash T.F_f_law_clash.kp T.b_f_law_clash (wa_cons (we_var (i := 0) rfl (.inl rfl)) (wa_cons (we_var (i := 6) rfl (.inl rfl)) (wa_cons (we_ix (we_ix (we_var (i := 1) rfl (.inr (.inl rfl))) (we_var (i := 6) rfl (.inl rfl))) (we_int)) (wa_cons (we_var (i := 7) rfl (.inl rfl)) (wa_cons (we_ix (we_ix (we_var (i := 1) rfl (.inr (.inl rfl))) (we_var (i := 7) rfl (.inl rfl))) (we_int)) (wa_nil)))))))) (wb_one (ws_expr (we_m PySem.F.slot_list_append PySem.F.type_list_append mt_append z_append (we_var (i := 4) rfl (.inl rfl)) (wa_cons (we_tup (wa_cons (we_int) (wa_cons (we_var (i := 6) rfl (.inl rfl)) (wa_cons (we_var (i := 7) rfl (.inl rfl)) (wa_nil))))) (wa_nil)) (fun h1 h2 => pe_bm PySem.F.plainAttrs_list PySem.F.slot_list_append PySem.F.type_list_append mt_append h1 h2)))) (wb_nil))) (wb_nil)))))) (wb_cons (ws_for PassesOwn.never rfl (wi_range1 (by rfl) T.n_range (wa_cons (we_ix (we_var (i := 0) rfl (.inl rfl)) (we_int)) (wa_nil))) (wg_name (i := 8) nd rfl (.inl rfl)) (wb_cons (ws_if (wt_val (we_call (ok_f_law_full T) (hr.mono (by decide)) hgd (by rfl) T.m_f_law_full T.F_f_law_full.kp T.b_f_law_full (wa_cons (we_var (i := 0) rfl (.inl rfl)) (wa_cons (we_var (i := 1) rfl (.inr (.inl rfl))) (wa_cons (we_var (i := 8) rfl (.inl rfl)) (wa_cons (we_ix (we_var (i := 0) rfl (.inl rfl)) (we_int)) (wa_nil))))))) (wb_one (ws_expr (we_m PySem.F.slot_list_append PySem.F.type_list_append mt_append z_append (we_var (i := 4) rfl (.inl rfl)) (wa_cons (we_tup (wa_cons (we_int) (wa_cons (we_var (i := 8) rfl (.inl rfl)) (wa_cons (we_ix (we_var (i := 0) rfl (.inl rfl)) (we_int)) (wa_nil))))) (wa_nil)) (fun h1 h2 => pe_bm PySem.F.plainAttrs_list PySem.F.slot_list_append PySem.F.type_list_append mt_append h1 h2)))) (wb_nil)) (wb_one (ws_if (wt_val (we_call (ok_f_law_full T) (hr.mono (by decide)) hgd (by rfl) T.m_f_law_full T.F_f_law_full.kp T.b_f_law_full (wa_cons (we_var (i := 0) rfl (.inl rfl)) (wa_cons (we_var (i := 1) rfl (.inr (.inl rfl))) (wa_cons (we_int) (wa_cons (we_op op_addD z_add (we_var (i := 8) rfl (.inl rfl)) (we_int)) (wa_nil))))))) (wb_one (ws_expr (we_m PySem.F.slot_list_append PySem.F.type_list_append mt_append z_append (we_var (i := 4) rfl (.inl rfl)) (wa_cons (we_tup (wa_cons (we_int) (wa_cons (we_int) (wa_cons (we_op op_addD z_add (we_var (i := 8) rfl (.inl rfl)) (we_int)) (wa_nil))))) (wa_nil)) (fun h1 h2 => pe_bm PySem.F.plainAttrs_list PySem.F.slot_list_append PySem.F.type_list_append mt_append h1 h2)))) (wb_nil))))) (wb_cons (ws_if ((ww_and (wt_cmp (op_notN) (z_isN (f := fun b => !b)) (we_var (i := 2) rfl (.inl rfl)) (we_non) ((nomark _))) (ww_and (wt_cmp (op_notInB hr.units) z_inB (we_tup (wa_nil)) (we_var (i := 1) rfl (.inr (.inl rfl))) (by rfl)) (ww_and1 (wt_not (wt_cmp (op_gtD hr.units0) z_gt (we_call (ok_f_law_hope T) (hr.mono (by decide)) hgd (by rfl) T.m_f_law_hope T.F_f_law_hope.kp T.b_f_law_hope (wa_cons (we_var (i := 0) rfl (.inl rfl)) (wa_cons (we_var (i := 1) rfl (.inr (.inl rfl))) (wa_cons (we_var (i := 3) rfl (.inl rfl)) (wa_nil))))) (we_var (i := 2) rfl (.inl rfl)) ((nomark _))))))).wt) (wb_one (ws_expr (we_m PySem.F.slot_list_append PySem.F.type_list_append mt_append z_append (we_var (i := 4) rfl (.inl rfl)) (wa_cons (we_tup (wa_cons (we_int) (wa_nil))) (wa_nil)) (fun h1 h2 => pe_bm PySem.F.plainAttrs_list PySem.F.slot_list_append PySem.F.type_list_append mt_append h1 h2)))) (wb_nil)) (wb_one (ws_ret (we_frz (i := 4) rfl (.inl rfl))))))))
theorem ok_f_law_bent_cases (T : TxtB K mg) : FnG P w K mg T.base CX0 3 T.a_f_law_bent_cases T.d_f_law_bent_cases ["_law_deck_here", "_law_cases", "_law_days_here", "_law_works"] (spOf K S_f_law_bent_cases) := by
  refine fn_ok T.F_f_law_bent_cases sc_f_law_bent_cases rfl (fun cdv A outer s H E hr hgd => ?_) vc_f_law_bent_cases
  have nd := sc_f_law_bent_cases.nd
  exact wb_cons (ws_set (i := 4) nd rfl (.inl rfl) (we_op op_mod z_mod (we_call (ok_f_law_next T) (hr.mono (by decide)) hgd (by rfl) T.m_f_law_next T.F_f_law_next.kp T.b_f_law_next (wa_cons (we_var (i := 0) rfl (.inl rfl)) (wa_nil))) (we_int))) (wb_cons (ws_set (i := 5) nd rfl (.inl rfl) (we_op op_mod z_mod (we_call (ok_f_law_next T) (hr.mono (by decide)) hgd (by rfl) T.m_f_law_next T.F_f_law_next.kp T.b_f_law_next (wa_cons (we_var (i := 0) rfl (.inl rfl)) (wa_nil))) (we_callX z_len (fun h => pe_callB (CallR.or call_len_seq call_len_str) (by rfl) T.n_len bb_len h) (wa_cons (we_var (i := 1) rfl (.inl rfl)) (wa_nil))))) (wb_cons (ws_set (i := 6) nd rfl (.inl rfl) (we_call (ok_f_law_next T) (hr.mono (by decide)) hgd (by rfl) T.m_f_law_next T.F_f_law_next.kp T.b_f_law_next (wa_cons (we_var (i := 0) rfl (.inl rfl)) (wa_nil)))) (wb_cons (ws_if (wt_cmp (op_eqC hr.units) z_eqB (we_var (i := 4) rfl (.inl rfl)) (we_int) ((nomark _))) (wb_one (ws_ret (we_ix (we_lst (m := false) (wa_cons (we_op op_addD z_add (we_var (i := 1) rfl (.inl rfl)) (we_tup (wa_cons (we_tup (wa_cons (we_int) (wa_nil))) (wa_nil)))) (wa_cons (we_sl (m := false) (we_var (i := 1) rfl (.inl rfl)) wo_none (wo_some (we_neg (we_int)))) (wa_cons (we_callX (z_list (m := false)) (fun h => pe_callTy call_list_of (by rfl) T.n_list bb_list h) (wa_cons (we_var (i := 1) rfl (.inl rfl)) (wa_nil))) (wa_cons (we_tup (wa_nil)) (wa_cons (we_sl (m := false) (we_var (i := 1) rfl (.inl rfl)) (wo_some (we_int)) wo_none) (wa_cons (we_op op_addD z_add (we_var (i := 1) rfl (.inl rfl)) (we_var (i := 1) rfl (.inl rfl))) (wa_cons (we_revA (m := false) (we_var (i := 1) rfl (.inl rfl))) (wa_nil))))))))) (we_op op_mod z_mod (we_var (i := 6) rfl (.inl rfl)) (we_int))))) (wb_nil)) (wb_cons (ws_if (wt_cmp (op_eqC hr.units) z_eqB (we_var (i := 4) rfl (.inl rfl)) (we_int) ((nomark _))) (wb_cons (ws_set (i := 7) nd rfl (.inl rfl) (we_op op_mod z_mod (we_var (i := 6) rfl (.inl rfl)) (we_callX z_len (fun h => pe_callB (CallR.or call_len_seq call_len_str) (by rfl) T.n_len bb_len h) (wa_cons (we_var (i := 1) rfl (.inl rfl)) (wa_nil))))) (wb_one (ws_ret (we_call (ok_f_law_put T) (hr.mono (by decide)) hgd (by rfl) T.m_f_law_put T.F_f_law_put.kp T.b_f_law_put (wa_cons (we_call (ok_f_law_put T) (hr.mono (by decide)) hgd (by rfl) T.m_f_law_put T.F_f_law_put.kp T.b_f_law_put (wa_cons (we_var (i := 1) rfl (.inl rfl)) (wa_cons (we_var (i := 5) rfl (.inl rfl)) (wa_cons (we_ix (we_var (i := 1) rfl (.inl rfl)) (we_var (i := 7) rfl (.inl rfl))) (wa_nil))))) (wa_cons (we_var (i := 7) rfl (.inl rfl)) (wa_cons (we_ix (we_var (i := 1) rfl (.inl rfl)) (we_var (i := 5) rfl (.inl rfl))) (wa_nil)))))))) (wb_nil)) (wb_one (ws_ret (we_call (ok_f_law_put T) (hr.mono (by decide)) hgd (by rfl) T.m_f_law_put T.F_f_law_put.kp T.b_f_law_put (wa_cons (we_var (i := 1) rfl (.inl rfl)) (wa_cons (we_var (i := 5) rfl (.inl rfl)) (wa_cons (we_call (ok_f_law_bent_node T) (hr.mono (by decide)) hgd (by rfl) T.m_f_law_bent_node T.F_f_law_bent_node.kp T.b_f_law_bent_node (wa_cons (we_var (i := 6) rfl (.inl rfl)) (wa_cons (we_ix (we_var (i := 1) rfl (.inl rfl)) (we_var (i := 5) rfl (.inl rfl))) (wa_cons (we_callX z_len (fun h => pe_callB (CallR.or call_len_seq call_len_str) (by rfl) T.n_len bb_len h) (wa_cons (we_var (i := 1) rfl (.inl rfl)) (wa_nil))) (wa_cons (we_var (i := 2) rfl (.inl rfl)) (wa_cons (we_var (i := 3) rfl (.inl rfl)) (wa_nil))))))) (wa_nil)))))))))))
theorem ok_p_clashes_rightly (T : TxtB K mg) : FnG P w K mg T.base CX0 4 T.a_p_clashes_rightly T.d_p_clashes_rightly ["system", "field", "node"] (spOf K S_p_clashes_rightly) := by
  refine fn_ok T.F_p_clashes_rightly sc_p_clashes_rightly rfl (fun cdv A outer s H E hr hgd => ?_) vc_p_clashes_rightly
  have nd := sc_p_clashes_rightly.nd
  exact wb_cons (ws_asg (we_sl (m := false) (we_var (i := 2) rfl (.inl rfl)) (wo_some (we_int)) wo_none) (wg_tup rfl (wgs_cons (wg_name (i := 3) nd rfl (.inl rfl)) (wgs_cons (wg_name (i := 4) nd rfl (.inl rfl)) (wgs_nil))))) (wb_cons (ws_if ((ww_or (wt_not (wt_val (we_call (ok_p_has_one_way T) (hr.mono (by decide)) hgd (by rfl) T.m_p_has_one_way T.F_p_has_one_way.kp T.b_p_has_one_way (wa_cons (we_var (i := 1) rfl (.inl rfl)) (wa_cons (we_var (i := 3) rfl (.inl rfl)) (wa_nil)))))) (ww_or (wt_not (wt_val (we_call (ok_p_has_one_way T) (hr.mono (by decide)) hgd (by rfl) T.m_p_has_one_way T.F_p_has_one_way.kp T.b_p_has_one_way (wa_cons (we_var (i := 1) rfl (.inl rfl)) (wa_cons (we_var (i := 4) rfl (.inl rfl)) (wa_nil)))))) (ww_or1 (wt_cmp (op_eqC hr.units) z_eqB (we_var (i := 3) rfl (.inl rfl)) (we_var (i := 4) rfl (.inl rfl)) ((nomark _)))))).wt) (wb_one (ws_ret (we_bl))) (wb_nil)) (wb_one (ws_ret (we_call (ok_p_clash T) (hr.mono (by decide)) hgd (by rfl) T.m_p_clash T.F_p_clash.kp T.b_p_clash (wa_cons (we_var (i := 0) rfl (.inl rfl)) (wa_cons (we_var (i := 3) rfl (.inl rfl)) (wa_cons (we_ix (we_ix (we_var (i := 1) rfl (.inl rfl)) (we_var (i := 3) rfl (.inl rfl))) (we_int)) (wa_cons (we_var (i := 4) rfl (.inl rfl)) (wa_cons (we_ix (we_ix (we_var (i := 1) rfl (.inl rfl)) (we_var (i := 4) rfl (.inl rfl))) (we_int)) (wa_nil))))))))))
theorem ok_p_full_rightly (T : TxtB K mg) : FnG P w K mg T.base CX0 4 T.a_p_full_rightly T.d_p_full_rightly ["system", "field", "node"] (spOf K S_p_full_rightly) := by
  refine fn_ok T.F_p_full_rightly sc_p_full_rightly rfl (fun cdv A outer s H E hr hgd => ?_) vc_p_full_rightly
  have nd := sc_p_full_rightly.nd
  exact wb_cons (ws_asg (we_sl (m := false) (we_var (i := 2) rfl (.inl rfl)) (wo_some (we_int)) wo_none) (wg_tup rfl (wgs_cons (wg_name (i := 3) nd rfl (.inl rfl)) (wgs_cons (wg_name (i := 4) nd rfl (.inl rfl)) (wgs_nil))))) (wb_cons (ws_if ((ww_or (wt_not (wt_val (we_call (ok_p_is_from T) (hr.mono (by decide)) hgd (by rfl) T.m_p_is_from T.F_p_is_from.kp T.b_p_is_from (wa_cons (we_var (i := 4) rfl (.inl rfl)) (wa_cons (we_int) (wa_cons (we_ix (we_var (i := 0) rfl (.inl rfl)) (we_int)) (wa_nil))))))) (ww_or1 (wt_not (wt_val (we_call (ok_p_is_from T) (hr.mono (by decide)) hgd (by rfl) T.m_p_is_from T.F_p_is_from.kp T.b_p_is_from (wa_cons (we_var (i := 3) rfl (.inl rfl)) (wa_cons (we_int) (wa_cons (we_op op_sub z_sub (we_var (i := 4) rfl (.inl rfl)) (we_int)) (wa_nil))))))))).wt) (wb_one (ws_ret (we_bl))) (wb_nil)) (wb_one (ws_ret (we_call (ok_p_is_full T) (hr.mono (by decide)) hgd (by rfl) T.m_p_is_full T.F_p_is_full.kp T.b_p_is_full (wa_cons (we_var (i := 0) rfl (.inl rfl)) (wa_cons (we_var (i := 1) rfl (.inl rfl)) (wa_cons (we_var (i := 3) rfl (.inl rfl)) (wa_cons (we_var (i := 4) rfl (.inl rfl)) (wa_nil)))))))))
theorem ok_f_law_best (T : TxtB K mg) : FnG P w K mg T.base CX0 4 T.a_f_law_best T.d_f_law_best ["_law_system", "_law_field", "_law_aim"] (spOf K S_f_law_best) := by
  refine fn_ok T.F_f_law_best sc_f_law_best rfl (fun cdv A outer s H E hr hgd => ?_) vc_f_law_best
  have nd := sc_f_law_best.nd
  exact wb_cons (ws_set (i := 3) nd rfl (.inl rfl) (we_non)) (wb_cons (ws_set (i := 4) nd rfl (.inl rfl) (we_non)) (wb_cons (ws_for PassesOwn.never rfl (wi_seq (we_call (ok_f_law_plans T) (hr.mono (by decide)) hgd (by rfl) T.m_f_law_plans T.F_f_law_plans.kp T.b_f_law_plans (wa_cons (we_var (i := 0) rfl (.inl rfl)) (wa_cons (we_var (i := 1) rfl (.inl rfl)) (wa_nil))))) (wg_name (i := 5) nd rfl (.inl rfl)) (wb_cons (ws_set (i := 6) nd rfl (.inl rfl) (we_call (ok_f_law_worth T) (hr.mono (by decide)) hgd (by rfl) T.m_f_law_worth T.F_f_law_worth.kp T.b_f_law_worth (wa_cons (we_var (i := 0) rfl (.inl rfl)) (wa_cons (we_var (i := 5) rfl (.inl rfl)) (wa_cons (we_var (i := 2) rfl (.inl rfl)) (wa_nil)))))) (wb_one (ws_if ((ww_or (wt_cmp (op_isN) (z_isN (f := fun b => b)) (we_var (i := 3) rfl (.inl rfl)) (we_non) ((nomark _))) (ww_or1 (wt_cmp (op_gtD hr.units0) z_gt (we_var (i := 6) rfl (.inl rfl)) (we_var (i := 3) rfl (.inl rfl)) ((nomark _))))).wt) (wb_cons (ws_set (i := 3) nd rfl (.inl rfl) (we_var (i := 6) rfl (.inl rfl))) (wb_one (ws_set (i := 4) nd rfl (.inl rfl) (we_var (i := 5) rfl (.inl rfl))))) (wb_nil))))) (wb_one (ws_ret (we_tup (wa_cons (we_var (i := 3) rfl (.inl rfl)) (wa_cons (we_var (i := 4) rfl (.inl rfl)) (wa_nil))))))))
theorem ok_p_hoped_weights (T : TxtB K mg) : FnG P w K mg T.base CX0 5 T.a_p_hoped_weights T.d_p_hoped_weights ["system", "field"] (spOf K S_p_hoped_weights) := by
  refine fn_okC T.F_p_hoped_weights sc_p_hoped_weights rfl (fun cdv A outer s H E hcd hr hgd => ?_) vc_p_hoped_weights
  have nd := sc_p_hoped_weights.nd
  exact wb_one (ws_ret (we_withT (q := "hoped_weights") (a := "keeps") (pa := "system") (p := "wish") (ip := 2) (wp := w_p_weights_with) (by decide) T.t_p_hoped_weights rfl hcd T.u T.TB T.F_p_weights_with sc_p_weights_with T.b_p_weights_with hr hgd (by rfl) T.m_p_weights_with rfl (.inl rfl) (we_var (i := 0) rfl (.inr (.inl rfl))) (lamP_by (by kernel_rfl)) rfl nd rfl (fun _ _ _ _ _ _ => rfl) (fun A outer s1 H1 f c hr hgd => we_callX z_any (fun h => pe_callB (cr_any rfl) (by rfl) T.n_any bb_any h) (wa_cons (we_lc (m := false) (t := (.nm 3)) (own := [("way", 3)]) rfl nd (wi_seq (we_ix (we_var (i := 1) rfl (by first | exact .inl rfl | exact .inr (.inl rfl) | exact .inr (.inr rfl))) (we_ix (we_var (i := 2) rfl (by first | exact .inl rfl | exact .inr (.inl rfl) | exact .inr (.inr rfl))) (we_int)))) (blkOk_by (own := [("way", 3)]) (N := N_p_hoped_weights) (by kernel_rfl)) (by simp [Tg.ix]) (fun _ _ _ _ _ => pg_name (i := 3) nd rfl (.inl rfl)) (fun _ _ _ _ _ => wts_nil) (fun _ _ _ _ _ => we_call (ok_p_is_kept T) (hr.mono (by decide)) hgd (by rfl) T.m_p_is_kept T.F_p_is_kept.kp T.b_p_is_kept (wa_cons (we_var (i := 0) rfl (by first | exact .inl rfl | exact .inr (.inl rfl) | exact .inr (.inr rfl))) (wa_cons (we_var (i := 2) rfl (by first | exact .inl rfl | exact .inr (.inl rfl) | exact .inr (.inr rfl))) (wa_cons (we_var (i := 3) rfl (by first | exact .inl rfl | exact .inr (.inl rfl) | exact .inr (.inr rfl))) (wa_nil)))))) (wa_nil))) (fun cdv A outer s H E y L hr hgd lam => tx_p_weights_with T cdv A outer s H E y L (hr.mono (by decide)) hgd lam)))
theorem ok_p_hope_of (T : TxtB K mg) : FnG P w K mg T.base CX0 6 T.a_p_hope_of T.d_p_hope_of ["system", "field", "aim"] (spOf K S_p_hope_of) := by
  refine fn_ok T.F_p_hope_of sc_p_hope_of rfl (fun cdv A outer s H E hr hgd => ?_) vc_p_hope_of
  have nd := sc_p_hope_of.nd
  exact wb_one (ws_ret (we_call (ok_p_worth_row T) (hr.mono (by decide)) hgd (by rfl) T.m_p_worth_row T.F_p_worth_row.kp T.b_p_worth_row (wa_cons (we_ix (we_var (i := 2) rfl (.inl rfl)) (we_int)) (wa_cons (we_call (ok_p_surely_moved T) (hr.mono (by decide)) hgd (by rfl) T.m_p_surely_moved T.F_p_surely_moved.kp T.b_p_surely_moved (wa_cons (we_var (i := 1) rfl (.inl rfl)) (wa_cons (we_ix (we_var (i := 2) rfl (.inl rfl)) (we_int)) (wa_nil)))) (wa_cons (we_call (ok_p_hoped_weights T) (hr.mono (by decide)) hgd (by rfl) T.m_p_hoped_weights T.F_p_hoped_weights.kp T.b_p_hoped_weights (wa_cons (we_var (i := 0) rfl (.inl rfl)) (wa_cons (we_var (i := 1) rfl (.inl rfl)) (wa_nil)))) (wa_cons (we_call (ok_p_hoped_ends T) (hr.mono (by decide)) hgd (by rfl) T.m_p_hoped_ends T.F_p_hoped_ends.kp T.b_p_hoped_ends (wa_cons (we_var (i := 0) rfl (.inl rfl)) (wa_cons (we_var (i := 1) rfl (.inl rfl)) (wa_nil)))) (wa_nil)))))))
theorem ok_p_hopeless_rightly (T : TxtB K mg) : FnG P w K mg T.base CX0 7 T.a_p_hopeless_rightly T.d_p_hopeless_rightly ["system", "field", "aim", "worth"] (spOf K S_p_hopeless_rightly) := by
  refine fn_ok T.F_p_hopeless_rightly sc_p_hopeless_rightly rfl (fun cdv A outer s H E hr hgd => ?_) vc_p_hopeless_rightly
  have nd := sc_p_hopeless_rightly.nd
  exact wb_cons (ws_if ((ww_or (wt_cmp (op_isN) (z_isN (f := fun b => b)) (we_var (i := 3) rfl (.inl rfl)) (we_non) ((nomark _))) (ww_or1 (wt_cmp (op_inB hr.units) z_inB (we_tup (wa_nil)) (we_var (i := 1) rfl (.inl rfl)) (by rfl)))).wt) (wb_one (ws_ret (we_bl))) (wb_nil)) (wb_one (ws_ret (we_cmp (op_leD hr.units0) z_le (we_call (ok_p_hope_of T) (hr.mono (by decide)) hgd (by rfl) T.m_p_hope_of T.F_p_hope_of.kp T.b_p_hope_of (wa_cons (we_var (i := 0) rfl (.inl rfl)) (wa_cons (we_var (i := 1) rfl (.inl rfl)) (wa_cons (we_var (i := 2) rfl (.inl rfl)) (wa_nil))))) (we_var (i := 3) rfl (.inl rfl)) ((nomark _)))))
theorem ok_p_holds_at (T : TxtB K mg) : FnG P w K mg T.base CX0 8 T.a_p_holds_at T.d_p_holds_at ["system", "field", "aim", "worth", "node"] (spOf K S_p_holds_at) := by
  refine fn_ok T.F_p_holds_at sc_p_holds_at rfl (fun cdv A outer s H E hr hgd => ?_) vc_p_holds_at
  have nd := sc_p_holds_at.nd
  exact wb_cons (ws_if (wt_not (wt_val (we_call (ok_p_is_a_node T) (hr.mono (by decide)) hgd (by rfl) T.m_p_is_a_node T.F_p_is_a_node.kp T.b_p_is_a_node (wa_cons (we_var (i := 4) rfl (.inl rfl)) (wa_nil))))) (wb_one (ws_ret (we_bl))) (wb_nil)) (wb_cons (ws_if (wt_cmp (op_eqC hr.units) z_eqB (we_ix (we_var (i := 4) rfl (.inl rfl)) (we_int)) (we_gint (by rfl) T.g_PARTED) ((nomark _))) (wb_one (ws_ret (we_call (ok_p_parted_rightly T) (hr.mono (by decide)) hgd (by rfl) T.m_p_parted_rightly T.F_p_parted_rightly.kp T.b_p_parted_rightly (wa_cons (we_var (i := 1) rfl (.inl rfl)) (wa_cons (we_var (i := 4) rfl (.inl rfl)) (wa_nil)))))) (wb_nil)) (wb_cons (ws_if (wt_cmp (op_eqC hr.units) z_eqB (we_ix (we_var (i := 4) rfl (.inl rfl)) (we_int)) (we_gint (by rfl) T.g_CLASH) ((nomark _))) (wb_one (ws_ret (we_call (ok_p_clashes_rightly T) (hr.mono (by decide)) hgd (by rfl) T.m_p_clashes_rightly T.F_p_clashes_rightly.kp T.b_p_clashes_rightly (wa_cons (we_var (i := 0) rfl (.inl rfl)) (wa_cons (we_var (i := 1) rfl (.inl rfl)) (wa_cons (we_var (i := 4) rfl (.inl rfl)) (wa_nil))))))) (wb_nil)) (wb_cons (ws_if (wt_cmp (op_eqC hr.units) z_eqB (we_ix (we_var (i := 4) rfl (.inl rfl)) (we_int)) (we_gint (by rfl) T.g_FULL) ((nomark _))) (wb_one (ws_ret (we_call (ok_p_full_rightly T) (hr.mono (by decide)) hgd (by rfl) T.m_p_full_rightly T.F_p_full_rightly.kp T.b_p_full_rightly (wa_cons (we_var (i := 0) rfl (.inl rfl)) (wa_cons (we_var (i := 1) rfl (.inl rfl)) (wa_cons (we_var (i := 4) rfl (.inl rfl)) (wa_nil))))))) (wb_nil)) (wb_one (ws_ret (we_call (ok_p_hopeless_rightly T) (hr.mono (by decide)) hgd (by rfl) T.m_p_hopeless_rightly T.F_p_hopeless_rightly.kp T.b_p_hopeless_rightly (wa_cons (we_var (i := 0) rfl (.inl rfl)) (wa_cons (we_var (i := 1) rfl (.inl rfl)) (wa_cons (we_var (i := 2) rfl (.inl rfl)) (wa_cons (we_var (i := 3) rfl (.inl rfl)) (wa_nil)))))))))))
theorem ok_p_cases_hold (T : TxtB K mg) : FnG P w K mg T.base CX0 9 T.a_p_cases_hold T.d_p_cases_hold ["system", "field", "aim", "worth", "thing"] (spOf K S_p_cases_hold) := by
  refine fn_okP T.F_p_cases_hold sc_p_cases_hold rfl (fun cdv A outer s H E hr hgd => ?_) vc_p_cases_hold
  have nd := sc_p_cases_hold.nd
  exact wb_cons (ws_if ((ww_or (wt_not (wt_val (we_isi tok_tuple (by rfl) T.n_isinstance (by rfl) T.n_tuple bb_tuple (we_var (i := 4) rfl (.inl rfl))))) (ww_or1 (wt_not (wt_chain (op_leD hr.units0) z_le (op_leD hr.units0) z_le (we_int) (we_callX z_len (fun h => pe_callB (CallR.or call_len_seq call_len_str) (by rfl) T.n_len bb_len h) (wa_cons (we_var (i := 4) rfl (.inl rfl)) (wa_nil))) (we_gint (by rfl) T.g_MOST_NODES))))).wt) (wb_one (ws_ret (we_bl))) (wb_nil)) (wb_cons (ws_set (i := 5) nd rfl (.inl rfl) (we_op op_addD z_addM (we_lst (m := false) (wa_cons (we_var (i := 1) rfl (.inl rfl)) (wa_nil))) (we_op op_mulD z_mul (we_lst (m := false) (wa_cons (we_non) (wa_nil))) (we_op op_sub z_sub (we_callX z_len (fun h => pe_callB (CallR.or call_len_seq call_len_str) (by rfl) T.n_len bb_len h) (wa_cons (we_var (i := 4) rfl (.inl rfl)) (wa_nil))) (we_int))))) (wb_cons (ws_for PassesOwn.never rfl (wi_enum (by rfl) T.n_enumerate (we_var (i := 4) rfl (.inl rfl))) (wg_tup rfl (wgs_cons (wg_name (i := 6) nd rfl (.inl rfl)) (wgs_cons (wg_name (i := 7) nd rfl (.inl rfl)) (wgs_nil)))) (wb_cons (ws_set (i := 8) nd rfl (.inl rfl) (we_ix (we_var (i := 5) rfl (.inl rfl)) (we_var (i := 6) rfl (.inl rfl)))) (wb_cons (ws_if ((ww_or (wt_cmp (op_isN) (z_isN (f := fun b => b)) (we_var (i := 8) rfl (.inl rfl)) (we_non) ((nomark _))) (ww_or1 (wt_not (wt_val (we_call (ok_p_holds_at T) (hr.mono (by decide)) hgd (by rfl) T.m_p_holds_at T.F_p_holds_at.kp T.b_p_holds_at (wa_cons (we_var (i := 0) rfl (.inl rfl)) (wa_cons (we_var (i := 8) rfl (.inl rfl)) (wa_cons (we_var (i := 2) rfl (.inl rfl)) (wa_cons (we_var (i := 3) rfl (.inl rfl)) (wa_cons (we_var (i := 7) rfl (.inl rfl)) (wa_nil))))))))))).wt) (wb_one (ws_ret (we_bl))) (wb_nil)) (wb_one (ws_if ((ww_and (wt_cmp (op_eqC hr.units) z_eqB (we_ix (we_var (i := 7) rfl (.inl rfl)) (we_int)) (we_gint (by rfl) T.g_PARTED) ((nomark _))) (ww_and1 (wt_not (wt_val (we_call (ok_p_led_down T) (hr.mono (by decide)) hgd (by rfl) T.m_p_led_down T.F_p_led_down.kp T.b_p_led_down (wa_cons (we_var (i := 8) rfl (.inl rfl)) (wa_cons (we_var (i := 7) rfl (.inl rfl)) (wa_cons (we_var (i := 6) rfl (.inl rfl)) (wa_cons (we_var (i := 5) rfl (.inl rfl)) (wa_nil)))))))))).wt) (wb_one (ws_ret (we_bl))) (wb_nil)))))) (wb_one (ws_ret (we_bl)))))
theorem okn_f_law_laid (T : TxtB K mg) : ∀ n : Nat, FnG P w K mg T.base CX0 (3 + n) T.a_f_law_laid T.d_f_law_laid ["_law_deck_here", "_law_system", "_law_field", "_law_worth_here", "_law_aim", "_law_cases"] (spOf K (S_f_law_laid n))
  | 0 => fnG_none none_f_law_laid
  | n + 1 => by
    have ih := okn_f_law_laid T n
    have ih_f_law_laid := ih
    · refine fn_okP (k := 3 + n) T.F_f_law_laid sc_f_law_laid rfl (fun cdv A outer s H E hr hgd => ?_) (vc_f_law_laid n)
      have nd := sc_f_law_laid.nd
      exact wb_cons (ws_set (i := 6) nd rfl (.inl rfl) (we_callX z_len (fun h => pe_callB (CallR.or call_len_seq call_len_str) (by rfl) T.n_len bb_len h) (wa_cons (we_var (i := 5) rfl (.inl rfl)) (wa_nil)))) (wb_cons (ws_expr (we_m PySem.F.slot_list_append PySem.F.type_list_append mt_append z_append (we_var (i := 5) rfl (.inl rfl)) (wa_cons (we_tup (wa_cons (we_int) (wa_nil))) (wa_nil)) (fun h1 h2 => pe_bm PySem.F.plainAttrs_list PySem.F.slot_list_append PySem.F.type_list_append mt_append h1 h2))) (wb_cons (ws_set (i := 7) nd rfl (.inl rfl) (we_call (ok_f_law_leaves T) (hr.mono (by omega)) hgd (by rfl) T.m_f_law_leaves T.F_f_law_leaves.kp T.b_f_law_leaves (wa_cons (we_var (i := 1) rfl (.inl rfl)) (wa_cons (we_var (i := 2) rfl (.inr (.inl rfl))) (wa_cons (we_var (i := 3) rfl (.inl rfl)) (wa_cons (we_var (i := 4) rfl (.inl rfl)) (wa_nil))))))) (wb_cons (ws_set (i := 8) nd rfl (.inl rfl) (we_call (ok_f_law_next T) (hr.mono (by omega)) hgd (by rfl) T.m_f_law_next T.F_f_law_next.kp T.b_f_law_next (wa_cons (we_var (i := 0) rfl (.inl rfl)) (wa_nil)))) (wb_cons (ws_if ((ww_and (wt_cmp (op_neC hr.units) z_eqB (we_var (i := 7) rfl (.inl rfl)) (we_lst (m := false) (wa_nil)) ((nomark _))) (ww_and1 (wt_cmp (op_gtD hr.units0) z_gt (we_op op_mod z_mod (we_var (i := 8) rfl (.inl rfl)) (we_int)) (we_int) ((nomark _))))).wt) (wb_cons (ws_asg (we_ix (we_var (i := 7) rfl (.inl rfl)) (we_op op_mod z_mod (we_op op_fdivW z_fdiv (we_var (i := 8) rfl (.inl rfl)) (we_int)) (we_callX z_len (fun h => pe_callB (CallR.or call_len_seq call_len_str) (by rfl) T.n_len bb_len h) (wa_cons (we_var (i := 7) rfl (.inl rfl)) (wa_nil))))) (wg_sub (we_var (i := 5) rfl (.inl rfl)) (we_var (i := 6) rfl (.inl rfl)))) (wb_one (ws_ret (we_var (i := 5) rfl (.inl rfl))))) (wb_nil)) (wb_cons (ws_setLc (m := false) (t := (.nm 10)) (i := 9) (own := [("_law_work", 10)]) rfl nd rfl rfl (sw_true rfl rfl rfl (by decide +kernel)) (wi_range1 (by rfl) T.n_range (wa_cons (we_callX z_len (fun h => pe_callB (CallR.or call_len_seq call_len_str) (by rfl) T.n_len bb_len h) (wa_cons (we_var (i := 2) rfl (.inr (.inl rfl))) (wa_nil))) (wa_nil))) (blkOk_by (own := [("_law_work", 10)]) (N := N_f_law_laid) (by kernel_rfl)) (by simp [Tg.ix]) (fun _ _ _ _ _ => pg_name (i := 10) nd rfl (.inl rfl)) (fun _ _ _ _ _ => wts_one (wt_cmp (op_neC hr.units) z_eqB (we_callX z_len (fun h => pe_callB (CallR.or call_len_seq call_len_str) (by rfl) T.n_len bb_len h) (wa_cons (we_ix (we_var (i := 2) rfl (.inr (.inl rfl))) (we_var (i := 10) rfl (.inl rfl))) (wa_nil))) (we_int) ((nomark _)))) (fun _ _ _ _ _ => we_var (i := 10) rfl (.inl rfl))) (wb_cons (ws_if (wt_cmp (op_eqC hr.units) z_eqB (we_var (i := 9) rfl (.inl rfl)) (we_lst (m := false) (wa_nil)) ((nomark _))) (wb_cons (ws_if (wt_cmp (op_eqC hr.units) z_eqB (we_var (i := 7) rfl (.inl rfl)) (we_lst (m := false) (wa_nil)) ((nomark _))) (wb_one (ws_ret (we_non))) (wb_nil)) (wb_cons (ws_asg (we_ix (we_var (i := 7) rfl (.inl rfl)) (we_op op_mod z_mod (we_op op_fdivW z_fdiv (we_var (i := 8) rfl (.inl rfl)) (we_int)) (we_callX z_len (fun h => pe_callB (CallR.or call_len_seq call_len_str) (by rfl) T.n_len bb_len h) (wa_cons (we_var (i := 7) rfl (.inl rfl)) (wa_nil))))) (wg_sub (we_var (i := 5) rfl (.inl rfl)) (we_var (i := 6) rfl (.inl rfl)))) (wb_one (ws_ret (we_var (i := 5) rfl (.inl rfl)))))) (wb_nil)) (wb_cons (ws_set (i := 10) nd rfl (.inl rfl) (we_ix (we_var (i := 9) rfl (.inl rfl)) (we_op op_mod z_mod (we_op op_fdivW z_fdiv (we_var (i := 8) rfl (.inl rfl)) (we_int)) (we_callX z_len (fun h => pe_callB (CallR.or call_len_seq call_len_str) (by rfl) T.n_len bb_len h) (wa_cons (we_var (i := 9) rfl (.inl rfl)) (wa_nil)))))) (wb_cons (ws_set (i := 11) nd rfl (.inl rfl) (we_lst (m := true) (wa_nil))) (wb_cons (ws_for PassesOwn.never rfl (wi_seq (we_ix (we_var (i := 2) rfl (.inr (.inl rfl))) (we_var (i := 10) rfl (.inl rfl)))) (wg_name (i := 12) nd rfl (.inl rfl)) (wb_cons (ws_expr (we_m PySem.F.slot_list_append PySem.F.type_list_append mt_append z_append (we_var (i := 11) rfl (.inl rfl)) (wa_cons (we_callX z_len (fun h => pe_callB (CallR.or call_len_seq call_len_str) (by rfl) T.n_len bb_len h) (wa_cons (we_var (i := 5) rfl (.inl rfl)) (wa_nil))) (wa_nil)) (fun h1 h2 => pe_bm PySem.F.plainAttrs_list PySem.F.slot_list_append PySem.F.type_list_append mt_append h1 h2))) (wb_one (ws_if (wt_cmp (op_isN) (z_isN (f := fun b => b)) (we_call ih_f_law_laid (hr.mono (by omega)) hgd (by rfl) T.m_f_law_laid T.F_f_law_laid.kp T.b_f_law_laid (wa_cons (we_var (i := 0) rfl (.inl rfl)) (wa_cons (we_var (i := 1) rfl (.inl rfl)) (wa_cons (we_call (ok_f_law_put T) (hr.mono (by omega)) hgd (by rfl) T.m_f_law_put T.F_f_law_put.kp T.b_f_law_put (wa_cons (we_var (i := 2) rfl (.inr (.inl rfl))) (wa_cons (we_var (i := 10) rfl (.inl rfl)) (wa_cons (we_tup (wa_cons (we_var (i := 12) rfl (.inl rfl)) (wa_nil))) (wa_nil))))) (wa_cons (we_var (i := 3) rfl (.inl rfl)) (wa_cons (we_var (i := 4) rfl (.inl rfl)) (wa_cons (we_var (i := 5) rfl (.inl rfl)) (wa_nil)))))))) (we_non) ((nomark _))) (wb_one (ws_ret (we_non))) (wb_nil))))) (wb_cons (ws_asg (we_tup (wa_cons (we_int) (wa_cons (we_var (i := 10) rfl (.inl rfl)) (wa_cons (we_callX z_tuple (fun h => pe_callTy call_tupleX (by rfl) T.n_tuple bb_tuple h) (wa_cons (we_var (i := 11) rfl (.inl rfl)) (wa_nil))) (wa_nil))))) (wg_sub (we_var (i := 5) rfl (.inl rfl)) (we_var (i := 6) rfl (.inl rfl)))) (wb_one (ws_ret (we_var (i := 5) rfl (.inl rfl))))))))))))))
theorem ok_f_law_laid (T : TxtB K mg) : FnG P w K mg T.base CX0 27 T.a_f_law_laid T.d_f_law_laid ["_law_deck_here", "_law_system", "_law_field", "_law_worth_here", "_law_aim", "_law_cases"] (spOf K (S_f_law_laid 24)) := (okn_f_law_laid T 24)
theorem okn_f_law_made_up (T : TxtB K mg) : ∀ n : Nat, FnG P w K mg T.base CX0 (3 + n) T.a_f_law_made_up T.d_f_law_made_up ["_law_deck_here", "_law_system", "_law_field", "_law_worth_here", "_law_aim", "_law_cases"] (spOf K (S_f_law_made_up n))
  | 0 => fnG_none none_f_law_made_up
  | n + 1 => by
    have ih := okn_f_law_made_up T n
    have ih_f_law_made_up := ih
    · refine fn_okP (k := 3 + n) T.F_f_law_made_up sc_f_law_made_up rfl (fun cdv A outer s H E hr hgd => ?_) (vc_f_law_made_up n)
      have nd := sc_f_law_made_up.nd
      exact wb_cons (ws_set (i := 6) nd rfl (.inl rfl) (we_callX z_len (fun h => pe_callB (CallR.or call_len_seq call_len_str) (by rfl) T.n_len bb_len h) (wa_cons (we_var (i := 5) rfl (.inl rfl)) (wa_nil)))) (wb_cons (ws_expr (we_m PySem.F.slot_list_append PySem.F.type_list_append mt_append z_append (we_var (i := 5) rfl (.inl rfl)) (wa_cons (we_tup (wa_cons (we_int) (wa_nil))) (wa_nil)) (fun h1 h2 => pe_bm PySem.F.plainAttrs_list PySem.F.slot_list_append PySem.F.type_list_append mt_append h1 h2))) (wb_cons (ws_set (i := 7) nd rfl (.inl rfl) (we_call (ok_f_law_leaves T) (hr.mono (by omega)) hgd (by rfl) T.m_f_law_leaves T.F_f_law_leaves.kp T.b_f_law_leaves (wa_cons (we_var (i := 1) rfl (.inl rfl)) (wa_cons (we_var (i := 2) rfl (.inr (.inl rfl))) (wa_cons (we_var (i := 3) rfl (.inl rfl)) (wa_cons (we_var (i := 4) rfl (.inl rfl)) (wa_nil))))))) (wb_cons (ws_setLc (m := false) (t := (.nm 11)) (i := 8) (own := [("_law_work", 11)]) rfl nd rfl rfl (sw_true rfl rfl rfl (by decide +kernel)) (wi_range1 (by rfl) T.n_range (wa_cons (we_callX z_len (fun h => pe_callB (CallR.or call_len_seq call_len_str) (by rfl) T.n_len bb_len h) (wa_cons (we_var (i := 2) rfl (.inr (.inl rfl))) (wa_nil))) (wa_nil))) (blkOk_by (own := [("_law_work", 11)]) (N := N_f_law_made_up) (by kernel_rfl)) (by simp [Tg.ix]) (fun _ _ _ _ _ => pg_name (i := 11) nd rfl (.inl rfl)) (fun _ _ _ _ _ => wts_one (wt_cmp (op_neC hr.units) z_eqB (we_callX z_len (fun h => pe_callB (CallR.or call_len_seq call_len_str) (by rfl) T.n_len bb_len h) (wa_cons (we_ix (we_var (i := 2) rfl (.inr (.inl rfl))) (we_var (i := 11) rfl (.inl rfl))) (wa_nil))) (we_int) ((nomark _)))) (fun _ _ _ _ _ => we_var (i := 11) rfl (.inl rfl))) (wb_cons (ws_set (i := 9) nd rfl (.inl rfl) (we_call (ok_f_law_next T) (hr.mono (by omega)) hgd (by rfl) T.m_f_law_next T.F_f_law_next.kp T.b_f_law_next (wa_cons (we_var (i := 0) rfl (.inl rfl)) (wa_nil)))) (wb_cons (ws_if ((ww_or (wt_cmp (op_eqC hr.units) z_eqB (we_var (i := 8) rfl (.inl rfl)) (we_lst (m := false) (wa_nil)) ((nomark _))) (ww_or (wt_cmp (op_eqC hr.units) z_eqB (we_op op_mod z_mod (we_var (i := 9) rfl (.inl rfl)) (we_int)) (we_int) ((nomark _))) (ww_or1 ((ww_and (wt_cmp (op_neC hr.units) z_eqB (we_var (i := 7) rfl (.inl rfl)) (we_lst (m := false) (wa_nil)) ((nomark _))) (ww_and1 (wt_cmp (op_ltD hr.units0) z_lt (we_op op_mod z_mod (we_var (i := 9) rfl (.inl rfl)) (we_int)) (we_int) ((nomark _))))).wt)))).wt) (wb_cons (ws_set (i := 10) nd rfl (.inl rfl) (we_op op_addD z_add (we_op op_mulD z_mul (we_var (i := 7) rfl (.inl rfl)) (we_int)) (we_lst (m := false) (wa_cons (we_tup (wa_cons (we_int) (wa_nil))) (wa_cons (we_tup (wa_cons (we_int) (wa_cons (we_int) (wa_cons (we_int) (wa_nil))))) (wa_cons (we_tup (wa_cons (we_int) (wa_cons (we_int) (wa_cons (we_ix (we_var (i := 1) rfl (.inl rfl)) (we_int)) (wa_nil))))) (wa_nil))))))) (wb_cons (ws_asg (we_ix (we_var (i := 10) rfl (.inl rfl)) (we_op op_mod z_mod (we_op op_fdivW z_fdiv (we_var (i := 9) rfl (.inl rfl)) (we_int)) (we_callX z_len (fun h => pe_callB (CallR.or call_len_seq call_len_str) (by rfl) T.n_len bb_len h) (wa_cons (we_var (i := 10) rfl (.inl rfl)) (wa_nil))))) (wg_sub (we_var (i := 5) rfl (.inl rfl)) (we_var (i := 6) rfl (.inl rfl)))) (wb_one (ws_ret (we_var (i := 5) rfl (.inl rfl)))))) (wb_nil)) (wb_cons (ws_set (i := 11) nd rfl (.inl rfl) (we_ix (we_var (i := 8) rfl (.inl rfl)) (we_op op_mod z_mod (we_op op_fdivW z_fdiv (we_var (i := 9) rfl (.inl rfl)) (we_int)) (we_callX z_len (fun h => pe_callB (CallR.or call_len_seq call_len_str) (by rfl) T.n_len bb_len h) (wa_cons (we_var (i := 8) rfl (.inl rfl)) (wa_nil)))))) (wb_cons (ws_set (i := 12) nd rfl (.inl rfl) (we_lst (m := true) (wa_nil))) (wb_cons (ws_for PassesOwn.never rfl (wi_seq (we_ix (we_var (i := 2) rfl (.inr (.inl rfl))) (we_var (i := 11) rfl (.inl rfl)))) (wg_name (i := 13) nd rfl (.inl rfl)) (wb_cons (ws_expr (we_m PySem.F.slot_list_append PySem.F.type_list_append mt_append z_append (we_var (i := 12) rfl (.inl rfl)) (wa_cons (we_callX z_len (fun h => pe_callB (CallR.or call_len_seq call_len_str) (by rfl) T.n_len bb_len h) (wa_cons (we_var (i := 5) rfl (.inl rfl)) (wa_nil))) (wa_nil)) (fun h1 h2 => pe_bm PySem.F.plainAttrs_list PySem.F.slot_list_append PySem.F.type_list_append mt_append h1 h2))) (wb_one (ws_expr (we_call ih_f_law_made_up (hr.mono (by omega)) hgd (by rfl) T.m_f_law_made_up T.F_f_law_made_up.kp T.b_f_law_made_up (wa_cons (we_var (i := 0) rfl (.inl rfl)) (wa_cons (we_var (i := 1) rfl (.inl rfl)) (wa_cons (we_call (ok_f_law_put T) (hr.mono (by omega)) hgd (by rfl) T.m_f_law_put T.F_f_law_put.kp T.b_f_law_put (wa_cons (we_var (i := 2) rfl (.inr (.inl rfl))) (wa_cons (we_var (i := 11) rfl (.inl rfl)) (wa_cons (we_tup (wa_cons (we_var (i := 13) rfl (.inl rfl)) (wa_nil))) (wa_nil))))) (wa_cons (we_var (i := 3) rfl (.inl rfl)) (wa_cons (we_var (i := 4) rfl (.inl rfl)) (wa_cons (we_var (i := 5) rfl (.inl rfl)) (wa_nil)))))))))))) (wb_cons (ws_asg (we_tup (wa_cons (we_int) (wa_cons (we_var (i := 11) rfl (.inl rfl)) (wa_cons (we_callX z_tuple (fun h => pe_callTy call_tupleX (by rfl) T.n_tuple bb_tuple h) (wa_cons (we_var (i := 12) rfl (.inl rfl)) (wa_nil))) (wa_nil))))) (wg_sub (we_var (i := 5) rfl (.inl rfl)) (we_var (i := 6) rfl (.inl rfl)))) (wb_one (ws_ret (we_var (i := 5) rfl (.inl rfl)))))))))))))
theorem ok_f_law_made_up (T : TxtB K mg) : FnG P w K mg T.base CX0 27 T.a_f_law_made_up T.d_f_law_made_up ["_law_deck_here", "_law_system", "_law_field", "_law_worth_here", "_law_aim", "_law_cases"] (spOf K (S_f_law_made_up 24)) := (okn_f_law_made_up T 24)
theorem ok_p_law (T : TxtB K mg) : FnG P w K mg T.base CX0 28 T.a_p_law T.d_p_law ["_law_script"] (spOf K S_p_law) := by
  refine fn_okP T.F_p_law sc_p_law rfl (fun cdv A outer s H E hr hgd => ?_) vc_p_law
  have nd := sc_p_law.nd
  exact wb_cons (ws_set (i := 1) nd rfl (.inl rfl) (we_call (ok_f_law_deck T) (hr.mono (by decide)) hgd (by rfl) T.m_f_law_deck T.F_f_law_deck.kp T.b_f_law_deck (wa_cons (we_var (i := 0) rfl (.inl rfl)) (wa_nil)))) (wb_cons (ws_for PassesOwn.never rfl (wi_range1 (by rfl) T.n_range (wa_cons (we_int) (wa_nil))) (wg_name (i := 2) nd rfl (.inl rfl)) (wb_cons (ws_set (i := 3) nd rfl (.inl rfl) (we_call (ok_f_law_little T) (hr.mono (by decide)) hgd (by rfl) T.m_f_law_little T.F_f_law_little.kp T.b_f_law_little (wa_cons (we_var (i := 1) rfl (.inl rfl)) (wa_nil)))) (wb_cons (ws_set (i := 4) nd rfl (.inl rfl) (we_call (ok_f_law_few T) (hr.mono (by decide)) hgd (by rfl) T.m_f_law_few T.F_f_law_few.kp T.b_f_law_few (wa_cons (we_var (i := 1) rfl (.inl rfl)) (wa_cons (we_call (ok_f_law_some T) (hr.mono (by decide)) hgd (by rfl) T.m_f_law_some T.F_f_law_some.kp T.b_f_law_some (wa_cons (we_var (i := 1) rfl (.inl rfl)) (wa_cons (we_call (ok_f_law_whole T) (hr.mono (by decide)) hgd (by rfl) T.m_f_law_whole T.F_f_law_whole.kp T.b_f_law_whole (wa_cons (we_var (i := 3) rfl (.inl rfl)) (wa_nil))) (wa_nil)))) (wa_cons (we_int) (wa_nil)))))) (wb_cons (ws_set (i := 5) nd rfl (.inl rfl) (we_tup (wa_cons (we_cmp (op_eqC hr.units) z_eqB (we_op op_mod z_mod (we_call (ok_f_law_next T) (hr.mono (by decide)) hgd (by rfl) T.m_f_law_next T.F_f_law_next.kp T.b_f_law_next (wa_cons (we_var (i := 1) rfl (.inl rfl)) (wa_nil))) (we_int)) (we_int) ((nomark _))) (wa_cons (we_call (ok_f_law_pairs T) (hr.mono (by decide)) hgd (by rfl) T.m_f_law_pairs T.F_f_law_pairs.kp T.b_f_law_pairs (wa_cons (we_var (i := 1) rfl (.inl rfl)) (wa_cons (we_var (i := 3) rfl (.inl rfl)) (wa_nil)))) (wa_nil))))) (wb_cons (ws_set (i := 6) nd rfl (.inl rfl) (we_ix (we_call (ok_f_law_best T) (hr.mono (by decide)) hgd (by rfl) T.m_f_law_best T.F_f_law_best.kp T.b_f_law_best (wa_cons (we_var (i := 3) rfl (.inl rfl)) (wa_cons (we_var (i := 4) rfl (.inl rfl)) (wa_cons (we_var (i := 5) rfl (.inl rfl)) (wa_nil))))) (we_int))) (wb_cons (ws_set (i := 7) nd rfl (.inl rfl) (we_callX z_tuple (fun h => pe_callTy call_tupleX (by rfl) T.n_tuple bb_tuple h) (wa_cons (we_call (ok_f_law_laid T) (hr.mono (by decide)) hgd (by rfl) T.m_f_law_laid T.F_f_law_laid.kp T.b_f_law_laid (wa_cons (we_var (i := 1) rfl (.inl rfl)) (wa_cons (we_var (i := 3) rfl (.inl rfl)) (wa_cons (we_var (i := 4) rfl (.inl rfl)) (wa_cons (we_var (i := 6) rfl (.inl rfl)) (wa_cons (we_var (i := 5) rfl (.inl rfl)) (wa_cons (we_lst (m := true) (wa_nil)) (wa_nil)))))))) (wa_nil)))) (wb_cons (ws_set (i := 8) nd rfl (.inl rfl) (we_lst (m := true) (wa_cons (we_var (i := 6) rfl (.inl rfl)) (wa_cons (we_non) (wa_cons (we_op op_mulD z_mul (we_tup (wa_cons (we_op op_mod z_mod (we_call (ok_f_law_next T) (hr.mono (by decide)) hgd (by rfl) T.m_f_law_next T.F_f_law_next.kp T.b_f_law_next (wa_cons (we_var (i := 1) rfl (.inl rfl)) (wa_nil))) (we_int)) (wa_nil))) (we_int)) (wa_nil)))))) (wb_cons (ws_if (wt_cmp (op_notN) (z_isN (f := fun b => !b)) (we_var (i := 6) rfl (.inl rfl)) (we_non) ((nomark _))) (wb_cons (ws_set (i := 9) nd rfl (.inl rfl) (we_op op_mod z_mod (we_call (ok_f_law_next T) (hr.mono (by decide)) hgd (by rfl) T.m_f_law_next T.F_f_law_next.kp T.b_f_law_next (wa_cons (we_var (i := 1) rfl (.inl rfl)) (wa_nil))) (we_int))) (wb_one (ws_expr (we_m PySem.F.slot_list_append PySem.F.type_list_append mt_append z_append (we_var (i := 8) rfl (.inl rfl)) (wa_cons (we_call (ok_f_law_put T) (hr.mono (by decide)) hgd (by rfl) T.m_f_law_put T.F_f_law_put.kp T.b_f_law_put (wa_cons (we_var (i := 6) rfl (.inl rfl)) (wa_cons (we_var (i := 9) rfl (.inl rfl)) (wa_cons (we_op op_sub z_sub (we_op op_sub z_sub (we_ix (we_var (i := 6) rfl (.inl rfl)) (we_var (i := 9) rfl (.inl rfl))) (we_int)) (we_op op_mod z_mod (we_call (ok_f_law_next T) (hr.mono (by decide)) hgd (by rfl) T.m_f_law_next T.F_f_law_next.kp T.b_f_law_next (wa_cons (we_var (i := 1) rfl (.inl rfl)) (wa_nil))) (we_int))) (wa_nil))))) (wa_nil)) (fun h1 h2 => pe_bm PySem.F.plainAttrs_list PySem.F.slot_list_append PySem.F.type_list_append mt_append h1 h2))))) (wb_nil)) (wb_cons (ws_for PassesOwn.never rfl (wi_seq (we_var (i := 8) rfl (.inl rfl))) (wg_name (i := 10) nd rfl (.inl rfl)) (wb_cons (ws_set (i := 11) nd rfl (.inl rfl) (we_lst (m := true) (wa_cons (we_var (i := 7) rfl (.inl rfl)) (wa_cons (we_callX z_tuple (fun h => pe_callTy call_tupleX (by rfl) T.n_tuple bb_tuple h) (wa_cons (we_call (ok_f_law_made_up T) (hr.mono (by decide)) hgd (by rfl) T.m_f_law_made_up T.F_f_law_made_up.kp T.b_f_law_made_up (wa_cons (we_var (i := 1) rfl (.inl rfl)) (wa_cons (we_var (i := 3) rfl (.inl rfl)) (wa_cons (we_var (i := 4) rfl (.inl rfl)) (wa_cons (we_var (i := 10) rfl (.inl rfl)) (wa_cons (we_var (i := 5) rfl (.inl rfl)) (wa_cons (we_lst (m := true) (wa_nil)) (wa_nil)))))))) (wa_nil))) (wa_nil))))) (wb_cons (ws_expr (we_m PySem.F.slot_list_append PySem.F.type_list_append mt_append z_append (we_var (i := 11) rfl (.inl rfl)) (wa_cons (we_call (ok_f_law_bent_cases T) (hr.mono (by decide)) hgd (by rfl) T.m_f_law_bent_cases T.F_f_law_bent_cases.kp T.b_f_law_bent_cases (wa_cons (we_var (i := 1) rfl (.inl rfl)) (wa_cons (we_ix (we_var (i := 11) rfl (.inl rfl)) (we_int)) (wa_cons (we_ix (we_var (i := 3) rfl (.inl rfl)) (we_int)) (wa_cons (we_callX z_len (fun h => pe_callB (CallR.or call_len_seq call_len_str) (by rfl) T.n_len bb_len h) (wa_cons (we_ix (we_var (i := 3) rfl (.inl rfl)) (we_int)) (wa_nil))) (wa_nil)))))) (wa_nil)) (fun h1 h2 => pe_bm PySem.F.plainAttrs_list PySem.F.slot_list_append PySem.F.type_list_append mt_append h1 h2))) (wb_cons (ws_expr (we_m PySem.F.slot_list_append PySem.F.type_list_append mt_append z_append (we_var (i := 11) rfl (.inl rfl)) (wa_cons (we_call (ok_f_law_bent_cases T) (hr.mono (by decide)) hgd (by rfl) T.m_f_law_bent_cases T.F_f_law_bent_cases.kp T.b_f_law_bent_cases (wa_cons (we_var (i := 1) rfl (.inl rfl)) (wa_cons (we_var (i := 7) rfl (.inl rfl)) (wa_cons (we_ix (we_var (i := 3) rfl (.inl rfl)) (we_int)) (wa_cons (we_callX z_len (fun h => pe_callB (CallR.or call_len_seq call_len_str) (by rfl) T.n_len bb_len h) (wa_cons (we_ix (we_var (i := 3) rfl (.inl rfl)) (we_int)) (wa_nil))) (wa_nil)))))) (wa_nil)) (fun h1 h2 => pe_bm PySem.F.plainAttrs_list PySem.F.slot_list_append PySem.F.type_list_append mt_append h1 h2))) (wb_one (ws_for PassesOwn.never rfl (wi_seq (we_var (i := 11) rfl (.inl rfl))) (wg_name (i := 12) nd rfl (.inl rfl)) (wb_cons (ws_set (i := 13) nd rfl (.inl rfl) (we_call (ok_p_cases_hold T) (hr.mono (by decide)) hgd (by rfl) T.m_p_cases_hold T.F_p_cases_hold.kp T.b_p_cases_hold (wa_cons (we_var (i := 3) rfl (.inl rfl)) (wa_cons (we_var (i := 4) rfl (.inl rfl)) (wa_cons (we_var (i := 5) rfl (.inl rfl)) (wa_cons (we_var (i := 10) rfl (.inl rfl)) (wa_cons (we_var (i := 12) rfl (.inl rfl)) (wa_nil)))))))) (wb_cons (ws_if (wt_not (wt_val (we_isi tok_bool (by rfl) T.n_isinstance (by rfl) T.n_bool bb_bool (we_var (i := 13) rfl (.inl rfl))))) (wb_one (ws_ret (we_bl))) (wb_nil)) (wb_one (ws_if ((ww_and (wt_val (we_var (i := 13) rfl (.inl rfl))) (ww_and (wt_cmp (op_notN) (z_isN (f := fun b => !b)) (we_var (i := 6) rfl (.inl rfl)) (we_non) ((nomark _))) (ww_and1 ((ww_or (wt_cmp (op_isN) (z_isN (f := fun b => b)) (we_var (i := 10) rfl (.inl rfl)) (we_non) ((nomark _))) (ww_or1 (wt_cmp (op_gtD hr.units0) z_gt (we_var (i := 6) rfl (.inl rfl)) (we_var (i := 10) rfl (.inl rfl)) ((nomark _))))).wt)))).wt) (wb_one (ws_ret (we_bl))) (wb_nil))))))))))) (wb_one (ws_if (wt_cmp (op_notBl) (z_isBl (f := fun b => !b)) (we_call (ok_p_cases_hold T) (hr.mono (by decide)) hgd (by rfl) T.m_p_cases_hold T.F_p_cases_hold.kp T.b_p_cases_hold (wa_cons (we_var (i := 3) rfl (.inl rfl)) (wa_cons (we_var (i := 4) rfl (.inl rfl)) (wa_cons (we_var (i := 5) rfl (.inl rfl)) (wa_cons (we_var (i := 6) rfl (.inl rfl)) (wa_cons (we_var (i := 7) rfl (.inl rfl)) (wa_nil))))))) (we_bl) ((nomark _))) (wb_one (ws_ret (we_bl))) (wb_nil)))))))))))) (wb_one (ws_ret (we_bl))))
end
theorem all_mk {l : PySem.W.OpenLaw} {w : World} {K : PySem.W.Frag} {h : Heap} {mg : Str → Option Value} {fa : Addr} (X : K.In h) (G : h.Ns mainGlobals mg) (hfa : mg "law" = some (.ref fa))
    {f0 : Addr} {od0 an0 : Option Addr} {sl0 : Array (Option Value)} {oc0 kV0 dc0 pm0 cd0 ct0 : Value}
    {f1 : Addr} {od1 an1 : Option Addr} {sl1 : Array (Option Value)} {oc1 kV1 dc1 pm1 cd1 ct1 : Value}
    {f2 : Addr} {od2 an2 : Option Addr} {sl2 : Array (Option Value)} {oc2 kV2 dc2 pm2 cd2 ct2 : Value}
    {f3 : Addr} {od3 an3 : Option Addr} {sl3 : Array (Option Value)} {oc3 kV3 dc3 pm3 cd3 ct3 : Value}
    {f4 : Addr} {od4 an4 : Option Addr} {sl4 : Array (Option Value)} {oc4 kV4 dc4 pm4 cd4 ct4 : Value}
    {f5 : Addr} {od5 an5 : Option Addr} {sl5 : Array (Option Value)} {oc5 kV5 dc5 pm5 cd5 ct5 : Value}
    {f6 : Addr} {od6 an6 : Option Addr} {sl6 : Array (Option Value)} {oc6 kV6 dc6 pm6 cd6 ct6 : Value}
    {f7 : Addr} {od7 an7 : Option Addr} {sl7 : Array (Option Value)} {oc7 kV7 dc7 pm7 cd7 ct7 : Value}
    {f8 : Addr} {od8 an8 : Option Addr} {sl8 : Array (Option Value)} {oc8 kV8 dc8 pm8 cd8 ct8 : Value}
    {f9 : Addr} {od9 an9 : Option Addr} {sl9 : Array (Option Value)} {oc9 kV9 dc9 pm9 cd9 ct9 : Value}
    {f10 : Addr} {od10 an10 : Option Addr} {sl10 : Array (Option Value)} {oc10 kV10 dc10 pm10 cd10 ct10 : Value}
    {f11 : Addr} {od11 an11 : Option Addr} {sl11 : Array (Option Value)} {oc11 kV11 dc11 pm11 cd11 ct11 : Value}
    {f12 : Addr} {od12 an12 : Option Addr} {sl12 : Array (Option Value)} {oc12 kV12 dc12 pm12 cd12 ct12 : Value}
    {f13 : Addr} {od13 an13 : Option Addr} {sl13 : Array (Option Value)} {oc13 kV13 dc13 pm13 cd13 ct13 : Value}
    {f14 : Addr} {od14 an14 : Option Addr} {sl14 : Array (Option Value)} {oc14 kV14 dc14 pm14 cd14 ct14 : Value}
    {f15 : Addr} {od15 an15 : Option Addr} {sl15 : Array (Option Value)} {oc15 kV15 dc15 pm15 cd15 ct15 : Value}
    {f16 : Addr} {od16 an16 : Option Addr} {sl16 : Array (Option Value)} {oc16 kV16 dc16 pm16 cd16 ct16 : Value}
    {f17 : Addr} {od17 an17 : Option Addr} {sl17 : Array (Option Value)} {oc17 kV17 dc17 pm17 cd17 ct17 : Value}
    {f18 : Addr} {od18 an18 : Option Addr} {sl18 : Array (Option Value)} {oc18 kV18 dc18 pm18 cd18 ct18 : Value}
    {f19 : Addr} {od19 an19 : Option Addr} {sl19 : Array (Option Value)} {oc19 kV19 dc19 pm19 cd19 ct19 : Value}
    {f20 : Addr} {od20 an20 : Option Addr} {sl20 : Array (Option Value)} {oc20 kV20 dc20 pm20 cd20 ct20 : Value}
    {f21 : Addr} {od21 an21 : Option Addr} {sl21 : Array (Option Value)} {oc21 kV21 dc21 pm21 cd21 ct21 : Value}
    {f22 : Addr} {od22 an22 : Option Addr} {sl22 : Array (Option Value)} {oc22 kV22 dc22 pm22 cd22 ct22 : Value}
    {f23 : Addr} {od23 an23 : Option Addr} {sl23 : Array (Option Value)} {oc23 kV23 dc23 pm23 cd23 ct23 : Value}
    {f24 : Addr} {od24 an24 : Option Addr} {sl24 : Array (Option Value)} {oc24 kV24 dc24 pm24 cd24 ct24 : Value}
    {f25 : Addr} {od25 an25 : Option Addr} {sl25 : Array (Option Value)} {oc25 kV25 dc25 pm25 cd25 ct25 : Value}
    {f26 : Addr} {od26 an26 : Option Addr} {sl26 : Array (Option Value)} {oc26 kV26 dc26 pm26 cd26 ct26 : Value}
    {f27 : Addr} {od27 an27 : Option Addr} {sl27 : Array (Option Value)} {oc27 kV27 dc27 pm27 cd27 ct27 : Value}
    {f28 : Addr} {od28 an28 : Option Addr} {sl28 : Array (Option Value)} {oc28 kV28 dc28 pm28 cd28 ct28 : Value}
    {f29 : Addr} {od29 an29 : Option Addr} {sl29 : Array (Option Value)} {oc29 kV29 dc29 pm29 cd29 ct29 : Value}
    {f30 : Addr} {od30 an30 : Option Addr} {sl30 : Array (Option Value)} {oc30 kV30 dc30 pm30 cd30 ct30 : Value}
    {f31 : Addr} {od31 an31 : Option Addr} {sl31 : Array (Option Value)} {oc31 kV31 dc31 pm31 cd31 ct31 : Value}
    {f32 : Addr} {od32 an32 : Option Addr} {sl32 : Array (Option Value)} {oc32 kV32 dc32 pm32 cd32 ct32 : Value}
    {f33 : Addr} {od33 an33 : Option Addr} {sl33 : Array (Option Value)} {oc33 kV33 dc33 pm33 cd33 ct33 : Value}
    {f34 : Addr} {od34 an34 : Option Addr} {sl34 : Array (Option Value)} {oc34 kV34 dc34 pm34 cd34 ct34 : Value}
    {f35 : Addr} {od35 an35 : Option Addr} {sl35 : Array (Option Value)} {oc35 kV35 dc35 pm35 cd35 ct35 : Value}
    {f36 : Addr} {od36 an36 : Option Addr} {sl36 : Array (Option Value)} {oc36 kV36 dc36 pm36 cd36 ct36 : Value}
    {f37 : Addr} {od37 an37 : Option Addr} {sl37 : Array (Option Value)} {oc37 kV37 dc37 pm37 cd37 ct37 : Value}
    {f38 : Addr} {od38 an38 : Option Addr} {sl38 : Array (Option Value)} {oc38 kV38 dc38 pm38 cd38 ct38 : Value}
    {f39 : Addr} {od39 an39 : Option Addr} {sl39 : Array (Option Value)} {oc39 kV39 dc39 pm39 cd39 ct39 : Value}
    {f40 : Addr} {od40 an40 : Option Addr} {sl40 : Array (Option Value)} {oc40 kV40 dc40 pm40 cd40 ct40 : Value}
    {f41 : Addr} {od41 an41 : Option Addr} {sl41 : Array (Option Value)} {oc41 kV41 dc41 pm41 cd41 ct41 : Value}
    {f42 : Addr} {od42 an42 : Option Addr} {sl42 : Array (Option Value)} {oc42 kV42 dc42 pm42 cd42 ct42 : Value}
    {f43 : Addr} {od43 an43 : Option Addr} {sl43 : Array (Option Value)} {oc43 kV43 dc43 pm43 cd43 ct43 : Value}
    {f44 : Addr} {od44 an44 : Option Addr} {sl44 : Array (Option Value)} {oc44 kV44 dc44 pm44 cd44 ct44 : Value}
    {f45 : Addr} {od45 an45 : Option Addr} {sl45 : Array (Option Value)} {oc45 kV45 dc45 pm45 cd45 ct45 : Value}
    {f46 : Addr} {od46 an46 : Option Addr} {sl46 : Array (Option Value)} {oc46 kV46 dc46 pm46 cd46 ct46 : Value}
    {f47 : Addr} {od47 an47 : Option Addr} {sl47 : Array (Option Value)} {oc47 kV47 dc47 pm47 cd47 ct47 : Value}
    {f48 : Addr} {od48 an48 : Option Addr} {sl48 : Array (Option Value)} {oc48 kV48 dc48 pm48 cd48 ct48 : Value}
    {f49 : Addr} {od49 an49 : Option Addr} {sl49 : Array (Option Value)} {oc49 kV49 dc49 pm49 cd49 ct49 : Value}
    {f50 : Addr} {od50 an50 : Option Addr} {sl50 : Array (Option Value)} {oc50 kV50 dc50 pm50 cd50 ct50 : Value}
    {f51 : Addr} {od51 an51 : Option Addr} {sl51 : Array (Option Value)} {oc51 kV51 dc51 pm51 cd51 ct51 : Value}
    {f52 : Addr} {od52 an52 : Option Addr} {sl52 : Array (Option Value)} {oc52 kV52 dc52 pm52 cd52 ct52 : Value}
    {t_CLASH : Tok}
    {t_FULL : Tok}
    {t_MOST_NODES : Tok}
    {t_PARTED : Tok}
    {t_RANKS : Tok}
    {t_SIZES_0 t_SIZES_1 t_SIZES_2 t_SIZES_3 : Tok} {f_SIZES : Addr} {n_SIZES : Nat} {sl_SIZES : Array (Option Value)}
    (a0 : PySem.W.nsIn K mainGlobals "is_number" = some (some (.ref f0))) (l0 : K.lookup f0 = some ⟨oc0, od0, .func (PySem.W.fnOf "is_number" "is_number" (defArgs s_p_is_number) (defBody s_p_is_number) (defScope s_p_is_number) .none kV0 dc0 pm0 an0 cd0 ct0), sl0⟩) (c0 : PySem.W.codeIn K cd0 "is_number" = true) (k0 : PySem.W.keepIn K (.ref f0) = true)
    (a1 : PySem.W.nsIn K mainGlobals "end_of" = some (some (.ref f1))) (l1 : K.lookup f1 = some ⟨oc1, od1, .func (PySem.W.fnOf "end_of" "end_of" (defArgs s_p_end_of) (defBody s_p_end_of) (defScope s_p_end_of) .none kV1 dc1 pm1 an1 cd1 ct1), sl1⟩) (c1 : PySem.W.codeIn K cd1 "end_of" = true) (k1 : PySem.W.keepIn K (.ref f1) = true)
    (a2 : PySem.W.nsIn K mainGlobals "with_one_way" = some (some (.ref f2))) (l2 : K.lookup f2 = some ⟨oc2, od2, .func (PySem.W.fnOf "with_one_way" "with_one_way" (defArgs s_p_with_one_way) (defBody s_p_with_one_way) (defScope s_p_with_one_way) .none kV2 dc2 pm2 an2 cd2 ct2), sl2⟩) (c2 : PySem.W.codeIn K cd2 "with_one_way" = true) (k2 : PySem.W.keepIn K (.ref f2) = true)
    (a3 : PySem.W.nsIn K mainGlobals "weights_with" = some (some (.ref f3))) (l3 : K.lookup f3 = some ⟨oc3, od3, .func (PySem.W.fnOf "weights_with" "weights_with" (defArgs s_p_weights_with) (defBody s_p_weights_with) (defScope s_p_weights_with) .none kV3 dc3 pm3 an3 cd3 ct3), sl3⟩) (c3 : PySem.W.codeIn K cd3 "weights_with" = true) (k3 : PySem.W.keepIn K (.ref f3) = true)
    (a4 : PySem.W.nsIn K mainGlobals "worth_row" = some (some (.ref f4))) (l4 : K.lookup f4 = some ⟨oc4, od4, .func (PySem.W.fnOf "worth_row" "worth_row" (defArgs s_p_worth_row) (defBody s_p_worth_row) (defScope s_p_worth_row) .none kV4 dc4 pm4 an4 cd4 ct4), sl4⟩) (c4 : PySem.W.codeIn K cd4 "worth_row" = true) (k4 : PySem.W.keepIn K (.ref f4) = true)
    (a5 : PySem.W.nsIn K mainGlobals "surely_moved" = some (some (.ref f5))) (l5 : K.lookup f5 = some ⟨oc5, od5, .func (PySem.W.fnOf "surely_moved" "surely_moved" (defArgs s_p_surely_moved) (defBody s_p_surely_moved) (defScope s_p_surely_moved) .none kV5 dc5 pm5 an5 cd5 ct5), sl5⟩) (c5 : PySem.W.codeIn K cd5 "surely_moved" = true) (k5 : PySem.W.keepIn K (.ref f5) = true)
    (a6 : PySem.W.nsIn K mainGlobals "given_days" = some (some (.ref f6))) (l6 : K.lookup f6 = some ⟨oc6, od6, .func (PySem.W.fnOf "given_days" "given_days" (defArgs s_p_given_days) (defBody s_p_given_days) (defScope s_p_given_days) .none kV6 dc6 pm6 an6 cd6 ct6), sl6⟩) (c6 : PySem.W.codeIn K cd6 "given_days" = true) (k6 : PySem.W.keepIn K (.ref f6) = true)
    (a7 : PySem.W.nsIn K mainGlobals "_law_deck" = some (some (.ref f7))) (l7 : K.lookup f7 = some ⟨oc7, od7, .func (PySem.W.fnOf "_law_deck" "_law_deck" (defArgs s_f_law_deck) (defBody s_f_law_deck) (defScope s_f_law_deck) .none kV7 dc7 pm7 an7 cd7 ct7), sl7⟩) (c7 : PySem.W.codeIn K cd7 "_law_deck" = true) (k7 : PySem.W.keepIn K (.ref f7) = true)
    (a8 : PySem.W.nsIn K mainGlobals "_law_next" = some (some (.ref f8))) (l8 : K.lookup f8 = some ⟨oc8, od8, .func (PySem.W.fnOf "_law_next" "_law_next" (defArgs s_f_law_next) (defBody s_f_law_next) (defScope s_f_law_next) .none kV8 dc8 pm8 an8 cd8 ct8), sl8⟩) (c8 : PySem.W.codeIn K cd8 "_law_next" = true) (k8 : PySem.W.keepIn K (.ref f8) = true)
    (a9 : PySem.W.nsIn K mainGlobals "_law_put" = some (some (.ref f9))) (l9 : K.lookup f9 = some ⟨oc9, od9, .func (PySem.W.fnOf "_law_put" "_law_put" (defArgs s_f_law_put) (defBody s_f_law_put) (defScope s_f_law_put) .none kV9 dc9 pm9 an9 cd9 ct9), sl9⟩) (c9 : PySem.W.codeIn K cd9 "_law_put" = true) (k9 : PySem.W.keepIn K (.ref f9) = true)
    (a10 : PySem.W.nsIn K mainGlobals "_law_ways" = some (some (.ref f10))) (l10 : K.lookup f10 = some ⟨oc10, od10, .func (PySem.W.fnOf "_law_ways" "_law_ways" (defArgs s_f_law_ways) (defBody s_f_law_ways) (defScope s_f_law_ways) .none kV10 dc10 pm10 an10 cd10 ct10), sl10⟩) (c10 : PySem.W.codeIn K cd10 "_law_ways" = true) (k10 : PySem.W.keepIn K (.ref f10) = true)
    (a11 : PySem.W.nsIn K mainGlobals "_law_clash" = some (some (.ref f11))) (l11 : K.lookup f11 = some ⟨oc11, od11, .func (PySem.W.fnOf "_law_clash" "_law_clash" (defArgs s_f_law_clash) (defBody s_f_law_clash) (defScope s_f_law_clash) .none kV11 dc11 pm11 an11 cd11 ct11), sl11⟩) (c11 : PySem.W.codeIn K cd11 "_law_clash" = true) (k11 : PySem.W.keepIn K (.ref f11) = true)
    (a12 : PySem.W.nsIn K mainGlobals "_law_kept" = some (some (.ref f12))) (l12 : K.lookup f12 = some ⟨oc12, od12, .func (PySem.W.fnOf "_law_kept" "_law_kept" (defArgs s_f_law_kept) (defBody s_f_law_kept) (defScope s_f_law_kept) .none kV12 dc12 pm12 an12 cd12 ct12), sl12⟩) (c12 : PySem.W.codeIn K cd12 "_law_kept" = true) (k12 : PySem.W.keepIn K (.ref f12) = true)
    (a13 : PySem.W.nsIn K mainGlobals "_law_ends" = some (some (.ref f13))) (l13 : K.lookup f13 = some ⟨oc13, od13, .func (PySem.W.fnOf "_law_ends" "_law_ends" (defArgs s_f_law_ends) (defBody s_f_law_ends) (defScope s_f_law_ends) .none kV13 dc13 pm13 an13 cd13 ct13), sl13⟩) (c13 : PySem.W.codeIn K cd13 "_law_ends" = true) (k13 : PySem.W.keepIn K (.ref f13) = true)
    (a14 : PySem.W.nsIn K mainGlobals "_law_row_of" = some (some (.ref f14))) (l14 : K.lookup f14 = some ⟨oc14, od14, .func (PySem.W.fnOf "_law_row_of" "_law_row_of" (defArgs s_f_law_row_of) (defBody s_f_law_row_of) (defScope s_f_law_row_of) .none kV14 dc14 pm14 an14 cd14 ct14), sl14⟩) (c14 : PySem.W.codeIn K cd14 "_law_row_of" = true) (k14 : PySem.W.keepIn K (.ref f14) = true)
    (a15 : PySem.W.nsIn K mainGlobals "_law_moved" = some (some (.ref f15))) (l15 : K.lookup f15 = some ⟨oc15, od15, .func (PySem.W.fnOf "_law_moved" "_law_moved" (defArgs s_f_law_moved) (defBody s_f_law_moved) (defScope s_f_law_moved) .none kV15 dc15 pm15 an15 cd15 ct15), sl15⟩) (c15 : PySem.W.codeIn K cd15 "_law_moved" = true) (k15 : PySem.W.keepIn K (.ref f15) = true)
    (a16 : PySem.W.nsIn K mainGlobals "_law_full" = some (some (.ref f16))) (l16 : K.lookup f16 = some ⟨oc16, od16, .func (PySem.W.fnOf "_law_full" "_law_full" (defArgs s_f_law_full) (defBody s_f_law_full) (defScope s_f_law_full) .none kV16 dc16 pm16 an16 cd16 ct16), sl16⟩) (c16 : PySem.W.codeIn K cd16 "_law_full" = true) (k16 : PySem.W.keepIn K (.ref f16) = true)
    (a17 : PySem.W.nsIn K mainGlobals "is_from" = some (some (.ref f17))) (l17 : K.lookup f17 = some ⟨oc17, od17, .func (PySem.W.fnOf "is_from" "is_from" (defArgs s_p_is_from) (defBody s_p_is_from) (defScope s_p_is_from) .none kV17 dc17 pm17 an17 cd17 ct17), sl17⟩) (c17 : PySem.W.codeIn K cd17 "is_from" = true) (k17 : PySem.W.keepIn K (.ref f17) = true)
    (a18 : PySem.W.nsIn K mainGlobals "is_behind" = some (some (.ref f18))) (l18 : K.lookup f18 = some ⟨oc18, od18, .func (PySem.W.fnOf "is_behind" "is_behind" (defArgs s_p_is_behind) (defBody s_p_is_behind) (defScope s_p_is_behind) .none kV18 dc18 pm18 an18 cd18 ct18), sl18⟩) (c18 : PySem.W.codeIn K cd18 "is_behind" = true) (k18 : PySem.W.keepIn K (.ref f18) = true)
    (a19 : PySem.W.nsIn K mainGlobals "is_kept" = some (some (.ref f19))) (l19 : K.lookup f19 = some ⟨oc19, od19, .func (PySem.W.fnOf "is_kept" "is_kept" (defArgs s_p_is_kept) (defBody s_p_is_kept) (defScope s_p_is_kept) .none kV19 dc19 pm19 an19 cd19 ct19), sl19⟩) (c19 : PySem.W.codeIn K cd19 "is_kept" = true) (k19 : PySem.W.keepIn K (.ref f19) = true)
    (a20 : PySem.W.nsIn K mainGlobals "hoped_ends" = some (some (.ref f20))) (l20 : K.lookup f20 = some ⟨oc20, od20, .func (PySem.W.fnOf "hoped_ends" "hoped_ends" (defArgs s_p_hoped_ends) (defBody s_p_hoped_ends) (defScope s_p_hoped_ends) .none kV20 dc20 pm20 an20 cd20 ct20), sl20⟩) (c20 : PySem.W.codeIn K cd20 "hoped_ends" = true) (k20 : PySem.W.keepIn K (.ref f20) = true)
    (a21 : PySem.W.nsIn K mainGlobals "is_within" = some (some (.ref f21))) (l21 : K.lookup f21 = some ⟨oc21, od21, .func (PySem.W.fnOf "is_within" "is_within" (defArgs s_p_is_within) (defBody s_p_is_within) (defScope s_p_is_within) .none kV21 dc21 pm21 an21 cd21 ct21), sl21⟩) (c21 : PySem.W.codeIn K cd21 "is_within" = true) (k21 : PySem.W.keepIn K (.ref f21) = true)
    (a22 : PySem.W.nsIn K mainGlobals "_law_goes" = some (some (.ref f22))) (l22 : K.lookup f22 = some ⟨oc22, od22, .func (PySem.W.fnOf "_law_goes" "_law_goes" (defArgs s_f_law_goes) (defBody s_f_law_goes) (defScope s_f_law_goes) .none kV22 dc22 pm22 an22 cd22 ct22), sl22⟩) (c22 : PySem.W.codeIn K cd22 "_law_goes" = true) (k22 : PySem.W.keepIn K (.ref f22) = true)
    (a23 : PySem.W.nsIn K mainGlobals "_law_whole" = some (some (.ref f23))) (l23 : K.lookup f23 = some ⟨oc23, od23, .func (PySem.W.fnOf "_law_whole" "_law_whole" (defArgs s_f_law_whole) (defBody s_f_law_whole) (defScope s_f_law_whole) .none kV23 dc23 pm23 an23 cd23 ct23), sl23⟩) (c23 : PySem.W.codeIn K cd23 "_law_whole" = true) (k23 : PySem.W.keepIn K (.ref f23) = true)
    (a24 : PySem.W.nsIn K mainGlobals "_law_weights" = some (some (.ref f24))) (l24 : K.lookup f24 = some ⟨oc24, od24, .func (PySem.W.fnOf "_law_weights" "_law_weights" (defArgs s_f_law_weights) (defBody s_f_law_weights) (defScope s_f_law_weights) .none kV24 dc24 pm24 an24 cd24 ct24), sl24⟩) (c24 : PySem.W.codeIn K cd24 "_law_weights" = true) (k24 : PySem.W.keepIn K (.ref f24) = true)
    (a25 : PySem.W.nsIn K mainGlobals "_law_hope" = some (some (.ref f25))) (l25 : K.lookup f25 = some ⟨oc25, od25, .func (PySem.W.fnOf "_law_hope" "_law_hope" (defArgs s_f_law_hope) (defBody s_f_law_hope) (defScope s_f_law_hope) .none kV25 dc25 pm25 an25 cd25 ct25), sl25⟩) (c25 : PySem.W.codeIn K cd25 "_law_hope" = true) (k25 : PySem.W.keepIn K (.ref f25) = true)
    (a26 : PySem.W.nsIn K mainGlobals "_law_some" = some (some (.ref f26))) (l26 : K.lookup f26 = some ⟨oc26, od26, .func (PySem.W.fnOf "_law_some" "_law_some" (defArgs s_f_law_some) (defBody s_f_law_some) (defScope s_f_law_some) .none kV26 dc26 pm26 an26 cd26 ct26), sl26⟩) (c26 : PySem.W.codeIn K cd26 "_law_some" = true) (k26 : PySem.W.keepIn K (.ref f26) = true)
    (a27 : PySem.W.nsIn K mainGlobals "_law_few" = some (some (.ref f27))) (l27 : K.lookup f27 = some ⟨oc27, od27, .func (PySem.W.fnOf "_law_few" "_law_few" (defArgs s_f_law_few) (defBody s_f_law_few) (defScope s_f_law_few) .none kV27 dc27 pm27 an27 cd27 ct27), sl27⟩) (c27 : PySem.W.codeIn K cd27 "_law_few" = true) (k27 : PySem.W.keepIn K (.ref f27) = true)
    (a28 : PySem.W.nsIn K mainGlobals "_law_days" = some (some (.ref f28))) (l28 : K.lookup f28 = some ⟨oc28, od28, .func (PySem.W.fnOf "_law_days" "_law_days" (defArgs s_f_law_days) (defBody s_f_law_days) (defScope s_f_law_days) .none kV28 dc28 pm28 an28 cd28 ct28), sl28⟩) (c28 : PySem.W.codeIn K cd28 "_law_days" = true) (k28 : PySem.W.keepIn K (.ref f28) = true)
    (a29 : PySem.W.nsIn K mainGlobals "_law_pairs" = some (some (.ref f29))) (l29 : K.lookup f29 = some ⟨oc29, od29, .func (PySem.W.fnOf "_law_pairs" "_law_pairs" (defArgs s_f_law_pairs) (defBody s_f_law_pairs) (defScope s_f_law_pairs) .none kV29 dc29 pm29 an29 cd29 ct29), sl29⟩) (c29 : PySem.W.codeIn K cd29 "_law_pairs" = true) (k29 : PySem.W.keepIn K (.ref f29) = true)
    (a30 : PySem.W.nsIn K mainGlobals "_law_bent_node" = some (some (.ref f30))) (l30 : K.lookup f30 = some ⟨oc30, od30, .func (PySem.W.fnOf "_law_bent_node" "_law_bent_node" (defArgs s_f_law_bent_node) (defBody s_f_law_bent_node) (defScope s_f_law_bent_node) .none kV30 dc30 pm30 an30 cd30 ct30), sl30⟩) (c30 : PySem.W.codeIn K cd30 "_law_bent_node" = true) (k30 : PySem.W.keepIn K (.ref f30) = true)
    (a31 : PySem.W.nsIn K mainGlobals "clash" = some (some (.ref f31))) (l31 : K.lookup f31 = some ⟨oc31, od31, .func (PySem.W.fnOf "clash" "clash" (defArgs s_p_clash) (defBody s_p_clash) (defScope s_p_clash) .none kV31 dc31 pm31 an31 cd31 ct31), sl31⟩) (c31 : PySem.W.codeIn K cd31 "clash" = true) (k31 : PySem.W.keepIn K (.ref f31) = true)
    (a32 : PySem.W.nsIn K mainGlobals "is_full" = some (some (.ref f32))) (l32 : K.lookup f32 = some ⟨oc32, od32, .func (PySem.W.fnOf "is_full" "is_full" (defArgs s_p_is_full) (defBody s_p_is_full) (defScope s_p_is_full) .none kV32 dc32 pm32 an32 cd32 ct32), sl32⟩) (c32 : PySem.W.codeIn K cd32 "is_full" = true) (k32 : PySem.W.keepIn K (.ref f32) = true)
    (a33 : PySem.W.nsIn K mainGlobals "is_a_node" = some (some (.ref f33))) (l33 : K.lookup f33 = some ⟨oc33, od33, .func (PySem.W.fnOf "is_a_node" "is_a_node" (defArgs s_p_is_a_node) (defBody s_p_is_a_node) (defScope s_p_is_a_node) .none kV33 dc33 pm33 an33 cd33 ct33), sl33⟩) (c33 : PySem.W.codeIn K cd33 "is_a_node" = true) (k33 : PySem.W.keepIn K (.ref f33) = true)
    (a34 : PySem.W.nsIn K mainGlobals "parted_rightly" = some (some (.ref f34))) (l34 : K.lookup f34 = some ⟨oc34, od34, .func (PySem.W.fnOf "parted_rightly" "parted_rightly" (defArgs s_p_parted_rightly) (defBody s_p_parted_rightly) (defScope s_p_parted_rightly) .none kV34 dc34 pm34 an34 cd34 ct34), sl34⟩) (c34 : PySem.W.codeIn K cd34 "parted_rightly" = true) (k34 : PySem.W.keepIn K (.ref f34) = true)
    (a35 : PySem.W.nsIn K mainGlobals "has_one_way" = some (some (.ref f35))) (l35 : K.lookup f35 = some ⟨oc35, od35, .func (PySem.W.fnOf "has_one_way" "has_one_way" (defArgs s_p_has_one_way) (defBody s_p_has_one_way) (defScope s_p_has_one_way) .none kV35 dc35 pm35 an35 cd35 ct35), sl35⟩) (c35 : PySem.W.codeIn K cd35 "has_one_way" = true) (k35 : PySem.W.keepIn K (.ref f35) = true)
    (a36 : PySem.W.nsIn K mainGlobals "led_down" = some (some (.ref f36))) (l36 : K.lookup f36 = some ⟨oc36, od36, .func (PySem.W.fnOf "led_down" "led_down" (defArgs s_p_led_down) (defBody s_p_led_down) (defScope s_p_led_down) .none kV36 dc36 pm36 an36 cd36 ct36), sl36⟩) (c36 : PySem.W.codeIn K cd36 "led_down" = true) (k36 : PySem.W.keepIn K (.ref f36) = true)
    (a37 : PySem.W.nsIn K mainGlobals "_law_plans" = some (some (.ref f37))) (l37 : K.lookup f37 = some ⟨oc37, od37, .func (PySem.W.fnOf "_law_plans" "_law_plans" (defArgs s_f_law_plans) (defBody s_f_law_plans) (defScope s_f_law_plans) .none kV37 dc37 pm37 an37 cd37 ct37), sl37⟩) (c37 : PySem.W.codeIn K cd37 "_law_plans" = true) (k37 : PySem.W.keepIn K (.ref f37) = true)
    (a38 : PySem.W.nsIn K mainGlobals "_law_worth" = some (some (.ref f38))) (l38 : K.lookup f38 = some ⟨oc38, od38, .func (PySem.W.fnOf "_law_worth" "_law_worth" (defArgs s_f_law_worth) (defBody s_f_law_worth) (defScope s_f_law_worth) .none kV38 dc38 pm38 an38 cd38 ct38), sl38⟩) (c38 : PySem.W.codeIn K cd38 "_law_worth" = true) (k38 : PySem.W.keepIn K (.ref f38) = true)
    (a39 : PySem.W.nsIn K mainGlobals "_law_little" = some (some (.ref f39))) (l39 : K.lookup f39 = some ⟨oc39, od39, .func (PySem.W.fnOf "_law_little" "_law_little" (defArgs s_f_law_little) (defBody s_f_law_little) (defScope s_f_law_little) .none kV39 dc39 pm39 an39 cd39 ct39), sl39⟩) (c39 : PySem.W.codeIn K cd39 "_law_little" = true) (k39 : PySem.W.keepIn K (.ref f39) = true)
    (a40 : PySem.W.nsIn K mainGlobals "_law_leaves" = some (some (.ref f40))) (l40 : K.lookup f40 = some ⟨oc40, od40, .func (PySem.W.fnOf "_law_leaves" "_law_leaves" (defArgs s_f_law_leaves) (defBody s_f_law_leaves) (defScope s_f_law_leaves) .none kV40 dc40 pm40 an40 cd40 ct40), sl40⟩) (c40 : PySem.W.codeIn K cd40 "_law_leaves" = true) (k40 : PySem.W.keepIn K (.ref f40) = true)
    (a41 : PySem.W.nsIn K mainGlobals "_law_bent_cases" = some (some (.ref f41))) (l41 : K.lookup f41 = some ⟨oc41, od41, .func (PySem.W.fnOf "_law_bent_cases" "_law_bent_cases" (defArgs s_f_law_bent_cases) (defBody s_f_law_bent_cases) (defScope s_f_law_bent_cases) .none kV41 dc41 pm41 an41 cd41 ct41), sl41⟩) (c41 : PySem.W.codeIn K cd41 "_law_bent_cases" = true) (k41 : PySem.W.keepIn K (.ref f41) = true)
    (a42 : PySem.W.nsIn K mainGlobals "clashes_rightly" = some (some (.ref f42))) (l42 : K.lookup f42 = some ⟨oc42, od42, .func (PySem.W.fnOf "clashes_rightly" "clashes_rightly" (defArgs s_p_clashes_rightly) (defBody s_p_clashes_rightly) (defScope s_p_clashes_rightly) .none kV42 dc42 pm42 an42 cd42 ct42), sl42⟩) (c42 : PySem.W.codeIn K cd42 "clashes_rightly" = true) (k42 : PySem.W.keepIn K (.ref f42) = true)
    (a43 : PySem.W.nsIn K mainGlobals "full_rightly" = some (some (.ref f43))) (l43 : K.lookup f43 = some ⟨oc43, od43, .func (PySem.W.fnOf "full_rightly" "full_rightly" (defArgs s_p_full_rightly) (defBody s_p_full_rightly) (defScope s_p_full_rightly) .none kV43 dc43 pm43 an43 cd43 ct43), sl43⟩) (c43 : PySem.W.codeIn K cd43 "full_rightly" = true) (k43 : PySem.W.keepIn K (.ref f43) = true)
    (a44 : PySem.W.nsIn K mainGlobals "_law_best" = some (some (.ref f44))) (l44 : K.lookup f44 = some ⟨oc44, od44, .func (PySem.W.fnOf "_law_best" "_law_best" (defArgs s_f_law_best) (defBody s_f_law_best) (defScope s_f_law_best) .none kV44 dc44 pm44 an44 cd44 ct44), sl44⟩) (c44 : PySem.W.codeIn K cd44 "_law_best" = true) (k44 : PySem.W.keepIn K (.ref f44) = true)
    (a45 : PySem.W.nsIn K mainGlobals "hoped_weights" = some (some (.ref f45))) (l45 : K.lookup f45 = some ⟨oc45, od45, .func (PySem.W.fnOf "hoped_weights" "hoped_weights" (defArgs s_p_hoped_weights) (defBody s_p_hoped_weights) (defScope s_p_hoped_weights) .none kV45 dc45 pm45 an45 cd45 ct45), sl45⟩) (c45 : PySem.W.codeIn K cd45 "hoped_weights" = true) (k45 : PySem.W.keepIn K (.ref f45) = true)
    (a46 : PySem.W.nsIn K mainGlobals "hope_of" = some (some (.ref f46))) (l46 : K.lookup f46 = some ⟨oc46, od46, .func (PySem.W.fnOf "hope_of" "hope_of" (defArgs s_p_hope_of) (defBody s_p_hope_of) (defScope s_p_hope_of) .none kV46 dc46 pm46 an46 cd46 ct46), sl46⟩) (c46 : PySem.W.codeIn K cd46 "hope_of" = true) (k46 : PySem.W.keepIn K (.ref f46) = true)
    (a47 : PySem.W.nsIn K mainGlobals "hopeless_rightly" = some (some (.ref f47))) (l47 : K.lookup f47 = some ⟨oc47, od47, .func (PySem.W.fnOf "hopeless_rightly" "hopeless_rightly" (defArgs s_p_hopeless_rightly) (defBody s_p_hopeless_rightly) (defScope s_p_hopeless_rightly) .none kV47 dc47 pm47 an47 cd47 ct47), sl47⟩) (c47 : PySem.W.codeIn K cd47 "hopeless_rightly" = true) (k47 : PySem.W.keepIn K (.ref f47) = true)
    (a48 : PySem.W.nsIn K mainGlobals "holds_at" = some (some (.ref f48))) (l48 : K.lookup f48 = some ⟨oc48, od48, .func (PySem.W.fnOf "holds_at" "holds_at" (defArgs s_p_holds_at) (defBody s_p_holds_at) (defScope s_p_holds_at) .none kV48 dc48 pm48 an48 cd48 ct48), sl48⟩) (c48 : PySem.W.codeIn K cd48 "holds_at" = true) (k48 : PySem.W.keepIn K (.ref f48) = true)
    (a49 : PySem.W.nsIn K mainGlobals "cases_hold" = some (some (.ref f49))) (l49 : K.lookup f49 = some ⟨oc49, od49, .func (PySem.W.fnOf "cases_hold" "cases_hold" (defArgs s_p_cases_hold) (defBody s_p_cases_hold) (defScope s_p_cases_hold) .none kV49 dc49 pm49 an49 cd49 ct49), sl49⟩) (c49 : PySem.W.codeIn K cd49 "cases_hold" = true) (k49 : PySem.W.keepIn K (.ref f49) = true)
    (a50 : PySem.W.nsIn K mainGlobals "_law_laid" = some (some (.ref f50))) (l50 : K.lookup f50 = some ⟨oc50, od50, .func (PySem.W.fnOf "_law_laid" "_law_laid" (defArgs s_f_law_laid) (defBody s_f_law_laid) (defScope s_f_law_laid) .none kV50 dc50 pm50 an50 cd50 ct50), sl50⟩) (c50 : PySem.W.codeIn K cd50 "_law_laid" = true) (k50 : PySem.W.keepIn K (.ref f50) = true)
    (a51 : PySem.W.nsIn K mainGlobals "_law_made_up" = some (some (.ref f51))) (l51 : K.lookup f51 = some ⟨oc51, od51, .func (PySem.W.fnOf "_law_made_up" "_law_made_up" (defArgs s_f_law_made_up) (defBody s_f_law_made_up) (defScope s_f_law_made_up) .none kV51 dc51 pm51 an51 cd51 ct51), sl51⟩) (c51 : PySem.W.codeIn K cd51 "_law_made_up" = true) (k51 : PySem.W.keepIn K (.ref f51) = true)
    (a52 : PySem.W.nsIn K mainGlobals "law" = some (some (.ref f52))) (l52 : K.lookup f52 = some ⟨oc52, od52, .func (PySem.W.fnOf "law" "law" (defArgs s_p_law) (defBody s_p_law) (defScope s_p_law) .none kV52 dc52 pm52 an52 cd52 ct52), sl52⟩) (c52 : PySem.W.codeIn K cd52 "law" = true) (k52 : PySem.W.keepIn K (.ref f52) = true)
    (hu : tabsOkB K = true)
    (e45 : (PySem.W.tabIn K "hoped_weights").isSome = true)
    (z_abs : PySem.W.nsIn K mainGlobals "abs" = some none)
    (z_all : PySem.W.nsIn K mainGlobals "all" = some none)
    (z_any : PySem.W.nsIn K mainGlobals "any" = some none)
    (z_bool : PySem.W.nsIn K mainGlobals "bool" = some none)
    (z_enumerate : PySem.W.nsIn K mainGlobals "enumerate" = some none)
    (z_int : PySem.W.nsIn K mainGlobals "int" = some none)
    (z_isinstance : PySem.W.nsIn K mainGlobals "isinstance" = some none)
    (z_len : PySem.W.nsIn K mainGlobals "len" = some none)
    (z_list : PySem.W.nsIn K mainGlobals "list" = some none)
    (z_max : PySem.W.nsIn K mainGlobals "max" = some none)
    (z_min : PySem.W.nsIn K mainGlobals "min" = some none)
    (z_range : PySem.W.nsIn K mainGlobals "range" = some none)
    (z_sum : PySem.W.nsIn K mainGlobals "sum" = some none)
    (z_tuple : PySem.W.nsIn K mainGlobals "tuple" = some none)
    (z_zip : PySem.W.nsIn K mainGlobals "zip" = some none)
    (y_CLASH : PySem.W.nsIn K mainGlobals "CLASH" = some (some (.int 1 t_CLASH)))
    (y_FULL : PySem.W.nsIn K mainGlobals "FULL" = some (some (.int 2 t_FULL)))
    (y_MOST_NODES : PySem.W.nsIn K mainGlobals "MOST_NODES" = some (some (.int 30000 t_MOST_NODES)))
    (y_PARTED : PySem.W.nsIn K mainGlobals "PARTED" = some (some (.int 0 t_PARTED)))
    (y_RANKS : PySem.W.nsIn K mainGlobals "RANKS" = some (some (.int 4 t_RANKS)))
    (x_SIZES : PySem.W.nsIn K mainGlobals "SIZES" = some (some (.ref f_SIZES))) (w_SIZES : K.lookup f_SIZES = some ⟨.type "tuple", none, .seq #[.int 3 t_SIZES_0, .int 3 t_SIZES_1, .int 3 t_SIZES_2, .int 1 t_SIZES_3] n_SIZES, sl_SIZES⟩) :
    ∃ fd : FuncData, (∀ (s : Shared) (v : Value), BindsTo s fd ⟨[v], []⟩ [("_law_script", v)]) ∧ ∀ base : Heap, K.In base → base.Ns mainGlobals mg → (∀ p ∈ tabCs K, LamX.TabB base mg p.1 p.2) → FnG l.prog w K mg base CX0 28 fa fd ["_law_script"] (spOf K S_p_law) := by
  have e := hfa.symm.trans (PySem.W.mg_of X G a52)
  have e2 : f52 = fa := (Value.ref.inj (Option.some.inj e)).symm
  subst e2
  let T : Txt K mg := { a_p_is_number := f0, d_p_is_number := _, F_p_is_number := fun_mk (st := s_p_is_number) l0 c0 k0, b_p_is_number := (fun_mk (st := s_p_is_number) l0 c0 k0).binds (fun _ _ _ _ _ _ us hl => match us, hl with | [_], _ => rfl), m_p_is_number := PySem.W.mg_of X G a0, a_p_end_of := f1, d_p_end_of := _, F_p_end_of := fun_mk (st := s_p_end_of) l1 c1 k1, b_p_end_of := (fun_mk (st := s_p_end_of) l1 c1 k1).binds (fun _ _ _ _ _ _ us hl => match us, hl with | [_, _, _], _ => rfl), m_p_end_of := PySem.W.mg_of X G a1, a_p_with_one_way := f2, d_p_with_one_way := _, F_p_with_one_way := fun_mk (st := s_p_with_one_way) l2 c2 k2, b_p_with_one_way := (fun_mk (st := s_p_with_one_way) l2 c2 k2).binds (fun _ _ _ _ _ _ us hl => match us, hl with | [_, _, _], _ => rfl), m_p_with_one_way := PySem.W.mg_of X G a2, a_p_weights_with := f3, d_p_weights_with := _, F_p_weights_with := fun_mk (st := s_p_weights_with) l3 c3 k3, b_p_weights_with := (fun_mk (st := s_p_weights_with) l3 c3 k3).binds (fun _ _ _ _ _ _ us hl => match us, hl with | [_, _], _ => rfl), m_p_weights_with := PySem.W.mg_of X G a3, a_p_worth_row := f4, d_p_worth_row := _, F_p_worth_row := fun_mk (st := s_p_worth_row) l4 c4 k4, b_p_worth_row := (fun_mk (st := s_p_worth_row) l4 c4 k4).binds (fun _ _ _ _ _ _ us hl => match us, hl with | [_, _, _, _], _ => rfl), m_p_worth_row := PySem.W.mg_of X G a4, a_p_surely_moved := f5, d_p_surely_moved := _, F_p_surely_moved := fun_mk (st := s_p_surely_moved) l5 c5 k5, b_p_surely_moved := (fun_mk (st := s_p_surely_moved) l5 c5 k5).binds (fun _ _ _ _ _ _ us hl => match us, hl with | [_, _], _ => rfl), m_p_surely_moved := PySem.W.mg_of X G a5, a_p_given_days := f6, d_p_given_days := _, F_p_given_days := fun_mk (st := s_p_given_days) l6 c6 k6, b_p_given_days := (fun_mk (st := s_p_given_days) l6 c6 k6).binds (fun _ _ _ _ _ _ us hl => match us, hl with | [_, _, _, _], _ => rfl), m_p_given_days := PySem.W.mg_of X G a6, a_f_law_deck := f7, d_f_law_deck := _, F_f_law_deck := fun_mk (st := s_f_law_deck) l7 c7 k7, b_f_law_deck := (fun_mk (st := s_f_law_deck) l7 c7 k7).binds (fun _ _ _ _ _ _ us hl => match us, hl with | [_], _ => rfl), m_f_law_deck := PySem.W.mg_of X G a7, a_f_law_next := f8, d_f_law_next := _, F_f_law_next := fun_mk (st := s_f_law_next) l8 c8 k8, b_f_law_next := (fun_mk (st := s_f_law_next) l8 c8 k8).binds (fun _ _ _ _ _ _ us hl => match us, hl with | [_], _ => rfl), m_f_law_next := PySem.W.mg_of X G a8, a_f_law_put := f9, d_f_law_put := _, F_f_law_put := fun_mk (st := s_f_law_put) l9 c9 k9, b_f_law_put := (fun_mk (st := s_f_law_put) l9 c9 k9).binds (fun _ _ _ _ _ _ us hl => match us, hl with | [_, _, _], _ => rfl), m_f_law_put := PySem.W.mg_of X G a9, a_f_law_ways := f10, d_f_law_ways := _, F_f_law_ways := fun_mk (st := s_f_law_ways) l10 c10 k10, b_f_law_ways := (fun_mk (st := s_f_law_ways) l10 c10 k10).binds (fun _ _ _ _ _ _ us hl => match us, hl with | [_, _], _ => rfl), m_f_law_ways := PySem.W.mg_of X G a10, a_f_law_clash := f11, d_f_law_clash := _, F_f_law_clash := fun_mk (st := s_f_law_clash) l11 c11 k11, b_f_law_clash := (fun_mk (st := s_f_law_clash) l11 c11 k11).binds (fun _ _ _ _ _ _ us hl => match us, hl with | [_, _, _, _, _], _ => rfl), m_f_law_clash := PySem.W.mg_of X G a11, a_f_law_kept := f12, d_f_law_kept := _, F_f_law_kept := fun_mk (st := s_f_law_kept) l12 c12 k12, b_f_law_kept := (fun_mk (st := s_f_law_kept) l12 c12 k12).binds (fun _ _ _ _ _ _ us hl => match us, hl with | [_, _, _], _ => rfl), m_f_law_kept := PySem.W.mg_of X G a12, a_f_law_ends := f13, d_f_law_ends := _, F_f_law_ends := fun_mk (st := s_f_law_ends) l13 c13 k13, b_f_law_ends := (fun_mk (st := s_f_law_ends) l13 c13 k13).binds (fun _ _ _ _ _ _ us hl => match us, hl with | [_, _], _ => rfl), m_f_law_ends := PySem.W.mg_of X G a13, a_f_law_row_of := f14, d_f_law_row_of := _, F_f_law_row_of := fun_mk (st := s_f_law_row_of) l14 c14 k14, b_f_law_row_of := (fun_mk (st := s_f_law_row_of) l14 c14 k14).binds (fun _ _ _ _ _ _ us hl => match us, hl with | [_, _, _, _], _ => rfl), m_f_law_row_of := PySem.W.mg_of X G a14, a_f_law_moved := f15, d_f_law_moved := _, F_f_law_moved := fun_mk (st := s_f_law_moved) l15 c15 k15, b_f_law_moved := (fun_mk (st := s_f_law_moved) l15 c15 k15).binds (fun _ _ _ _ _ _ us hl => match us, hl with | [_, _], _ => rfl), m_f_law_moved := PySem.W.mg_of X G a15, a_f_law_full := f16, d_f_law_full := _, F_f_law_full := fun_mk (st := s_f_law_full) l16 c16 k16, b_f_law_full := (fun_mk (st := s_f_law_full) l16 c16 k16).binds (fun _ _ _ _ _ _ us hl => match us, hl with | [_, _, _, _], _ => rfl), m_f_law_full := PySem.W.mg_of X G a16, a_p_is_from := f17, d_p_is_from := _, F_p_is_from := fun_mk (st := s_p_is_from) l17 c17 k17, b_p_is_from := (fun_mk (st := s_p_is_from) l17 c17 k17).binds (fun _ _ _ _ _ _ us hl => match us, hl with | [_, _, _], _ => rfl), m_p_is_from := PySem.W.mg_of X G a17, a_p_is_behind := f18, d_p_is_behind := _, F_p_is_behind := fun_mk (st := s_p_is_behind) l18 c18 k18, b_p_is_behind := (fun_mk (st := s_p_is_behind) l18 c18 k18).binds (fun _ _ _ _ _ _ us hl => match us, hl with | [_, _, _, _, _], _ => rfl), m_p_is_behind := PySem.W.mg_of X G a18, a_p_is_kept := f19, d_p_is_kept := _, F_p_is_kept := fun_mk (st := s_p_is_kept) l19 c19 k19, b_p_is_kept := (fun_mk (st := s_p_is_kept) l19 c19 k19).binds (fun _ _ _ _ _ _ us hl => match us, hl with | [_, _, _], _ => rfl), m_p_is_kept := PySem.W.mg_of X G a19, a_p_hoped_ends := f20, d_p_hoped_ends := _, F_p_hoped_ends := fun_mk (st := s_p_hoped_ends) l20 c20 k20, b_p_hoped_ends := (fun_mk (st := s_p_hoped_ends) l20 c20 k20).binds (fun _ _ _ _ _ _ us hl => match us, hl with | [_, _], _ => rfl), m_p_hoped_ends := PySem.W.mg_of X G a20, a_p_is_within := f21, d_p_is_within := _, F_p_is_within := fun_mk (st := s_p_is_within) l21 c21 k21, b_p_is_within := (fun_mk (st := s_p_is_within) l21 c21 k21).binds (fun _ _ _ _ _ _ us hl => match us, hl with | [_, _, _, _, _], _ => rfl), m_p_is_within := PySem.W.mg_of X G a21, a_f_law_goes := f22, d_f_law_goes := _, F_f_law_goes := fun_mk (st := s_f_law_goes) l22 c22 k22, b_f_law_goes := (fun_mk (st := s_f_law_goes) l22 c22 k22).binds (fun _ _ _ _ _ _ us hl => match us, hl with | [_, _, _, _], _ => rfl), m_f_law_goes := PySem.W.mg_of X G a22, a_f_law_whole := f23, d_f_law_whole := _, F_f_law_whole := fun_mk (st := s_f_law_whole) l23 c23 k23, b_f_law_whole := (fun_mk (st := s_f_law_whole) l23 c23 k23).binds (fun _ _ _ _ _ _ us hl => match us, hl with | [_], _ => rfl), m_f_law_whole := PySem.W.mg_of X G a23, a_f_law_weights := f24, d_f_law_weights := _, F_f_law_weights := fun_mk (st := s_f_law_weights) l24 c24 k24, b_f_law_weights := (fun_mk (st := s_f_law_weights) l24 c24 k24).binds (fun _ _ _ _ _ _ us hl => match us, hl with | [_, _], _ => rfl), m_f_law_weights := PySem.W.mg_of X G a24, a_f_law_hope := f25, d_f_law_hope := _, F_f_law_hope := fun_mk (st := s_f_law_hope) l25 c25 k25, b_f_law_hope := (fun_mk (st := s_f_law_hope) l25 c25 k25).binds (fun _ _ _ _ _ _ us hl => match us, hl with | [_, _, _], _ => rfl), m_f_law_hope := PySem.W.mg_of X G a25, a_f_law_some := f26, d_f_law_some := _, F_f_law_some := fun_mk (st := s_f_law_some) l26 c26 k26, b_f_law_some := (fun_mk (st := s_f_law_some) l26 c26 k26).binds (fun _ _ _ _ _ _ us hl => match us, hl with | [_, _], _ => rfl), m_f_law_some := PySem.W.mg_of X G a26, a_f_law_few := f27, d_f_law_few := _, F_f_law_few := fun_mk (st := s_f_law_few) l27 c27 k27, b_f_law_few := (fun_mk (st := s_f_law_few) l27 c27 k27).binds (fun _ _ _ _ _ _ us hl => match us, hl with | [_, _, _], _ => rfl), m_f_law_few := PySem.W.mg_of X G a27, a_f_law_days := f28, d_f_law_days := _, F_f_law_days := fun_mk (st := s_f_law_days) l28 c28 k28, b_f_law_days := (fun_mk (st := s_f_law_days) l28 c28 k28).binds (fun _ _ _ _ _ _ us hl => match us, hl with | [_, _, _], _ => rfl), m_f_law_days := PySem.W.mg_of X G a28, a_f_law_pairs := f29, d_f_law_pairs := _, F_f_law_pairs := fun_mk (st := s_f_law_pairs) l29 c29 k29, b_f_law_pairs := (fun_mk (st := s_f_law_pairs) l29 c29 k29).binds (fun _ _ _ _ _ _ us hl => match us, hl with | [_, _], _ => rfl), m_f_law_pairs := PySem.W.mg_of X G a29, a_f_law_bent_node := f30, d_f_law_bent_node := _, F_f_law_bent_node := fun_mk (st := s_f_law_bent_node) l30 c30 k30, b_f_law_bent_node := (fun_mk (st := s_f_law_bent_node) l30 c30 k30).binds (fun _ _ _ _ _ _ us hl => match us, hl with | [_, _, _, _, _], _ => rfl), m_f_law_bent_node := PySem.W.mg_of X G a30, a_p_clash := f31, d_p_clash := _, F_p_clash := fun_mk (st := s_p_clash) l31 c31 k31, b_p_clash := (fun_mk (st := s_p_clash) l31 c31 k31).binds (fun _ _ _ _ _ _ us hl => match us, hl with | [_, _, _, _, _], _ => rfl), m_p_clash := PySem.W.mg_of X G a31, a_p_is_full := f32, d_p_is_full := _, F_p_is_full := fun_mk (st := s_p_is_full) l32 c32 k32, b_p_is_full := (fun_mk (st := s_p_is_full) l32 c32 k32).binds (fun _ _ _ _ _ _ us hl => match us, hl with | [_, _, _, _], _ => rfl), m_p_is_full := PySem.W.mg_of X G a32, a_p_is_a_node := f33, d_p_is_a_node := _, F_p_is_a_node := fun_mk (st := s_p_is_a_node) l33 c33 k33, b_p_is_a_node := (fun_mk (st := s_p_is_a_node) l33 c33 k33).binds (fun _ _ _ _ _ _ us hl => match us, hl with | [_], _ => rfl), m_p_is_a_node := PySem.W.mg_of X G a33, a_p_parted_rightly := f34, d_p_parted_rightly := _, F_p_parted_rightly := fun_mk (st := s_p_parted_rightly) l34 c34 k34, b_p_parted_rightly := (fun_mk (st := s_p_parted_rightly) l34 c34 k34).binds (fun _ _ _ _ _ _ us hl => match us, hl with | [_, _], _ => rfl), m_p_parted_rightly := PySem.W.mg_of X G a34, a_p_has_one_way := f35, d_p_has_one_way := _, F_p_has_one_way := fun_mk (st := s_p_has_one_way) l35 c35 k35, b_p_has_one_way := (fun_mk (st := s_p_has_one_way) l35 c35 k35).binds (fun _ _ _ _ _ _ us hl => match us, hl with | [_, _], _ => rfl), m_p_has_one_way := PySem.W.mg_of X G a35, a_p_led_down := f36, d_p_led_down := _, F_p_led_down := fun_mk (st := s_p_led_down) l36 c36 k36, b_p_led_down := (fun_mk (st := s_p_led_down) l36 c36 k36).binds (fun _ _ _ _ _ _ us hl => match us, hl with | [_, _, _, _], _ => rfl), m_p_led_down := PySem.W.mg_of X G a36, a_f_law_plans := f37, d_f_law_plans := _, F_f_law_plans := fun_mk (st := s_f_law_plans) l37 c37 k37, b_f_law_plans := (fun_mk (st := s_f_law_plans) l37 c37 k37).binds (fun _ _ _ _ _ _ us hl => match us, hl with | [_, _], _ => rfl), m_f_law_plans := PySem.W.mg_of X G a37, a_f_law_worth := f38, d_f_law_worth := _, F_f_law_worth := fun_mk (st := s_f_law_worth) l38 c38 k38, b_f_law_worth := (fun_mk (st := s_f_law_worth) l38 c38 k38).binds (fun _ _ _ _ _ _ us hl => match us, hl with | [_, _, _], _ => rfl), m_f_law_worth := PySem.W.mg_of X G a38, a_f_law_little := f39, d_f_law_little := _, F_f_law_little := fun_mk (st := s_f_law_little) l39 c39 k39, b_f_law_little := (fun_mk (st := s_f_law_little) l39 c39 k39).binds (fun _ _ _ _ _ _ us hl => match us, hl with | [_], _ => rfl), m_f_law_little := PySem.W.mg_of X G a39, a_f_law_leaves := f40, d_f_law_leaves := _, F_f_law_leaves := fun_mk (st := s_f_law_leaves) l40 c40 k40, b_f_law_leaves := (fun_mk (st := s_f_law_leaves) l40 c40 k40).binds (fun _ _ _ _ _ _ us hl => match us, hl with | [_, _, _, _], _ => rfl), m_f_law_leaves := PySem.W.mg_of X G a40, a_f_law_bent_cases := f41, d_f_law_bent_cases := _, F_f_law_bent_cases := fun_mk (st := s_f_law_bent_cases) l41 c41 k41, b_f_law_bent_cases := (fun_mk (st := s_f_law_bent_cases) l41 c41 k41).binds (fun _ _ _ _ _ _ us hl => match us, hl with | [_, _, _, _], _ => rfl), m_f_law_bent_cases := PySem.W.mg_of X G a41, a_p_clashes_rightly := f42, d_p_clashes_rightly := _, F_p_clashes_rightly := fun_mk (st := s_p_clashes_rightly) l42 c42 k42, b_p_clashes_rightly := (fun_mk (st := s_p_clashes_rightly) l42 c42 k42).binds (fun _ _ _ _ _ _ us hl => match us, hl with | [_, _, _], _ => rfl), m_p_clashes_rightly := PySem.W.mg_of X G a42, a_p_full_rightly := f43, d_p_full_rightly := _, F_p_full_rightly := fun_mk (st := s_p_full_rightly) l43 c43 k43, b_p_full_rightly := (fun_mk (st := s_p_full_rightly) l43 c43 k43).binds (fun _ _ _ _ _ _ us hl => match us, hl with | [_, _, _], _ => rfl), m_p_full_rightly := PySem.W.mg_of X G a43, a_f_law_best := f44, d_f_law_best := _, F_f_law_best := fun_mk (st := s_f_law_best) l44 c44 k44, b_f_law_best := (fun_mk (st := s_f_law_best) l44 c44 k44).binds (fun _ _ _ _ _ _ us hl => match us, hl with | [_, _, _], _ => rfl), m_f_law_best := PySem.W.mg_of X G a44, a_p_hoped_weights := f45, d_p_hoped_weights := _, F_p_hoped_weights := fun_mk (st := s_p_hoped_weights) l45 c45 k45, b_p_hoped_weights := (fun_mk (st := s_p_hoped_weights) l45 c45 k45).binds (fun _ _ _ _ _ _ us hl => match us, hl with | [_, _], _ => rfl), m_p_hoped_weights := PySem.W.mg_of X G a45, a_p_hope_of := f46, d_p_hope_of := _, F_p_hope_of := fun_mk (st := s_p_hope_of) l46 c46 k46, b_p_hope_of := (fun_mk (st := s_p_hope_of) l46 c46 k46).binds (fun _ _ _ _ _ _ us hl => match us, hl with | [_, _, _], _ => rfl), m_p_hope_of := PySem.W.mg_of X G a46, a_p_hopeless_rightly := f47, d_p_hopeless_rightly := _, F_p_hopeless_rightly := fun_mk (st := s_p_hopeless_rightly) l47 c47 k47, b_p_hopeless_rightly := (fun_mk (st := s_p_hopeless_rightly) l47 c47 k47).binds (fun _ _ _ _ _ _ us hl => match us, hl with | [_, _, _, _], _ => rfl), m_p_hopeless_rightly := PySem.W.mg_of X G a47, a_p_holds_at := f48, d_p_holds_at := _, F_p_holds_at := fun_mk (st := s_p_holds_at) l48 c48 k48, b_p_holds_at := (fun_mk (st := s_p_holds_at) l48 c48 k48).binds (fun _ _ _ _ _ _ us hl => match us, hl with | [_, _, _, _, _], _ => rfl), m_p_holds_at := PySem.W.mg_of X G a48, a_p_cases_hold := f49, d_p_cases_hold := _, F_p_cases_hold := fun_mk (st := s_p_cases_hold) l49 c49 k49, b_p_cases_hold := (fun_mk (st := s_p_cases_hold) l49 c49 k49).binds (fun _ _ _ _ _ _ us hl => match us, hl with | [_, _, _, _, _], _ => rfl), m_p_cases_hold := PySem.W.mg_of X G a49, a_f_law_laid := f50, d_f_law_laid := _, F_f_law_laid := fun_mk (st := s_f_law_laid) l50 c50 k50, b_f_law_laid := (fun_mk (st := s_f_law_laid) l50 c50 k50).binds (fun _ _ _ _ _ _ us hl => match us, hl with | [_, _, _, _, _, _], _ => rfl), m_f_law_laid := PySem.W.mg_of X G a50, a_f_law_made_up := f51, d_f_law_made_up := _, F_f_law_made_up := fun_mk (st := s_f_law_made_up) l51 c51 k51, b_f_law_made_up := (fun_mk (st := s_f_law_made_up) l51 c51 k51).binds (fun _ _ _ _ _ _ us hl => match us, hl with | [_, _, _, _, _, _], _ => rfl), m_f_law_made_up := PySem.W.mg_of X G a51, a_p_law := f52, d_p_law := _, F_p_law := fun_mk (st := s_p_law) l52 c52 k52, b_p_law := (fun_mk (st := s_p_law) l52 c52 k52).binds (fun _ _ _ _ _ _ us hl => match us, hl with | [_], _ => rfl), m_p_law := PySem.W.mg_of X G a52, u := hu, t_p_hoped_weights := tab_code a45 l45 e45, n_abs := PySem.W.mg_none_of X G z_abs, n_all := PySem.W.mg_none_of X G z_all, n_any := PySem.W.mg_none_of X G z_any, n_bool := PySem.W.mg_none_of X G z_bool, n_enumerate := PySem.W.mg_none_of X G z_enumerate, n_int := PySem.W.mg_none_of X G z_int, n_isinstance := PySem.W.mg_none_of X G z_isinstance, n_len := PySem.W.mg_none_of X G z_len, n_list := PySem.W.mg_none_of X G z_list, n_max := PySem.W.mg_none_of X G z_max, n_min := PySem.W.mg_none_of X G z_min, n_range := PySem.W.mg_none_of X G z_range, n_sum := PySem.W.mg_none_of X G z_sum, n_tuple := PySem.W.mg_none_of X G z_tuple, n_zip := PySem.W.mg_none_of X G z_zip, g_CLASH := ⟨_, PySem.W.mg_of X G y_CLASH⟩, g_FULL := ⟨_, PySem.W.mg_of X G y_FULL⟩, g_MOST_NODES := ⟨_, PySem.W.mg_of X G y_MOST_NODES⟩, g_PARTED := ⟨_, PySem.W.mg_of X G y_PARTED⟩, g_RANKS := ⟨_, PySem.W.mg_of X G y_RANKS⟩, g_SIZES := ⟨_, PySem.W.mg_of X G x_SIZES, gtup_den [V.int 3, V.int 3, V.int 3, V.int 1] [D.int 3, D.int 3, D.int 3, D.int 1] w_SIZES (.cons ⟨_, rfl⟩ (.cons ⟨_, rfl⟩ (.cons ⟨_, rfl⟩ (.cons ⟨_, rfl⟩ (.nil))))) (fun _ _ => .cons (.int 3) (.cons (.int 3) (.cons (.int 3) (.cons (.int 1) (.nil))))) (show (4 : Nat) ≤ sizeLine by decide) (by decide)⟩ }
  exact ⟨T.d_p_law, fun s v => .of_eq rfl, fun base _ _ tb => ok_p_law { T with base := base, TB := tb }⟩
end DL.M
namespace DL
namespace HeadF
open PySem PySem.Spec PyProof.Rows L2
theorem facts {w : World} {K : PySem.W.Frag} {h : Heap} {mg : Str → Option Value} {fa : Addr} (X : K.In h) (G : h.Ns mainGlobals mg) (hfa : mg "law" = some (.ref fa)) (c : SaysW dfs (fun K => exs.all fun f => f K) h K) :
    ∃ fd : FuncData, (∀ (s : Shared) (v : Value), BindsTo s fd ⟨[v], []⟩ [("_law_script", v)]) ∧ ∀ base : Heap, K.In base → base.Ns mainGlobals mg → (∀ p ∈ tabCs K, LamX.TabB base mg p.1 p.2) → FnG PySem.Challenge.rw_workwishes_k22_whole_no_plan_is_better.prog w K mg base CX0 28 fa fd ["_law_script"] (spOf K DL.M.S_p_law) := by
  obtain ⟨_, _, _, _, _, _, _, _, _, l0, c0, k0⟩ := def_at c.d 0 (d := d_p_is_number) rfl rfl
  obtain ⟨_, _, _, _, _, _, _, _, _, l1, c1, k1⟩ := def_at c.d 1 (d := d_p_end_of) rfl rfl
  obtain ⟨_, _, _, _, _, _, _, _, _, l2, c2, k2⟩ := def_at c.d 2 (d := d_p_with_one_way) rfl rfl
  obtain ⟨_, _, _, _, _, _, _, _, _, l3, c3, k3⟩ := def_at c.d 3 (d := d_p_weights_with) rfl rfl
  obtain ⟨_, _, _, _, _, _, _, _, _, l4, c4, k4⟩ := def_at c.d 4 (d := d_p_worth_row) rfl rfl
  obtain ⟨_, _, _, _, _, _, _, _, _, l5, c5, k5⟩ := def_at c.d 5 (d := d_p_surely_moved) rfl rfl
  obtain ⟨_, _, _, _, _, _, _, _, _, l6, c6, k6⟩ := def_at c.d 6 (d := d_p_given_days) rfl rfl
  obtain ⟨_, _, _, _, _, _, _, _, _, l7, c7, k7⟩ := def_at c.d 7 (d := d_f_law_deck) rfl rfl
  obtain ⟨_, _, _, _, _, _, _, _, _, l8, c8, k8⟩ := def_at c.d 8 (d := d_f_law_next) rfl rfl
  obtain ⟨_, _, _, _, _, _, _, _, _, l9, c9, k9⟩ := def_at c.d 9 (d := d_f_law_put) rfl rfl
  obtain ⟨_, _, _, _, _, _, _, _, _, l10, c10, k10⟩ := def_at c.d 10 (d := d_f_law_ways) rfl rfl
  obtain ⟨_, _, _, _, _, _, _, _, _, l11, c11, k11⟩ := def_at c.d 11 (d := d_f_law_clash) rfl rfl
  obtain ⟨_, _, _, _, _, _, _, _, _, l12, c12, k12⟩ := def_at c.d 12 (d := d_f_law_kept) rfl rfl
  obtain ⟨_, _, _, _, _, _, _, _, _, l13, c13, k13⟩ := def_at c.d 13 (d := d_f_law_ends) rfl rfl
  obtain ⟨_, _, _, _, _, _, _, _, _, l14, c14, k14⟩ := def_at c.d 14 (d := d_f_law_row_of) rfl rfl
  obtain ⟨_, _, _, _, _, _, _, _, _, l15, c15, k15⟩ := def_at c.d 15 (d := d_f_law_moved) rfl rfl
  obtain ⟨_, _, _, _, _, _, _, _, _, l16, c16, k16⟩ := def_at c.d 16 (d := d_f_law_full) rfl rfl
  obtain ⟨_, _, _, _, _, _, _, _, _, l17, c17, k17⟩ := def_at c.d 17 (d := d_p_is_from) rfl rfl
  obtain ⟨_, _, _, _, _, _, _, _, _, l18, c18, k18⟩ := def_at c.d 18 (d := d_p_is_behind) rfl rfl
  obtain ⟨_, _, _, _, _, _, _, _, _, l19, c19, k19⟩ := def_at c.d 19 (d := d_p_is_kept) rfl rfl
  obtain ⟨_, _, _, _, _, _, _, _, _, l20, c20, k20⟩ := def_at c.d 20 (d := d_p_hoped_ends) rfl rfl
  obtain ⟨_, _, _, _, _, _, _, _, _, l21, c21, k21⟩ := def_at c.d 21 (d := d_p_is_within) rfl rfl
  obtain ⟨_, _, _, _, _, _, _, _, _, l22, c22, k22⟩ := def_at c.d 22 (d := d_f_law_goes) rfl rfl
  obtain ⟨_, _, _, _, _, _, _, _, _, l23, c23, k23⟩ := def_at c.d 23 (d := d_f_law_whole) rfl rfl
  obtain ⟨_, _, _, _, _, _, _, _, _, l24, c24, k24⟩ := def_at c.d 24 (d := d_f_law_weights) rfl rfl
  obtain ⟨_, _, _, _, _, _, _, _, _, l25, c25, k25⟩ := def_at c.d 25 (d := d_f_law_hope) rfl rfl
  obtain ⟨_, _, _, _, _, _, _, _, _, l26, c26, k26⟩ := def_at c.d 26 (d := d_f_law_some) rfl rfl
  obtain ⟨_, _, _, _, _, _, _, _, _, l27, c27, k27⟩ := def_at c.d 27 (d := d_f_law_few) rfl rfl
  obtain ⟨_, _, _, _, _, _, _, _, _, l28, c28, k28⟩ := def_at c.d 28 (d := d_f_law_days) rfl rfl
  obtain ⟨_, _, _, _, _, _, _, _, _, l29, c29, k29⟩ := def_at c.d 29 (d := d_f_law_pairs) rfl rfl
  obtain ⟨_, _, _, _, _, _, _, _, _, l30, c30, k30⟩ := def_at c.d 30 (d := d_f_law_bent_node) rfl rfl
  obtain ⟨_, _, _, _, _, _, _, _, _, l31, c31, k31⟩ := def_at c.d 31 (d := d_p_clash) rfl rfl
  obtain ⟨_, _, _, _, _, _, _, _, _, l32, c32, k32⟩ := def_at c.d 32 (d := d_p_is_full) rfl rfl
  obtain ⟨_, _, _, _, _, _, _, _, _, l33, c33, k33⟩ := def_at c.d 33 (d := d_p_is_a_node) rfl rfl
  obtain ⟨_, _, _, _, _, _, _, _, _, l34, c34, k34⟩ := def_at c.d 34 (d := d_p_parted_rightly) rfl rfl
  obtain ⟨_, _, _, _, _, _, _, _, _, l35, c35, k35⟩ := def_at c.d 35 (d := d_p_has_one_way) rfl rfl
  obtain ⟨_, _, _, _, _, _, _, _, _, l36, c36, k36⟩ := def_at c.d 36 (d := d_p_led_down) rfl rfl
  obtain ⟨_, _, _, _, _, _, _, _, _, l37, c37, k37⟩ := def_at c.d 37 (d := d_f_law_plans) rfl rfl
  obtain ⟨_, _, _, _, _, _, _, _, _, l38, c38, k38⟩ := def_at c.d 38 (d := d_f_law_worth) rfl rfl
  obtain ⟨_, _, _, _, _, _, _, _, _, l39, c39, k39⟩ := def_at c.d 39 (d := d_f_law_little) rfl rfl
  obtain ⟨_, _, _, _, _, _, _, _, _, l40, c40, k40⟩ := def_at c.d 40 (d := d_f_law_leaves) rfl rfl
  obtain ⟨_, _, _, _, _, _, _, _, _, l41, c41, k41⟩ := def_at c.d 41 (d := d_f_law_bent_cases) rfl rfl
  obtain ⟨_, _, _, _, _, _, _, _, _, l42, c42, k42⟩ := def_at c.d 42 (d := d_p_clashes_rightly) rfl rfl
  obtain ⟨_, _, _, _, _, _, _, _, _, l43, c43, k43⟩ := def_at c.d 43 (d := d_p_full_rightly) rfl rfl
  obtain ⟨_, _, _, _, _, _, _, _, _, l44, c44, k44⟩ := def_at c.d 44 (d := d_f_law_best) rfl rfl
  obtain ⟨_, _, _, _, _, _, _, _, _, l45, c45, k45⟩ := def_at c.d 45 (d := d_p_hoped_weights) rfl rfl
  obtain ⟨_, _, _, _, _, _, _, _, _, l46, c46, k46⟩ := def_at c.d 46 (d := d_p_hope_of) rfl rfl
  obtain ⟨_, _, _, _, _, _, _, _, _, l47, c47, k47⟩ := def_at c.d 47 (d := d_p_hopeless_rightly) rfl rfl
  obtain ⟨_, _, _, _, _, _, _, _, _, l48, c48, k48⟩ := def_at c.d 48 (d := d_p_holds_at) rfl rfl
  obtain ⟨_, _, _, _, _, _, _, _, _, l49, c49, k49⟩ := def_at c.d 49 (d := d_p_cases_hold) rfl rfl
  obtain ⟨_, _, _, _, _, _, _, _, _, l50, c50, k50⟩ := def_at c.d 50 (d := d_f_law_laid) rfl rfl
  obtain ⟨_, _, _, _, _, _, _, _, _, l51, c51, k51⟩ := def_at c.d 51 (d := d_f_law_made_up) rfl rfl
  obtain ⟨_, _, _, _, _, _, _, _, _, l52, c52, k52⟩ := def_at c.d 52 (d := d_p_law) rfl rfl
  obtain ⟨_, y_CLASH⟩ := intB_ok (exs_at c.ex 70 (f := fun K => intB K "CLASH" 1) rfl)
  obtain ⟨_, y_FULL⟩ := intB_ok (exs_at c.ex 71 (f := fun K => intB K "FULL" 2) rfl)
  obtain ⟨_, y_MOST_NODES⟩ := intB_ok (exs_at c.ex 72 (f := fun K => intB K "MOST_NODES" 30000) rfl)
  obtain ⟨_, y_PARTED⟩ := intB_ok (exs_at c.ex 73 (f := fun K => intB K "PARTED" 0) rfl)
  obtain ⟨_, y_RANKS⟩ := intB_ok (exs_at c.ex 74 (f := fun K => intB K "RANKS" 4) rfl)
  obtain ⟨_, _, _, w_SIZES, v0_SIZES⟩ := tupEB_ok (exs_at c.ex 76 (f := fun K => tupEB K (He.ga K "SIZES") [V.int 3, V.int 3, V.int 3, V.int 1]) rfl)
  obtain ⟨_, _, rfl, ⟨_, rfl⟩, v1_SIZES⟩ := vals_cons v0_SIZES
  obtain ⟨_, _, rfl, ⟨_, rfl⟩, v2_SIZES⟩ := vals_cons v1_SIZES
  obtain ⟨_, _, rfl, ⟨_, rfl⟩, v3_SIZES⟩ := vals_cons v2_SIZES
  obtain ⟨_, _, rfl, ⟨_, rfl⟩, v4_SIZES⟩ := vals_cons v3_SIZES
  cases vals_nil v4_SIZES
  exact DL.M.all_mk (l := PySem.Challenge.rw_workwishes_k22_whole_no_plan_is_better) X G hfa (of_decide_eq_true (exs_at c.ex 0 (f := fun K => decide (PySem.W.nsIn K mainGlobals "is_number" = some (some (.ref (He.fAd K d_p_is_number.at_))))) rfl)) l0 c0 k0 (of_decide_eq_true (exs_at c.ex 1 (f := fun K => decide (PySem.W.nsIn K mainGlobals "end_of" = some (some (.ref (He.fAd K d_p_end_of.at_))))) rfl)) l1 c1 k1 (of_decide_eq_true (exs_at c.ex 2 (f := fun K => decide (PySem.W.nsIn K mainGlobals "with_one_way" = some (some (.ref (He.fAd K d_p_with_one_way.at_))))) rfl)) l2 c2 k2 (of_decide_eq_true (exs_at c.ex 3 (f := fun K => decide (PySem.W.nsIn K mainGlobals "weights_with" = some (some (.ref (He.fAd K d_p_weights_with.at_))))) rfl)) l3 c3 k3 (of_decide_eq_true (exs_at c.ex 4 (f := fun K => decide (PySem.W.nsIn K mainGlobals "worth_row" = some (some (.ref (He.fAd K d_p_worth_row.at_))))) rfl)) l4 c4 k4 (of_decide_eq_true (exs_at c.ex 5 (f := fun K => decide (PySem.W.nsIn K mainGlobals "surely_moved" = some (some (.ref (He.fAd K d_p_surely_moved.at_))))) rfl)) l5 c5 k5 (of_decide_eq_true (exs_at c.ex 6 (f := fun K => decide (PySem.W.nsIn K mainGlobals "given_days" = some (some (.ref (He.fAd K d_p_given_days.at_))))) rfl)) l6 c6 k6 (of_decide_eq_true (exs_at c.ex 7 (f := fun K => decide (PySem.W.nsIn K mainGlobals "_law_deck" = some (some (.ref (He.fAd K d_f_law_deck.at_))))) rfl)) l7 c7 k7 (of_decide_eq_true (exs_at c.ex 8 (f := fun K => decide (PySem.W.nsIn K mainGlobals "_law_next" = some (some (.ref (He.fAd K d_f_law_next.at_))))) rfl)) l8 c8 k8 (of_decide_eq_true (exs_at c.ex 9 (f := fun K => decide (PySem.W.nsIn K mainGlobals "_law_put" = some (some (.ref (He.fAd K d_f_law_put.at_))))) rfl)) l9 c9 k9 (of_decide_eq_true (exs_at c.ex 10 (f := fun K => decide (PySem.W.nsIn K mainGlobals "_law_ways" = some (some (.ref (He.fAd K d_f_law_ways.at_))))) rfl)) l10 c10 k10 (of_decide_eq_true (exs_at c.ex 11 (f := fun K => decide (PySem.W.nsIn K mainGlobals "_law_clash" = some (some (.ref (He.fAd K d_f_law_clash.at_))))) rfl)) l11 c11 k11 (of_decide_eq_true (exs_at c.ex 12 (f := fun K => decide (PySem.W.nsIn K mainGlobals "_law_kept" = some (some (.ref (He.fAd K d_f_law_kept.at_))))) rfl)) l12 c12 k12 (of_decide_eq_true (exs_at c.ex 13 (f := fun K => decide (PySem.W.nsIn K mainGlobals "_law_ends" = some (some (.ref (He.fAd K d_f_law_ends.at_))))) rfl)) l13 c13 k13 (of_decide_eq_true (exs_at c.ex 14 (f := fun K => decide (PySem.W.nsIn K mainGlobals "_law_row_of" = some (some (.ref (He.fAd K d_f_law_row_of.at_))))) rfl)) l14 c14 k14 (of_decide_eq_true (exs_at c.ex 15 (f := fun K => decide (PySem.W.nsIn K mainGlobals "_law_moved" = some (some (.ref (He.fAd K d_f_law_moved.at_))))) rfl)) l15 c15 k15 (of_decide_eq_true (exs_at c.ex 16 (f := fun K => decide (PySem.W.nsIn K mainGlobals "_law_full" = some (some (.ref (He.fAd K d_f_law_full.at_))))) rfl)) l16 c16 k16 (of_decide_eq_true (exs_at c.ex 17 (f := fun K => decide (PySem.W.nsIn K mainGlobals "is_from" = some (some (.ref (He.fAd K d_p_is_from.at_))))) rfl)) l17 c17 k17 (of_decide_eq_true (exs_at c.ex 18 (f := fun K => decide (PySem.W.nsIn K mainGlobals "is_behind" = some (some (.ref (He.fAd K d_p_is_behind.at_))))) rfl)) l18 c18 k18 (of_decide_eq_true (exs_at c.ex 19 (f := fun K => decide (PySem.W.nsIn K mainGlobals "is_kept" = some (some (.ref (He.fAd K d_p_is_kept.at_))))) rfl)) l19 c19 k19 (of_decide_eq_true (exs_at c.ex 20 (f := fun K => decide (PySem.W.nsIn K mainGlobals "hoped_ends" = some (some (.ref (He.fAd K d_p_hoped_ends.at_))))) rfl)) l20 c20 k20 (of_decide_eq_true (exs_at c.ex 21 (f := fun K => decide (PySem.W.nsIn K mainGlobals "is_within" = some (some (.ref (He.fAd K d_p_is_within.at_))))) rfl)) l21 c21 k21 (of_decide_eq_true (exs_at c.ex 22 (f := fun K => decide (PySem.W.nsIn K mainGlobals "_law_goes" = some (some (.ref (He.fAd K d_f_law_goes.at_))))) rfl)) l22 c22 k22 (of_decide_eq_true (exs_at c.ex 23 (f := fun K => decide (PySem.W.nsIn K mainGlobals "_law_whole" = some (some (.ref (He.fAd K d_f_law_whole.at_))))) rfl)) l23 c23 k23 (of_decide_eq_true (exs_at c.ex 24 (f := fun K => decide (PySem.W.nsIn K mainGlobals "_law_weights" = some (some (.ref (He.fAd K d_f_law_weights.at_))))) rfl)) l24 c24 k24 (of_decide_eq_true (exs_at c.ex 25 (f := fun K => decide (PySem.W.nsIn K mainGlobals "_law_hope" = some (some (.ref (He.fAd K d_f_law_hope.at_))))) rfl)) l25 c25 k25 (of_decide_eq_true (exs_at c.ex 26 (f := fun K => decide (PySem.W.nsIn K mainGlobals "_law_some" = some (some (.ref (He.fAd K d_f_law_some.at_))))) rfl)) l26 c26 k26 (of_decide_eq_true (exs_at c.ex 27 (f := fun K => decide (PySem.W.nsIn K mainGlobals "_law_few" = some (some (.ref (He.fAd K d_f_law_few.at_))))) rfl)) l27 c27 k27 (of_decide_eq_true (exs_at c.ex 28 (f := fun K => decide (PySem.W.nsIn K mainGlobals "_law_days" = some (some (.ref (He.fAd K d_f_law_days.at_))))) rfl)) l28 c28 k28 (of_decide_eq_true (exs_at c.ex 29 (f := fun K => decide (PySem.W.nsIn K mainGlobals "_law_pairs" = some (some (.ref (He.fAd K d_f_law_pairs.at_))))) rfl)) l29 c29 k29 (of_decide_eq_true (exs_at c.ex 30 (f := fun K => decide (PySem.W.nsIn K mainGlobals "_law_bent_node" = some (some (.ref (He.fAd K d_f_law_bent_node.at_))))) rfl)) l30 c30 k30 (of_decide_eq_true (exs_at c.ex 31 (f := fun K => decide (PySem.W.nsIn K mainGlobals "clash" = some (some (.ref (He.fAd K d_p_clash.at_))))) rfl)) l31 c31 k31 (of_decide_eq_true (exs_at c.ex 32 (f := fun K => decide (PySem.W.nsIn K mainGlobals "is_full" = some (some (.ref (He.fAd K d_p_is_full.at_))))) rfl)) l32 c32 k32 (of_decide_eq_true (exs_at c.ex 33 (f := fun K => decide (PySem.W.nsIn K mainGlobals "is_a_node" = some (some (.ref (He.fAd K d_p_is_a_node.at_))))) rfl)) l33 c33 k33 (of_decide_eq_true (exs_at c.ex 34 (f := fun K => decide (PySem.W.nsIn K mainGlobals "parted_rightly" = some (some (.ref (He.fAd K d_p_parted_rightly.at_))))) rfl)) l34 c34 k34 (of_decide_eq_true (exs_at c.ex 35 (f := fun K => decide (PySem.W.nsIn K mainGlobals "has_one_way" = some (some (.ref (He.fAd K d_p_has_one_way.at_))))) rfl)) l35 c35 k35 (of_decide_eq_true (exs_at c.ex 36 (f := fun K => decide (PySem.W.nsIn K mainGlobals "led_down" = some (some (.ref (He.fAd K d_p_led_down.at_))))) rfl)) l36 c36 k36 (of_decide_eq_true (exs_at c.ex 37 (f := fun K => decide (PySem.W.nsIn K mainGlobals "_law_plans" = some (some (.ref (He.fAd K d_f_law_plans.at_))))) rfl)) l37 c37 k37 (of_decide_eq_true (exs_at c.ex 38 (f := fun K => decide (PySem.W.nsIn K mainGlobals "_law_worth" = some (some (.ref (He.fAd K d_f_law_worth.at_))))) rfl)) l38 c38 k38 (of_decide_eq_true (exs_at c.ex 39 (f := fun K => decide (PySem.W.nsIn K mainGlobals "_law_little" = some (some (.ref (He.fAd K d_f_law_little.at_))))) rfl)) l39 c39 k39 (of_decide_eq_true (exs_at c.ex 40 (f := fun K => decide (PySem.W.nsIn K mainGlobals "_law_leaves" = some (some (.ref (He.fAd K d_f_law_leaves.at_))))) rfl)) l40 c40 k40 (of_decide_eq_true (exs_at c.ex 41 (f := fun K => decide (PySem.W.nsIn K mainGlobals "_law_bent_cases" = some (some (.ref (He.fAd K d_f_law_bent_cases.at_))))) rfl)) l41 c41 k41 (of_decide_eq_true (exs_at c.ex 42 (f := fun K => decide (PySem.W.nsIn K mainGlobals "clashes_rightly" = some (some (.ref (He.fAd K d_p_clashes_rightly.at_))))) rfl)) l42 c42 k42 (of_decide_eq_true (exs_at c.ex 43 (f := fun K => decide (PySem.W.nsIn K mainGlobals "full_rightly" = some (some (.ref (He.fAd K d_p_full_rightly.at_))))) rfl)) l43 c43 k43 (of_decide_eq_true (exs_at c.ex 44 (f := fun K => decide (PySem.W.nsIn K mainGlobals "_law_best" = some (some (.ref (He.fAd K d_f_law_best.at_))))) rfl)) l44 c44 k44 (of_decide_eq_true (exs_at c.ex 45 (f := fun K => decide (PySem.W.nsIn K mainGlobals "hoped_weights" = some (some (.ref (He.fAd K d_p_hoped_weights.at_))))) rfl)) l45 c45 k45 (of_decide_eq_true (exs_at c.ex 46 (f := fun K => decide (PySem.W.nsIn K mainGlobals "hope_of" = some (some (.ref (He.fAd K d_p_hope_of.at_))))) rfl)) l46 c46 k46 (of_decide_eq_true (exs_at c.ex 47 (f := fun K => decide (PySem.W.nsIn K mainGlobals "hopeless_rightly" = some (some (.ref (He.fAd K d_p_hopeless_rightly.at_))))) rfl)) l47 c47 k47 (of_decide_eq_true (exs_at c.ex 48 (f := fun K => decide (PySem.W.nsIn K mainGlobals "holds_at" = some (some (.ref (He.fAd K d_p_holds_at.at_))))) rfl)) l48 c48 k48 (of_decide_eq_true (exs_at c.ex 49 (f := fun K => decide (PySem.W.nsIn K mainGlobals "cases_hold" = some (some (.ref (He.fAd K d_p_cases_hold.at_))))) rfl)) l49 c49 k49 (of_decide_eq_true (exs_at c.ex 50 (f := fun K => decide (PySem.W.nsIn K mainGlobals "_law_laid" = some (some (.ref (He.fAd K d_f_law_laid.at_))))) rfl)) l50 c50 k50 (of_decide_eq_true (exs_at c.ex 51 (f := fun K => decide (PySem.W.nsIn K mainGlobals "_law_made_up" = some (some (.ref (He.fAd K d_f_law_made_up.at_))))) rfl)) l51 c51 k51 (of_decide_eq_true (exs_at c.ex 52 (f := fun K => decide (PySem.W.nsIn K mainGlobals "law" = some (some (.ref (He.fAd K d_p_law.at_))))) rfl)) l52 c52 k52 (of_decide_eq_true (exs_at c.ex 53 (f := fun K => decide (tabsOkW K = true)) rfl)) (of_decide_eq_true (exs_at c.ex 54 (f := fun K => decide ((PySem.W.tabIn K "hoped_weights").isSome = true)) rfl)) (of_decide_eq_true (exs_at c.ex 55 (f := fun K => decide (PySem.W.nsIn K mainGlobals "abs" = some none)) rfl)) (of_decide_eq_true (exs_at c.ex 56 (f := fun K => decide (PySem.W.nsIn K mainGlobals "all" = some none)) rfl)) (of_decide_eq_true (exs_at c.ex 57 (f := fun K => decide (PySem.W.nsIn K mainGlobals "any" = some none)) rfl)) (of_decide_eq_true (exs_at c.ex 58 (f := fun K => decide (PySem.W.nsIn K mainGlobals "bool" = some none)) rfl)) (of_decide_eq_true (exs_at c.ex 59 (f := fun K => decide (PySem.W.nsIn K mainGlobals "enumerate" = some none)) rfl)) (of_decide_eq_true (exs_at c.ex 60 (f := fun K => decide (PySem.W.nsIn K mainGlobals "int" = some none)) rfl)) (of_decide_eq_true (exs_at c.ex 61 (f := fun K => decide (PySem.W.nsIn K mainGlobals "isinstance" = some none)) rfl)) (of_decide_eq_true (exs_at c.ex 62 (f := fun K => decide (PySem.W.nsIn K mainGlobals "len" = some none)) rfl)) (of_decide_eq_true (exs_at c.ex 63 (f := fun K => decide (PySem.W.nsIn K mainGlobals "list" = some none)) rfl)) (of_decide_eq_true (exs_at c.ex 64 (f := fun K => decide (PySem.W.nsIn K mainGlobals "max" = some none)) rfl)) (of_decide_eq_true (exs_at c.ex 65 (f := fun K => decide (PySem.W.nsIn K mainGlobals "min" = some none)) rfl)) (of_decide_eq_true (exs_at c.ex 66 (f := fun K => decide (PySem.W.nsIn K mainGlobals "range" = some none)) rfl)) (of_decide_eq_true (exs_at c.ex 67 (f := fun K => decide (PySem.W.nsIn K mainGlobals "sum" = some none)) rfl)) (of_decide_eq_true (exs_at c.ex 68 (f := fun K => decide (PySem.W.nsIn K mainGlobals "tuple" = some none)) rfl)) (of_decide_eq_true (exs_at c.ex 69 (f := fun K => decide (PySem.W.nsIn K mainGlobals "zip" = some none)) rfl)) y_CLASH y_FULL y_MOST_NODES y_PARTED y_RANKS (of_decide_eq_true (exs_at c.ex 75 (f := fun K => decide (PySem.W.nsIn K mainGlobals "SIZES" = some (some (.ref (He.ga K "SIZES"))))) rfl)) w_SIZES
end HeadF
end DL
open PySem PySem.W PySem.Calls PyProof.Rows
set_option maxHeartbeats 0 in
theorem PySem.Challenge.cw_workwishes_k22_whole_no_plan_is_better_holds : PySem.Challenge.rw_workwishes_k22_whole_no_plan_is_better.Holds := by
  w_on; o_law
  refine HandSHeadRun.head_any (r := OpenLaw.row PySem.Challenge.rw_workwishes_k22_whole_no_plan_is_better) (q := view (OpenLaw.row PySem.Challenge.rw_workwishes_k22_whole_no_plan_is_better).prog [66]) (H := DL.HeadF.hk) (ob := DL.HeadF.ob) (M := 40000) (loose := DL.HeadF.loose) (d := HandSHeadRun.topDef (OpenLaw.row PySem.Challenge.rw_workwishes_k22_whole_no_plan_is_better).prog 66) (kwd := []) DL.HeadF.ob_eq (by kernel_rfl) (fun s => by kernel_rfl) DL.HeadF.run (by kernel_rfl) (by kernel_rfl) (by kernel_rfl) (by rfl) (by first | assumption | decide +kernel) (by decide +kernel) ⟨rfl, rfl, rfl, rfl, rfl, by decide +kernel⟩ ?hw ?hc
  case hw => w_witness2
  case hc =>
    refine DL.walk_TE (l := PySem.Challenge.rw_workwishes_k22_whole_no_plan_is_better) (n := 63) (k := 28) (x := "_law_script") (sp := fun K => DL.spOf K DL.M.S_p_law) rfl (by decide) (by kernel_rfl) ⟨rfl, by decide, by decide⟩ ?F (fun K H a ns hl hT hS => DL.law_end (S := DL.M.S_p_law) rfl (fun ns => ns) (fun _ => rfl) (fun ns h => ⟨h, rfl⟩) (fun _ _ _ _ h => h) H a ns hl hT hS)
    intro w mg fa h Y G hmg0
    obtain ⟨K, KX, c⟩ := Y
    have hmg : mg ("law" : PySem.Str) = some (.ref fa) := by
      have e : (HandSHeadRun.topDef (OpenLaw.row PySem.Challenge.rw_workwishes_k22_whole_no_plan_is_better).prog 66).name = ("law" : PySem.Str) := by kernel_rfl
      rw [← e]
      exact hmg0
    exact ⟨K, KX, DL.tabs_ok KX c, DL.HeadF.facts KX G hmg c⟩
