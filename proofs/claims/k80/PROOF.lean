import PyProof.Rows.All
import Wide.All
import OpenK.AllK
import Wide.FinOn
import HandS.Base
import HandS.Call
import HandS.List
import HandS.Comp
import HandS.Dict
import HandS.Iter
import HandS.Ends
import HandS.Words
import HandS.Lambda
import HandS.EndTab
import HandS.Exc
import HandS.TupAny
import HandS.TupMul
import HandS.Conv
import HandS.Zip
import KE.GoesEnum
import KE.GoesMore
import KE.GoesZip
import HandS.Head0
import HandS.Head1
import HandS.Head2
import HandS.HeadHook4
import HandS.Walk
import HandS.TupLe
import HandS.Wide
import HandS.Style
import HandS.Deep
import HandS.IsInst
import HandS.Text
import HandS.RaiseMore
import PyProof.StrOps2
import HandS.Set
import HandS.SetFor
import HandS.SetTxt0
import HandS.Strs
import HandS.SortOrd
import HandS.SortRule
import HandS.SortInts
import KE.KNestM
import HandS.FStr
import PySem.Challenge.RW_workwishes_k80_texts_told
set_option Elab.async false
set_option linter.all false
set_option maxRecDepth 100000
set_option maxHeartbeats 4000000
namespace DL
open PySem PySem.Spec PyProof.Rows L2
inductive D where
  | non | bl (b : Bool) | int (i : Int) | str (s : Str) | tup (ds : List D) | lst (ds : List D) | scr (ds : List D) | dct (kvs : List (Key × Key)) | ref (n : Nat) | fn (a : Addr) (io : List Addr) (F : Hp) | exc (c : Str) (ns : List Str) (ds : List D)
inductive Cel where
  | lst (ds : List D) | dead | ins (C : Str) (fs : List (Str × D)) | dct (l : Option Obj) (kvs : List (Key × Key))
abbrev Sto := List Cel
abbrev En := List (Option D)
/-- a tuple whose object is known to have no dict -/
def SqE (K : PySem.W.Frag) (F : Hp) (a : Addr) (xs : List V) : Prop := (∃ o, F a = some (.frz o (.tup xs)) ∧ o.dict = none) ∨
  ∃ (o : Obj) (its : Array Value) (n : Nat), K.lookup a = some o ∧ o.cls = .type "tuple" ∧ o.data = .seq its n ∧ its.size ≤ sizeLine ∧ Vals xs its.toList ∧ o.dict = none
theorem SqE.t {K : PySem.W.Frag} {F : Hp} {a : Addr} {xs : List V} (s : SqE K F a xs) : SqT K F a xs := by
  rcases s with ⟨o, s, _⟩ | ⟨o, its, n, h1, h2, h3, h4, h5, _⟩
  · exact .inl (.inr ⟨o, s⟩)
  · exact .inr ⟨o, its, n, h1, h2, h3, h4, h5⟩
theorem SqE.mono {K : PySem.W.Frag} {F F' : Hp} {a : Addr} {xs : List V} (h : ∀ a o, F a = some o → F' a = some o) (s : SqE K F a xs) : SqE K F' a xs := by
  rcases s with ⟨o, s, d⟩ | s
  · exact .inl ⟨o, h _ _ s, d⟩
  · exact .inr s
/-- an exception's object at a, its class, its dict -/
def exV (C : Addr) (d : Option Addr) (a : Addr) : HO := .ext fun h => ∃ (oe : Obj) (vs : Array Value), h.get? a = some oe ∧ Zc (.ref C) d oe ∧ oe.data = .fields vs
def ExD (F : Hp) (d : Option Addr) (fv : List (Str × V)) : Prop := (d = none ∧ fv = []) ∨ ∃ dd, d = some dd ∧ F dd = some (.xd fv)
theorem ExD.mono {F F' : Hp} {d : Option Addr} {fv : List (Str × V)} (h : ∀ a o, F a = some o → F' a = some o) (x : ExD F d fv) : ExD F' d fv := by
  rcases x with x | ⟨dd, e, z⟩
  · exact .inl x
  · exact .inr ⟨dd, e, h _ _ z⟩
mutual
inductive Den (K : PySem.W.Frag) (io : List Addr) (F : Hp) : V → D → Prop
  | non : Den K io F .non .non
  | bl (b : Bool) : Den K io F (.bl b) (.bl b)
  | int (i : Int) : Den K io F (.int i) (.int i)
  | str (x : Str) : Den K io F (.str x) (.str x)
  | tup {a : Addr} {xs : List V} {ds : List D} : SqE K F a xs → DenL K io F xs ds → ds.length ≤ sizeLine → Den K io F (.ref a) (.tup ds)
  | lst {a : Addr} {xs : List V} {ds : List D} : F a = some (.lst xs) → DenL K io F xs ds → ds.length ≤ sizeLine → Den K io F (.ref a) (.lst ds)
  | scr {a : Addr} {xs : List V} {ds : List D} : SqL K F a xs → DenL K io F xs ds → ds.length ≤ sizeLine → Den K io F (.ref a) (.scr ds)
  | dct {a : Addr} {kvs : List (Key × Key)} : F a = some (.dK (kvs.map fun p => (p.1, kV p.2))) → Den K io F (.ref a) (.dct kvs)
  | ref {a : Addr} {n : Nat} : io[n]? = some a → Den K io F (.ref a) (.ref n)
  | fn {a : Addr} {io0 : List Addr} {F0 : Hp} : (∀ (n : Nat) b, io0[n]? = some b → io[n]? = some b) → (∀ b o, F0 b = some o → F b = some o) → Den K io F (.ref a) (.fn a io0 F0)
  | exc {a C : Addr} {c : Str} {d : Option Addr} {fv : List (Str × V)} {ns : List Str} {vs : List V} {ds : List D} : PySem.W.nsIn K mainGlobals c = some (some (.ref C)) → F a = some (exV C d a) → ExD F d fv → ns = fv.map (·.1) → vs = fv.map (·.2) → DenL K io F vs ds → Den K io F (.ref a) (.exc c ns ds)
inductive DenL (K : PySem.W.Frag) (io : List Addr) (F : Hp) : List V → List D → Prop
  | nil : DenL K io F [] []
  | cons {v : V} {vs : List V} {d : D} {ds : List D} : Den K io F v d → DenL K io F vs ds → DenL K io F (v :: vs) (d :: ds)
end
section
variable {K : PySem.W.Frag} {io io' : List Addr} {F F' : Hp}
theorem SqT_mono {a : Addr} {xs : List V} (h : ∀ a o, F a = some o → F' a = some o) (s : SqT K F a xs) : SqT K F' a xs := by
  rcases s with (s | ⟨o, s⟩) | s
  · exact .inl (.inl (h _ _ s))
  · exact .inl (.inr ⟨o, h _ _ s⟩)
  · exact .inr s
theorem SqL_mono {a : Addr} {xs : List V} (h : ∀ a o, F a = some o → F' a = some o) (s : SqL K F a xs) : SqL K F' a xs := by
  rcases s with (s | ⟨o, s⟩) | s
  · exact .inl (.inl (h _ _ s))
  · exact .inl (.inr ⟨o, h _ _ s⟩)
  · exact .inr s
mutual
theorem Den.mono (hi : ∀ (n : Nat) a, io[n]? = some a → io'[n]? = some a) (h : ∀ a o, F a = some o → F' a = some o) : ∀ {v : V} {d : D}, Den K io F v d → Den K io' F' v d
  | _, _, .non => .non
  | _, _, .bl b => .bl b
  | _, _, .int i => .int i
  | _, _, .str x => .str x
  | _, _, .tup s r z => .tup (s.mono h) (DenL.mono hi h r) z
  | _, _, .lst s r z => .lst (h _ _ s) (DenL.mono hi h r) z
  | _, _, .scr s r z => .scr (SqL_mono h s) (DenL.mono hi h r) z
  | _, _, .dct e => .dct (h _ _ e)
  | _, _, .ref e => .ref (hi _ _ e)
  | _, _, .fn a b => .fn (fun n c e => hi n c (a n c e)) (fun c o e => h c o (b c o e))
  | _, _, .exc n e x a b r => .exc n (h _ _ e) (x.mono h) a b (DenL.mono hi h r)
theorem DenL.mono (hi : ∀ (n : Nat) a, io[n]? = some a → io'[n]? = some a) (h : ∀ a o, F a = some o → F' a = some o) : ∀ {vs : List V} {ds : List D}, DenL K io F vs ds → DenL K io' F' vs ds
  | _, _, .nil => .nil
  | _, _, .cons a b => .cons (Den.mono hi h a) (DenL.mono hi h b)
end
theorem DenL.length : ∀ {vs : List V} {ds : List D}, DenL K io F vs ds → vs.length = ds.length
  | _, _, .nil => rfl
  | _, _, .cons _ r => by rw [List.length_cons, List.length_cons, r.length]
theorem DenL.get : ∀ {vs : List V} {ds : List D} {i : Nat} {d : D}, DenL K io F vs ds → ds[i]? = some d → ∃ v, vs[i]? = some v ∧ Den K io F v d
  | _, _, _, _, .nil, e => by simp at e
  | _, _, 0, _, .cons r _, e => by simp at e; subst e; exact ⟨_, rfl, r⟩
  | _, _, i + 1, d, .cons _ t, e => by
    obtain ⟨u, h1, h2⟩ := DenL.get (i := i) (d := d) t (by simpa using e)
    exact ⟨u, by simpa using h1, h2⟩
theorem DenL.append : ∀ {vs ws : List V} {ds es : List D}, DenL K io F vs ds → DenL K io F ws es → DenL K io F (vs ++ ws) (ds ++ es)
  | _, _, _, _, .nil, s => s
  | _, _, _, _, .cons r t, s => .cons r (DenL.append t s)
theorem DenL.take : ∀ {vs : List V} {ds : List D} (n : Nat), DenL K io F vs ds → DenL K io F (vs.take n) (ds.take n)
  | _, _, 0, _ => by rw [List.take_zero, List.take_zero]; exact .nil
  | _, _, _ + 1, .nil => .nil
  | _, _, n + 1, .cons r t => .cons r (DenL.take n t)
theorem DenL.drop : ∀ {vs : List V} {ds : List D} (n : Nat), DenL K io F vs ds → DenL K io F (vs.drop n) (ds.drop n)
  | _, _, 0, r => r
  | _, _, _ + 1, .nil => .nil
  | _, _, n + 1, .cons _ t => DenL.drop n t
theorem DenL.setAt : ∀ {vs : List V} {ds : List D} (i : Nat) {v : V} {d : D}, Den K io F v d → DenL K io F vs ds → DenL K io F (vs.set i v) (ds.set i d)
  | _, _, _, _, _, _, .nil => .nil
  | _, _, 0, _, _, q, .cons _ t => .cons q t
  | _, _, i + 1, _, _, q, .cons r t => .cons r (DenL.setAt i q t)
theorem DenL.erase : ∀ {vs : List V} {ds : List D} (i : Nat), DenL K io F vs ds → DenL K io F (vs.eraseIdx i) (ds.eraseIdx i)
  | _, _, _, .nil => .nil
  | _, _, 0, .cons _ t => t
  | _, _, i + 1, .cons r t => .cons r (DenL.erase i t)
theorem DenL.none_of {vs : List V} {ds : List D} {i : Nat} (r : DenL K io F vs ds) (e : ds[i]? = none) : vs[i]? = none := by
  have h := r.length
  have h2 := List.getElem?_eq_none_iff.mp e
  exact List.getElem?_eq_none_iff.mpr (by omega)
theorem DenL.replicate {v : V} {d : D} (h : Den K io F v d) : ∀ n : Nat, DenL K io F (List.replicate n v) (List.replicate n d)
  | 0 => .nil
  | n + 1 => by rw [List.replicate_succ, List.replicate_succ]; exact .cons h (DenL.replicate h n)
theorem DenL.flat {vs : List V} {ds : List D} (h : DenL K io F vs ds) : ∀ n : Nat, DenL K io F (List.replicate n vs).flatten (List.replicate n ds).flatten
  | 0 => .nil
  | n + 1 => by rw [List.replicate_succ, List.replicate_succ, List.flatten_cons, List.flatten_cons]; exact h.append (DenL.flat h n)
end
def lamNames : List Str := ["weights_of", "hoped_weights"]
def lamQ (x : Str) : Str := x ++ ".<locals>." ++ "<lambda>"
def tabsOf (K : PySem.W.Frag) : List (Addr × Str) := lamNames.filterMap fun x => (PySem.W.tabIn K x).map fun p => (p.2, lamQ x)
abbrev DenF (K : PySem.W.Frag) (io : List Addr) (F : Hp) : List (Str × V) → List (Str × D) → Prop := Paired fun p q => p.1 = q.1 ∧ Den K io F p.2 q.2
/-- a dict of one's own: open, or locked while it is walked -/
def DLk (l : Option Obj) (kvs : List (Key × Key)) (u : HO) : Prop := (l = none ∧ u = .dK (kvs.map fun p => (p.1, kV p.2))) ∨ ∃ o, l = some o ∧ u = .frz o (.dK (kvs.map fun p => (p.1, kV p.2)))
def CelOk (K : PySem.W.Frag) (H : Hp) (io : List Addr) (F : Hp) (a : Addr) : Cel → Prop
  | .lst ds => F a = none ∧ ds.length ≤ sizeLine ∧ ∃ vs, H a = some (.lst vs) ∧ DenL K io F vs ds
  | .dead => True
  | .ins C fs => F a = none ∧ ∃ cc dx fv, PySem.W.nsIn K mainGlobals C = some (some (.ref cc)) ∧ H a = some (.ins cc dx fv) ∧ DenF K io F fv fs
  | .dct b kvs => F a = none ∧ kvs.length ≤ sizeLine ∧ ∃ u, H a = some u ∧ DLk b kvs u
structure RelH (K : PySem.W.Frag) (H : Hp) (io : List Addr) (F : Hp) (st : Sto) : Prop where
  sub : ∀ a o, F a = some o → H a = some o
  len : io.length = st.length
  nd : io.Nodup
  there : ∀ a ∈ io, ∃ o, H a = some o
  cel : ∀ (n : Nat) c a, st[n]? = some c → io[n]? = some a → CelOk K H io F a c
  tab : ∀ p ∈ tabsOf K, F p.1 = none ∧ p.1 ∉ io ∧ ∃ ps, H p.1 = some (.tbl ps) ∧ TriplesOk ps.toList ∧ ∀ (pos : Pos) (cv : Value), codeAmong pos ps.toList = some cv → ∃ c, cv = .ref c ∧ F c = some (LamX.CodeO c p.2)
/-- from one state to a later one -/
structure Stp (H : Hp) (io : List Addr) (F H' : Hp) (io' : List Addr) (F' : Hp) : Prop where
  ext : ∃ more, io' = io ++ more ∧ ∀ a ∈ more, H a = none
  fr : ∀ a o, F a = some o → F' a = some o
  keep : ∀ a o, H a = some o → (∀ ps, o ≠ .tbl ps) → a ∉ io → H' a = some o
  dom : ∀ a o, H a = some o → ∃ o', H' a = some o'
  fnw : ∀ a o, F' a = some o → F a = some o ∨ H a = none ∨ a ∈ io
/-- whence an exception's wish looks on: the state at a def's, a try's or a suite's start -/
class Bs where
  H : Hp
  io : List Addr
  F : Hp
structure Rel [B : Bs] (K : PySem.W.Frag) (σ : L2.St) (H : Hp) (env : En) (io : List Addr) (F : Hp) (st : Sto) : Prop extends RelH K H io F st where
  sl : σ.length = env.length
  slot : ∀ (i : Nat) d, env[i]? = some (some d) → ∃ v, σ[i]? = some (some v) ∧ Den K io F v d
  bs : Stp B.H B.io B.F H io F
section
variable {K : PySem.W.Frag} {io io' io1 io2 : List Addr} {F F' F1 F2 H H' H1 H2 : Hp} {st st' : Sto} {σ : L2.St} {env : En}
theorem Stp.ix (s : Stp H io F H' io' F') (n : Nat) (a : Addr) (h : io[n]? = some a) : io'[n]? = some a := by
  obtain ⟨more, e, _⟩ := s.ext
  subst e
  rw [List.getElem?_append_left (List.getElem?_eq_some_iff.mp h).1]
  exact h
theorem Stp.den (s : Stp H io F H' io' F') {v : V} {d : D} (h : Den K io F v d) : Den K io' F' v d := h.mono s.ix s.fr
theorem Stp.denL (s : Stp H io F H' io' F') {v : List V} {d : List D} (h : DenL K io F v d) : DenL K io' F' v d := h.mono s.ix s.fr
theorem Stp.refl : Stp H io F H io F := ⟨⟨[], by simp, fun _ h => by cases h⟩, fun _ _ h => h, fun _ _ h _ _ => h, fun _ o h => ⟨o, h⟩, fun _ _ h => .inl h⟩
theorem Stp.none_of (s : Stp H io F H' io' F') {a : Addr} (h : H' a = none) : H a = none := by
  cases e : H a with
  | none => rfl
  | some o =>
    obtain ⟨o', h'⟩ := s.dom a o e
    rw [h] at h'; cases h'
theorem Stp.trans (s : Stp H io F H1 io1 F1) (t : Stp H1 io1 F1 H2 io2 F2) : Stp H io F H2 io2 F2 := by
  obtain ⟨m1, e1, n1⟩ := s.ext
  obtain ⟨m2, e2, n2⟩ := t.ext
  refine ⟨⟨m1 ++ m2, by rw [e2, e1, List.append_assoc], fun a ha => ?_⟩, fun a o h => t.fr _ _ (s.fr _ _ h), fun a o h hn ho => ?_, fun a o h => ?_, fun a o h => ?_⟩
  · rcases List.mem_append.mp ha with h | h
    · exact n1 a h
    · exact s.none_of (n2 a h)
  · have h1 := s.keep a o h hn ho
    refine t.keep a o h1 hn fun hm => ?_
    rw [e1] at hm
    rcases List.mem_append.mp hm with h2 | h2
    · exact ho h2
    · have := n1 a h2
      rw [h] at this; cases this
  · obtain ⟨o1, h1⟩ := s.dom a o h
    exact t.dom a o1 h1
  · rcases t.fnw a o h with h1 | h1 | h1
    · exact s.fnw a o h1
    · exact .inr (.inl (s.none_of h1))
    · rw [e1] at h1
      rcases List.mem_append.mp h1 with h2 | h2
      · exact .inr (.inr h2)
      · exact .inr (.inl (n1 a h2))
/-- an object beside frozen ones and the store stays beside, as it is -/
theorem Stp.beside (s : Stp H io F H' io' F') {p : Addr} {o : HO} (h : H p = some o) (hn : ∀ ps, o ≠ .tbl ps) (hF : F p = none) (hio : p ∉ io) : H' p = some o ∧ F' p = none ∧ p ∉ io' := by
  refine ⟨s.keep p o h hn hio, ?_, fun hm => ?_⟩
  · cases e : F' p with
    | none => rfl
    | some u =>
      rcases s.fnw p u e with h1 | h1 | h1
      · rw [hF] at h1; cases h1
      · rw [h] at h1; cases h1
      · exact absurd h1 hio
  · obtain ⟨more, e, n⟩ := s.ext
    rw [e] at hm
    rcases List.mem_append.mp hm with h1 | h1
    · exact hio h1
    · have := n p h1
      rw [h] at this; cases this
/-- an object that was not there at first may change -/
theorem Stp.own (s : Stp H io F H' io' F') {p : Addr} {o : HO} (h : H p = none) : Stp H io F (upd H' p o) io' F' :=
  ⟨s.ext, s.fr, fun a u e hn ho => by rw [upd_ne (fun z => by subst z; rw [h] at e; cases e)]; exact s.keep a u e hn ho, fun a u e => by
    by_cases z : a = p
    · subst z; exact ⟨o, upd_same⟩
    · rw [upd_ne z]; exact s.dom a u e, s.fnw⟩
/-- .. and be frozen -/
theorem Stp.frz (s : Stp H io F H' io' F') {p : Addr} {o : HO} (h : H p = none) (hF : F' p = none) : Stp H io F H' io' (upd F' p o) :=
  ⟨s.ext, fun a u e => by
    have := s.fr a u e
    rw [upd_ne (fun z => by subst z; rw [hF] at this; cases this)]
    exact this, s.keep, s.dom, fun a u e => by
    by_cases z : a = p
    · subst z; exact .inr (.inl h)
    · rw [upd_ne z] at e; exact s.fnw a u e⟩
/-- .. or a cell -/
theorem Stp.cell (s : Stp H io F H' io' F') {p : Addr} (h : H p = none) : Stp H io F H' (io' ++ [p]) F' := by
  obtain ⟨more, e, n⟩ := s.ext
  refine ⟨⟨more ++ [p], by rw [e, List.append_assoc], fun a ha => ?_⟩, s.fr, s.keep, s.dom, s.fnw⟩
  rcases List.mem_append.mp ha with h1 | h1
  · exact n a h1
  · simp at h1; subst h1; exact h
theorem Rel.next [Bs] (R : Rel K σ H env io F st) (s : Stp H io F H' io' F') (r : RelH K H' io' F' st') : Rel K σ H' env io' F' st' :=
  { r with sl := R.sl, bs := R.bs.trans s, slot := fun i d e => let ⟨v, h1, h2⟩ := R.slot i d e; ⟨v, h1, s.den h2⟩ }
theorem RelH.notF (R : RelH K H io F st) {a : Addr} (h : H a = none) : F a = none := by
  cases e : F a with
  | none => rfl
  | some o => have := R.sub _ _ e; rw [h] at this; cases this
theorem RelH.notIo (R : RelH K H io F st) {a : Addr} (h : H a = none) : a ∉ io := fun hm => by
  obtain ⟨o, e⟩ := R.there a hm
  rw [h] at e; cases e
theorem CelOk.next {a : Addr} {c : Cel} (s : Stp H io F H' io' F') (e : H' a = H a) (hf : F a = none → F' a = none) (h : CelOk K H io F a c) : CelOk K H' io' F' a c := by
  cases c with
  | lst ds =>
    obtain ⟨h1, h2, vs, h3, h4⟩ := h
    exact ⟨hf h1, h2, vs, by rw [e]; exact h3, s.denL h4⟩
  | dead => trivial
  | ins C fs =>
    obtain ⟨h1, cc, dx, fv, hc, h3, h4⟩ := h
    exact ⟨hf h1, cc, dx, fv, hc, by rw [e]; exact h3, Paired.mapP h4 fun p q z => ⟨z.1, s.den z.2⟩⟩
  | dct b kvs =>
    obtain ⟨h1, h2, u, h3, h4⟩ := h
    exact ⟨hf h1, h2, u, by rw [e]; exact h3, h4⟩
theorem same_upd {p : Addr} {o : HO} (h : H p = none) : ∀ a u, H a = some u → upd H p o a = some u := fun b x e => by
  rw [upd_ne (ne_of_none e h)]
  exact e
/-- a new frozen object -/
theorem Stp.laid {p : Addr} {o : HO} (h : H p = none) (hF : ∀ a o, F a = some o → H a = some o) : Stp H io F (upd H p o) io (upd F p o) :=
  ⟨⟨[], by simp, fun _ h => by cases h⟩, fun a u e => by rw [upd_ne (fun z => by subst z; have := hF _ _ e; rw [h] at this; cases this)]; exact e, fun a u e _ _ => same_upd h a u e, fun a u e => ⟨u, same_upd h a u e⟩, fun a u e => by
    by_cases z : a = p
    · subst z; exact .inr (.inl h)
    · rw [upd_ne z] at e; exact .inl e⟩
theorem RelH.laid (R : RelH K H io F st) {p : Addr} {o : HO} (h : H p = none) : RelH K (upd H p o) io (upd F p o) st := by
  refine ⟨fun a u e => ?_, R.len, R.nd, fun a ha => ?_, fun n c a h1 h2 => ?_, fun q hq => ?_⟩
  rotate_right
  · obtain ⟨t1, t2, ps, t3, t4, t5⟩ := R.tab q hq
    have ne : q.1 ≠ p := fun z => by rw [z, h] at t3; cases t3
    refine ⟨by rw [upd_ne ne]; exact t1, t2, ps, by rw [upd_ne ne]; exact t3, t4, fun pos cv hc => ?_⟩
    obtain ⟨c, e1, e2⟩ := t5 pos cv hc
    refine ⟨c, e1, ?_⟩
    rw [upd_ne (fun z => by have := R.sub _ _ e2; rw [z, h] at this; cases this)]
    exact e2
  · by_cases z : a = p
    · subst z; rw [upd_same] at e ⊢; exact e
    · rw [upd_ne z] at e ⊢; exact R.sub _ _ e
  · obtain ⟨u, e⟩ := R.there a ha
    exact ⟨u, same_upd h a u e⟩
  · have ne : a ≠ p := fun z => by subst z; exact R.notIo h (List.mem_of_getElem? h2)
    exact (R.cel n c a h1 h2).next (Stp.laid h R.sub) (upd_ne ne) fun hf => by rw [upd_ne ne]; exact hf
/-- a new tracked object that is neither frozen nor in the store -/
theorem Stp.aside {p : Addr} {o : HO} (h : H p = none) : Stp H io F (upd H p o) io F :=
  ⟨⟨[], by simp, fun _ h => by cases h⟩, fun a u e => e, fun a u e _ _ => same_upd h a u e, fun a u e => ⟨u, same_upd h a u e⟩, fun _ _ e => .inl e⟩
theorem RelH.aside (R : RelH K H io F st) {p : Addr} {o : HO} (h : H p = none) : RelH K (upd H p o) io F st := by
  refine ⟨fun a u e => same_upd h _ _ (R.sub _ _ e), R.len, R.nd, fun a ha => ?_, fun n c a h1 h2 => ?_, fun q hq => ?_⟩
  rotate_right
  · obtain ⟨t1, t2, ps, t3, t4, t5⟩ := R.tab q hq
    exact ⟨t1, t2, ps, same_upd h _ _ t3, t4, t5⟩
  · obtain ⟨u, e⟩ := R.there a ha
    exact ⟨u, same_upd h a u e⟩
  · have ne : a ≠ p := fun z => by subst z; exact R.notIo h (List.mem_of_getElem? h2)
    exact (R.cel n c a h1 h2).next (Stp.aside h) (upd_ne ne) fun hf => hf
/-- a tracked object beside the store changes -/
theorem RelH.side (R : RelH K H io F st) {p : Addr} {o o0 : HO} (hp : H p = some o0) (hn : ∀ ps, o0 ≠ .tbl ps) (hf : F p = none) (hio : p ∉ io) : RelH K (upd H p o) io F st := by
  refine ⟨fun a u e => ?_, R.len, R.nd, fun a ha => ?_, fun n c a h1 h2 => ?_, fun q hq => ?_⟩
  rotate_right
  · obtain ⟨t1, t2, ps, t3, t4, t5⟩ := R.tab q hq
    exact ⟨t1, t2, ps, by rw [upd_ne (fun z => by rw [z, hp] at t3; cases t3; exact hn _ rfl)]; exact t3, t4, t5⟩
  · rw [upd_ne (fun z => by subst z; rw [hf] at e; cases e)]
    exact R.sub _ _ e
  · rw [upd_ne (fun z => by subst z; exact hio ha)]
    exact R.there a ha
  · have ne : a ≠ p := fun z => by subst z; exact hio (List.mem_of_getElem? h2)
    have := R.cel n c a h1 h2
    cases c with
    | lst ds => obtain ⟨q1, q2, vs, q3, q4⟩ := this; exact ⟨q1, q2, vs, by rw [upd_ne ne]; exact q3, q4⟩
    | dead => trivial
    | ins C fs => obtain ⟨q1, cc, dx, fv, qc, q3, q4⟩ := this; exact ⟨q1, cc, dx, fv, qc, by rw [upd_ne ne]; exact q3, q4⟩
    | dct b kvs => obtain ⟨q1, q2, u, q3, q4⟩ := this; exact ⟨q1, q2, u, by rw [upd_ne ne]; exact q3, q4⟩
/-- a tracked object beside the store is frozen -/
theorem RelH.frz (R : RelH K H io F st) {p : Addr} {o : HO} (hp : H p = some o) (hn : ∀ ps, o ≠ .tbl ps) (hf : F p = none) (hio : p ∉ io) : RelH K H io (upd F p o) st := by
  have fr : ∀ a u, F a = some u → upd F p o a = some u := fun a u e => by
    rw [upd_ne (fun z => by subst z; rw [hf] at e; cases e)]; exact e
  refine ⟨fun a u e => ?_, R.len, R.nd, R.there, fun n c a h1 h2 => ?_, fun q hq => ?_⟩
  rotate_right
  · obtain ⟨t1, t2, ps, t3, t4, t5⟩ := R.tab q hq
    refine ⟨by rw [upd_ne (fun z => by rw [z, hp] at t3; cases t3; exact hn _ rfl)]; exact t1, t2, ps, t3, t4, fun pos cv hc => ?_⟩
    obtain ⟨c, e1, e2⟩ := t5 pos cv hc
    exact ⟨c, e1, fr _ _ e2⟩
  · by_cases z : a = p
    · subst z; rw [upd_same] at e; cases e; exact hp
    · rw [upd_ne z] at e; exact R.sub _ _ e
  · have ne : a ≠ p := fun z => by subst z; exact hio (List.mem_of_getElem? h2)
    have := R.cel n c a h1 h2
    cases c with
    | lst ds => obtain ⟨q1, q2, vs, q3, q4⟩ := this; exact ⟨by rw [upd_ne ne]; exact q1, q2, vs, q3, q4.mono (fun _ _ h => h) fr⟩
    | dead => trivial
    | ins C fs => obtain ⟨q1, cc, dx, fv, qc, q3, q4⟩ := this; exact ⟨by rw [upd_ne ne]; exact q1, cc, dx, fv, qc, q3, Paired.mapP q4 fun _ _ z => ⟨z.1, z.2.mono (fun _ _ h => h) fr⟩⟩
    | dct b kvs => obtain ⟨q1, q2, u, q3, q4⟩ := this; exact ⟨by rw [upd_ne ne]; exact q1, q2, u, q3, q4⟩
/-- .. becomes a cell -/
theorem RelH.adopt (R : RelH K H io F st) {p : Addr} {c : Cel} (hp : ∃ o, H p = some o ∧ ∀ ps, o ≠ .tbl ps) (hio : p ∉ io) (hc : CelOk K H (io ++ [p]) F p c) : RelH K H (io ++ [p]) F (st ++ [c]) := by
  have ix : ∀ (n : Nat) a, io[n]? = some a → (io ++ [p])[n]? = some a := fun n a h => by
    rw [List.getElem?_append_left (List.getElem?_eq_some_iff.mp h).1]; exact h
  refine ⟨R.sub, by rw [List.length_append, List.length_append, R.len]; rfl, List.nodup_append.mpr ⟨R.nd, by simp, fun a ha b hb => ?_⟩, fun a ha => ?_, fun n d a h1 h2 => ?_, fun q hq => ?_⟩
  rotate_right
  · obtain ⟨t1, t2, ps, t3, t4, t5⟩ := R.tab q hq
    refine ⟨t1, fun hm => ?_, ps, t3, t4, t5⟩
    rcases List.mem_append.mp hm with h | h
    · exact t2 h
    · simp at h
      obtain ⟨o, h1, h2⟩ := hp
      rw [← h, t3] at h1
      cases h1
      exact h2 _ rfl
  · simp at hb
    subst hb
    intro e
    subst e
    exact hio ha
  · rcases List.mem_append.mp ha with h | h
    · exact R.there a h
    · simp at h
      subst h
      obtain ⟨o, h1, _⟩ := hp
      exact ⟨o, h1⟩
  · by_cases hn : n < st.length
    · rw [List.getElem?_append_left hn] at h1
      rw [List.getElem?_append_left (by rw [R.len]; exact hn)] at h2
      have := R.cel n d a h1 h2
      cases d with
      | lst ds => obtain ⟨q1, q2, vs, q3, q4⟩ := this; exact ⟨q1, q2, vs, q3, q4.mono ix fun _ _ h => h⟩
      | dead => trivial
      | ins C fs => obtain ⟨q1, cc, dx, fv, qc, q3, q4⟩ := this; exact ⟨q1, cc, dx, fv, qc, q3, Paired.mapP q4 fun _ _ z => ⟨z.1, z.2.mono ix fun _ _ h => h⟩⟩
      | dct b kvs => obtain ⟨q1, q2, u, q3, q4⟩ := this; exact ⟨q1, q2, u, q3, q4⟩
    · have e : n = st.length := by
        have := (List.getElem?_eq_some_iff.mp h1).1
        rw [List.length_append, List.length_singleton] at this
        omega
      subst e
      rw [List.getElem?_append_right (Nat.le_refl _), Nat.sub_self] at h1
      rw [← R.len, List.getElem?_append_right (Nat.le_refl _), Nat.sub_self] at h2
      cases h1
      cases h2
      exact hc
theorem RelH.newRef (R : RelH K H io F st) {p : Addr} : Den K (io ++ [p]) F (.ref p) (.ref st.length) := .ref (by rw [← R.len, List.getElem?_append_right (Nat.le_refl _), Nat.sub_self]; rfl)
end
end DL
namespace DL
open PySem PySem.Spec PyProof.Rows L2
abbrev tobj (its : List Value) : Obj := { cls := .type "tuple", data := .seq its.toArray }
abbrev XtK (H : Hp) (Q : VK) (vs : List V) : Prop := ∀ (p : Addr) (o : Obj), H p = none → o.dict = none → Q (.ref p) (upd H p (.frz o (.tup vs)))
section
variable {X : Cx} {pins : List (Addr × Obj)} {σ : L2.St} {H : Hp} {s : Shared} {xs : List V} {its : List Value} {Q : VK}
theorem new_tup (I : Inv X pins σ H s) (z : xs.length ≤ sizeLine) (r : Vals xs its) (q : XtK H Q xs) : EP X pins σ Q (.ref s.heap.objs.size) { s with heap := s.heap.push (tobj its) } :=
  ⟨.ref s.heap.objs.size, upd H s.heap.objs.size (.frz (tobj its) (.tup xs)), I.laid (t' := s.toks) (fun _ _ e => Heap.get?_push_of_some _ e) (Nat.le_refl _) ⟨Heap.get?_push_size _ rfl, z, its, r, IsTup.new _ _⟩, rfl, q _ _ (I.hok.fresh (Nat.le_refl _)) rfl⟩
def tTupX (t : TA) : TE := fun σ H Q => t σ H fun xs H1 => xs.length ≤ sizeLine ∧ XtK H1 Q xs
theorem pe_tupX {es : List Expr} {t : TA} {k} {pos : Pos} (h : PA X es t) : PE X (.Tuple es k pos) (tTupX t) :=
  ⟨fun pins s σ H Q I hq => wpAny_Tuple_spliced (thn (h.run pos pins s σ H _ I hq) fun us s1 ⟨xs, H1, I1, r, z, q⟩ => ⟨by rw [← r.length]; exact z, new_tup I1 z r q⟩)⟩
def rCatX (K : PySem.W.Frag) : V → V → Hp → VK → Prop := fun x y H Q => ∃ a b xs ys, x = .ref a ∧ y = .ref b ∧ SqT K H a xs ∧ SqT K H b ys ∧ xs.length + ys.length ≤ sizeLine ∧
  (xs = [] → Q (.ref b) H) ∧ (xs ≠ [] → ys = [] → Q (.ref a) H) ∧ (xs ≠ [] → ys ≠ [] → XtK H Q (xs ++ ys))
theorem op_catX : OpR X (binaryOp .Add) (rCatX X.K) := fun pins s σ H x y v u Q I rx ry h => by
  obtain ⟨a, b, xs, ys, rfl, rfl, ha, hb, hz, q0, q1, q2⟩ := h
  cases rx; cases ry
  obtain ⟨t1, r1, p1, _⟩ := I.tuple ha; obtain ⟨t2, r2, p2, _⟩ := I.tuple hb
  cases xs with
  | nil => cases r1; exact cat_tup0 p1 p2 ⟨.ref b, H, I, rfl, q0 rfl⟩
  | cons x xs =>
    have n1 : t1 ≠ [] := fun e => nomatch (r1.nil_iff.mp e)
    refine HT.cat_tup p1 p2 n1 (fun z => ⟨.ref a, H, I, rfl, q1 (fun e => nomatch e) (r2.nil_iff.mp z)⟩) (fun z => new_tup I (by rw [List.length_append]; exact hz) (r1.append r2) (q2 (fun e => nomatch e) fun w => z (r2.nil_iff.mpr w))) ?_
    rw [← r1.length, ← r2.length]; exact hz
def rSlX (K : PySem.W.Frag) : V → Option Int → Option Int → Hp → VK → Prop := fun x lo hi H Q => ∃ a xs, x = .ref a ∧ SqT K H a xs ∧
  (HT.sIx xs.length 0 lo = 0 ∧ HT.sIx xs.length xs.length hi = xs.length → Q (.ref a) H) ∧ (¬ (HT.sIx xs.length 0 lo = 0 ∧ HT.sIx xs.length xs.length hi = xs.length) → XtK H Q (cutV xs lo hi))
theorem sl_tupX : SlR X (rSlX X.K) := fun pins s σ H x v vl vu lo hi sl Q I rx hs pl pu h => by
  obtain ⟨a, xs, rfl, hx, q1, q2⟩ := h
  cases rx
  obtain ⟨its, r, ht, hz⟩ := I.tuple hx
  have hl : its.toArray.size = xs.length := r.length.symm
  by_cases hw : HT.sIx xs.length 0 lo = 0 ∧ HT.sIx xs.length xs.length hi = xs.length
  · exact ⟨"tuple", _, PyProof.Rows.slot_tuple_getitem.lookup, ht.typeIs, getItem_tuple_whole ht hs pl pu (by rw [hl]; exact hw) ⟨.ref a, H, I, rfl, q1 hw⟩⟩
  · refine ⟨"tuple", _, PyProof.Rows.slot_tuple_getitem.lookup, ht.typeIs, HT.getItem_tuple_cut ht hs pl pu (by rw [hl]; exact hw) ?_ (by rw [hl]; exact hz)⟩
    rw [hl]
    exact new_tup I (Nat.le_trans (cutV_length xs lo hi) hz) ((r.drop (HT.sIx xs.length 0 lo)).take (HT.sIx xs.length xs.length hi - HT.sIx xs.length 0 lo)) (q2 hw)
theorem call_tupleX : CallR X (.type "tuple") (fun xs H Q => ∃ p ys, xs = [.ref p] ∧ ((SqL X.K H p ys ∧ XtK H Q ys) ∨ (SqT X.K H p ys ∧ Q (.ref p) H))) := fun pins s σ H xs us Q I r h => by
  obtain ⟨p, ys, rfl, h⟩ := h
  obtain ⟨u, rfl, rx⟩ := vals1 r
  cases rx
  rcases h with ⟨hq, q⟩ | ⟨hq, q⟩
  · obtain ⟨its, r2, pl, hz⟩ := I.list hq
    have hl := r2.length
    exact call_tuple_list pl.isList (fun h' kp => new_tup (I.kept (t' := s.toks) kp) hz r2 q) (by simp only [List.size_toArray] <;> omega)
  · obtain ⟨its, r2, pl, hz⟩ := I.tuple hq
    exact call_tuple_same pl ⟨.ref p, H, I, rfl, q⟩
def tTupRgX (te : L2.St → Hp → (Int → Int → Hp → Prop) → Prop) : TE := fun σ H Q => te σ H fun a b H1 => RgOk a b ∧ XtK H1 Q (rgV a b)
theorem pe_tupRgX {e : Expr} {te : L2.St → Hp → (Int → Int → Hp → Prop) → Prop} {p pos : Pos} (hc : X.calm = true) (hg : Gl X "tuple") (hm : X.mg "tuple" = none) (he : PRg X e te) (na : starEach [e] X.env = (false, eval e X.env) :: starEach [] X.env := by rfl) : PE X (.Call (.Name "tuple" p) [e] [] pos) (tTupRgX te) := by
  refine ⟨fun pins s σ H Q I h => Call_ (ld_blt I hg hm boot_tuple (PyProof.Rows.callWith_type1 (args_cons (thn (he pins s σ H _ I h) fun x s1 ⟨r, a, b, t, u, v, H1, ex, hr, I1, ⟨⟨b1, b2, b3, b4, b5⟩, q⟩⟩ => args_nil ?_) na) na))⟩
  subst ex
  refine call_tuple_range (n := (b - a).toNat) (I1.ok.hd hc) hr (small_one b1 b2 b3 b4) (rangeSize_nat a b) b5 fun h' tk acc hk hi => ?_
  have I2 : Inv X pins σ H1 { s1 with heap := h', toks := tk } := I1.kept hk
  obtain ⟨l, rfl⟩ : ∃ l : List Value, acc = l.toArray := ⟨acc.toList, by simp⟩
  exact new_tup I2 (xs := rgV a b) (its := l) (by rw [rgV_length, sizeLine_eq]; omega) (by simpa using vals_rg hi) q
end
end DL
namespace DL
open PySem PySem.Spec PyProof.Rows L2
variable [Bs]
abbrev DK := D → Sto → Prop
abbrev BK := Bool → Sto → Prop
abbrev LK := List D → Sto → Prop
abbrev DE := En → Sto → DK → Prop
abbrev DT := En → Sto → BK → Prop
abbrev DA := En → Sto → LK → Prop
structure DEnds where
  nx : En → Sto → Prop
  rt : DK
  bk : En → Sto → Prop := fun _ _ => False
  ct : En → Sto → Prop := fun _ _ => False
abbrev DS := DEnds → En → Sto → Prop
def MoE (w : DE) : Prop := ∀ (e : En) (s : Sto) (Q Q' : DK), (∀ d s, Q d s → Q' d s) → w e s Q → w e s Q'
def MoT (w : DT) : Prop := ∀ (e : En) (s : Sto) (Q Q' : BK), (∀ d s, Q d s → Q' d s) → w e s Q → w e s Q'
def MoA (w : DA) : Prop := ∀ (e : En) (s : Sto) (Q Q' : LK), (∀ d s, Q d s → Q' d s) → w e s Q → w e s Q'
structure DEnds.le (A B : DEnds) : Prop where
  nx : ∀ e s, A.nx e s → B.nx e s
  rt : ∀ d s, A.rt d s → B.rt d s
  bk : ∀ e s, A.bk e s → B.bk e s
  ct : ∀ e s, A.ct e s → B.ct e s
def MoS (w : DS) : Prop := ∀ (A B : DEnds) (e : En) (s : Sto), A.le B → w A e s → w B e s
/-- the wishes below -/
def kE (K : PySem.W.Frag) (H : Hp) (io : List Addr) (F : Hp) (Q : VK) : DK := fun d st' => ∀ v io' F' H', Stp H io F H' io' F' → RelH K H' io' F' st' → Den K io' F' v d → Q v H'
def kT (K : PySem.W.Frag) (H : Hp) (io : List Addr) (F : Hp) (Q : Bool → Hp → Prop) : BK := fun b st' => ∀ io' F' H', Stp H io F H' io' F' → RelH K H' io' F' st' → Q b H'
def kA (K : PySem.W.Frag) (H : Hp) (io : List Addr) (F : Hp) (Q : List V → Hp → Prop) : LK := fun ds st' => ∀ vs io' F' H', Stp H io F H' io' F' → RelH K H' io' F' st' → DenL K io' F' vs ds → Q vs H'
def kN (K : PySem.W.Frag) (H : Hp) (io : List Addr) (F : Hp) (Q : L2.St → Hp → Prop) : En → Sto → Prop := fun env' st' => ∀ σ' io' F' H', Stp H io F H' io' F' → Rel K σ' H' env' io' F' st' → Q σ' H'
def kD (K : PySem.W.Frag) (H : Hp) (io : List Addr) (F : Hp) (D : Ends) : DEnds := ⟨kN K H io F D.nx, kE K H io F D.rt, kN K H io F D.bk, kN K H io F D.ct⟩
def tE (K : PySem.W.Frag) (w : DE) : TE := fun σ H Q => ∃ env io F st, Rel K σ H env io F st ∧ w env st (kE K H io F Q)
def tT (K : PySem.W.Frag) (w : DT) : TT := fun σ H Q => ∃ env io F st, Rel K σ H env io F st ∧ w env st (kT K H io F Q)
def tA (K : PySem.W.Frag) (w : DA) : TA := fun σ H Q => ∃ env io F st, Rel K σ H env io F st ∧ w env st (kA K H io F Q)
def tS (K : PySem.W.Frag) (w : DS) : TS := fun D σ H => ∃ env io F st, Rel K σ H env io F st ∧ w (kD K H io F D) env st
structure WE (X : Cx) (e : Expr) (w : DE) : Prop where
  mo : MoE w
  pe : PE X e (tE X.K w)
structure WT (X : Cx) (e : Expr) (w : DT) : Prop where
  mo : MoT w
  pe : PT X e (tT X.K w)
structure WA (X : Cx) (es : List Expr) (w : DA) : Prop where
  mo : MoA w
  pe : PA X es (tA X.K w)
structure WS (X : Cx) (s : Stmt) (w : DS) : Prop where
  mo : MoS w
  pe : PS X s (tS X.K w)
structure WB (X : Cx) (s : List Stmt) (w : DS) : Prop where
  mo : MoS w
  pe : PSs X s (tS X.K w)
theorem PE_imp {X : Cx} {e : Expr} {t t' : TE} (h : PE X e t) (i : ∀ σ H Q, t' σ H Q → t σ H Q) : PE X e t' := ⟨fun p s σ H Q I q => h.run p s σ H Q I (i σ H Q q)⟩
theorem PT_imp {X : Cx} {e : Expr} {t t' : TT} (h : PT X e t) (i : ∀ σ H Q, t' σ H Q → t σ H Q) : PT X e t' := ⟨fun p s σ H Q I q => h.run p s σ H Q I (i σ H Q q)⟩
theorem PA_imp {X : Cx} {e : List Expr} {t t' : TA} (h : PA X e t) (i : ∀ σ H Q, t' σ H Q → t σ H Q) : PA X e t' := ⟨fun pos p s σ H Q I q => h.run pos p s σ H Q I (i σ H Q q)⟩
theorem PS_imp {X : Cx} {e : Stmt} {t t' : TS} (h : PS X e t) (i : ∀ D σ H, t' D σ H → t D σ H) : PS X e t' := ⟨fun p s σ H Q I q => h.run p s σ H Q I (i Q σ H q)⟩
theorem PSs_imp {X : Cx} {e : List Stmt} {t t' : TS} (h : PSs X e t) (i : ∀ D σ H, t' D σ H → t D σ H) : PSs X e t' := ⟨fun p s σ H Q I q => h.run p s σ H Q I (i Q σ H q)⟩
section
variable {K : PySem.W.Frag} {io io' io1 : List Addr} {F F' F1 H H' H1 : Hp} {st st' : Sto} {σ : L2.St} {env : En}
/-- an expression's reading, its end as one wants -/
theorem tE_use {w : DE} (m : MoE w) {P : DK} {Q : VK} (R : Rel K σ H env io F st) (h : w env st P)
    (k : ∀ d st' v io' F' H', P d st' → Stp H io F H' io' F' → Rel K σ H' env io' F' st' → Den K io' F' v d → Q v H') : tE K w σ H Q :=
  ⟨env, io, F, st, R, m _ _ _ _ (fun d st' p v io' F' H' s r n => k d st' v io' F' H' p s (R.next s r) n) h⟩
theorem tT_use {w : DT} (m : MoT w) {P : BK} {Q : Bool → Hp → Prop} (R : Rel K σ H env io F st) (h : w env st P)
    (k : ∀ b st' io' F' H', P b st' → Stp H io F H' io' F' → Rel K σ H' env io' F' st' → Q b H') : tT K w σ H Q :=
  ⟨env, io, F, st, R, m _ _ _ _ (fun b st' p io' F' H' s r => k b st' io' F' H' p s (R.next s r)) h⟩
theorem tA_use {w : DA} (m : MoA w) {P : LK} {Q : List V → Hp → Prop} (R : Rel K σ H env io F st) (h : w env st P)
    (k : ∀ ds st' vs io' F' H', P ds st' → Stp H io F H' io' F' → Rel K σ H' env io' F' st' → DenL K io' F' vs ds → Q vs H') : tA K w σ H Q :=
  ⟨env, io, F, st, R, m _ _ _ _ (fun d st' p v io' F' H' s r n => k d st' v io' F' H' p s (R.next s r) n) h⟩
theorem kE_at {Q : VK} {d : D} {v : V} (h : kE K H io F Q d st') (s : Stp H io F H' io' F') (r : RelH K H' io' F' st') (n : Den K io' F' v d) : Q v H' := h v io' F' H' s r n
theorem kE_later {Q : VK} {d : D} {st : Sto} (s : Stp H io F H' io' F') (h : kE K H io F Q d st) : kE K H' io' F' Q d st := fun v io2 F2 H2 t r n => h v io2 F2 H2 (s.trans t) r n
theorem kN_later {Q : L2.St → Hp → Prop} {e : En} {st : Sto} (s : Stp H io F H' io' F') (h : kN K H io F Q e st) : kN K H' io' F' Q e st := fun σ2 io2 F2 H2 t r => h σ2 io2 F2 H2 (s.trans t) r
theorem kD_later {D : Ends} (s : Stp H io F H' io' F') : (kD K H io F D).le (kD K H' io' F' D) := ⟨fun _ _ h => kN_later s h, fun _ _ h => kE_later s h, fun _ _ h => kN_later s h, fun _ _ h => kN_later s h⟩
end
section
variable {X : Cx} {pos : Pos}
def wVar (i : Nat) : DE := fun env st Q => ∃ d, env[i]? = some (some d) ∧ Q d st
theorem we_var {i : Nat} {x : Str} (hN : X.N[i]? = some x) (hv : Vis X.env.scope x) (hd : (x == ("__debug__" : Str)) = false := by decide) (hcd : (x == ("__classdict__" : Str)) = false := by decide) : WE X (.Name x pos) (wVar i) := by
  refine ⟨fun e s Q Q' h ⟨d, h1, h2⟩ => ⟨d, h1, h _ _ h2⟩, PE_imp (pe_var hN hv hd hcd) fun σ H Q ⟨env, io, F, st, R, d, e, q⟩ => ?_⟩
  obtain ⟨v, h1, h2⟩ := R.slot i d e
  exact ⟨v, h1, q v io F H Stp.refl R.toRelH h2⟩
def wC (d : D) : DE := fun _ st Q => Q d st
theorem moC (d : D) : MoE (wC d) := fun _ _ _ _ h q => h _ _ q
theorem we_c {e : Expr} {v : V} {d : D} (h : PE X e (tC v)) (hd : ∀ io F, Den X.K io F v d) : WE X e (wC d) :=
  ⟨moC d, PE_imp h fun σ H Q ⟨env, io, F, st, R, q⟩ => q v io F H Stp.refl R.toRelH (hd _ _)⟩
theorem we_int {i : Int} {j} : WE X (.Constant (.int i) j pos) (wC (.int i)) := we_c pe_int fun _ _ => .int i
theorem we_bl {b : Bool} {j} : WE X (.Constant (.bool b) j pos) (wC (.bl b)) := we_c pe_bl fun _ _ => .bl b
theorem we_str {x} {j} : WE X (.Constant (.str x) j pos) (wC (.str x)) := we_c pe_str fun _ _ => .str x
/-- a tuple of the written part -/
theorem we_gtup {x : Str} {a : Addr} {ds : List D} (hg : Gl X x) (hm : X.mg x = some (.ref a)) (h : ∀ io F, Den X.K io F (.ref a) (.tup ds)) (hd : (x == ("__debug__" : Str)) = false := by decide) : WE X (.Name x pos) (wC (.tup ds)) :=
  we_c (pe_glob (v := .ref a) hg hm rfl hd) h
end
abbrev R2D := D → D → Sto → DK → Prop
def wOp (f : R2D) (wa wb : DE) : DE := fun env st Q => wa env st fun a s1 => wb env s1 fun b s2 => f a b s2 Q
def MoR (f : R2D) : Prop := ∀ a b s Q Q', (∀ d s, Q d s → Q' d s) → f a b s Q → f a b s Q'
/-- f is done by r -/
structure Rz (K : PySem.W.Frag) (r : R2) (f : R2D) : Prop where
  mo : MoR f
  on : ∀ {H io F st x y a b Q}, RelH K H io F st → Den K io F x a → Den K io F y b → f a b st (kE K H io F Q) → r x y H Q
theorem moOp {f : R2D} {wa wb : DE} (mf : MoR f) (ma : MoE wa) (mb : MoE wb) : MoE (wOp f wa wb) := fun e s Q Q' h q => ma _ _ _ _ (fun _ _ q => mb _ _ _ _ (fun _ _ q => mf _ _ _ _ _ h q) q) q
theorem tOp_of {X : Cx} {r : R2} {f : R2D} {a b : Expr} {wa wb : DE} (z : Rz X.K r f) (ha : WE X a wa) (hb : WE X b wb) {σ : L2.St} {H : Hp} {Q : VK} (h : tE X.K (wOp f wa wb) σ H Q) : tOp r (tE X.K wa) (tE X.K wb) σ H Q := by
  obtain ⟨env, io, F, st, R, q⟩ := h
  refine tE_use ha.mo R q fun d1 s1 v1 io1 F1 H1 q1 t1 R1 n1 => ?_
  refine tE_use hb.mo R1 q1 fun d2 s2 v2 io2 F2 H2 q2 t2 R2 n2 => ?_
  exact z.on R2.toRelH (t2.den n1) n2 (z.mo _ _ _ _ _ (fun d s => kE_later (t1.trans t2)) q2)
section
variable {X : Cx} {pos : Pos} {a b c : Expr} {wa wb wc : DE}
theorem we_op {op : Operator} {r : R2} {f : R2D} (ho : OpR X (binaryOp op) r) (z : Rz X.K r f) (ha : WE X a wa) (hb : WE X b wb) : WE X (.BinOp a op b pos) (wOp f wa wb) :=
  ⟨moOp z.mo ha.mo hb.mo, PE_imp (pe_op ho ha.pe hb.pe) fun σ H Q h => tOp_of z ha hb h⟩
theorem we_cmp {op : CmpOp} {r : R2} {f : R2D} (ho : OpR X (compareOp op) r) (z : Rz X.K r f) (ha : WE X a wa) (hb : WE X b wb) (hm : behindInMarks op b = false) : WE X (.Compare a [op] [b] pos) (wOp f wa wb) :=
  ⟨moOp z.mo ha.mo hb.mo, PE_imp (pe_cmpR ho ha.pe hb.pe hm) fun σ H Q h => tOp_of z ha hb h⟩
/-- a value that is a bool, as a test -/
def wTest (w : DE) : DT := fun env st Q => w env st fun d s => ∃ b, d = .bl b ∧ Q b s
theorem moTest {w : DE} (m : MoE w) : MoT (wTest w) := fun e s Q Q' h q => m _ _ _ _ (fun _ _ ⟨b, e, q⟩ => ⟨b, e, h _ _ q⟩) q
theorem kB {K : PySem.W.Frag} {H : Hp} {io : List Addr} {F : Hp} {Q : Bool → Hp → Prop} {d : D} {st : Sto} (h : ∃ b, d = .bl b ∧ kT K H io F Q b st) : kE K H io F (fun x H' => ∃ k, x = .bl k ∧ Q k H') d st := by
  obtain ⟨b, e, q⟩ := h
  subst e
  intro v io' F' H' s r n
  cases n
  exact ⟨b, rfl, q _ _ _ s r⟩
theorem wt_val {e : Expr} {w : DE} (h : WE X e w) (he : ∀ whole, isTrue e X.env whole = (do let v ← whole; standAt e.pos; holding [v] (truthy v)) := by intro _; rfl) : WT X e (wTest w) :=
  ⟨moTest h.mo, PT_imp (pt_val h.pe he) fun σ H Q ⟨env, io, F, st, R, q⟩ => ⟨env, io, F, st, R, h.mo _ _ _ _ (fun d s => kB) q⟩⟩
theorem wt_cmp {op : CmpOp} {r : R2} {f : R2D} (ho : OpR X (compareOp op) r) (z : Rz X.K r f) (ha : WE X a wa) (hb : WE X b wb) (hm : behindInMarks op b = false) : WT X (.Compare a [op] [b] pos) (wTest (wOp f wa wb)) :=
  ⟨moTest (moOp z.mo ha.mo hb.mo), PT_imp (pt_cmpR ho ha.pe hb.pe hm) fun σ H Q ⟨env, io, F, st, R, q⟩ =>
    tOp_of z ha hb ⟨env, io, F, st, R, moOp z.mo ha.mo hb.mo _ _ _ _ (fun d s => kB) q⟩⟩
def wChain (f f' : R2D) (wa wb wc : DE) : DE := fun env st Q => wa env st fun x s1 => wb env s1 fun y s2 => f x y s2 fun z s3 => ∃ k, z = .bl k ∧ if k = true then wc env s3 fun u s4 => f' y u s4 Q else Q (.bl false) s3
end
end DL
namespace DL
open PySem PySem.Spec PyProof.Rows L2
variable [Bs]
section
variable {X : Cx} {pos : Pos} {a b : Expr} {rest : List Expr} {wa wb : DE} {ta tb : DT}
def wAnd (ta tb : DT) : DT := fun env st Q => ta env st fun c s => if c = true then tb env s Q else Q false s
def wOr (ta tb : DT) : DT := fun env st Q => ta env st fun c s => if c = true then Q true s else tb env s Q
def wNot (ta : DT) : DT := fun env st Q => ta env st fun c s => Q (!c) s
theorem moAnd (ma : MoT ta) (mb : MoT tb) : MoT (wAnd ta tb) := fun e s Q Q' h q => ma _ _ _ _ (fun c _ q => by cases c with
  | true => exact mb _ _ _ _ h q
  | false => exact h _ _ q) q
theorem moOr (ma : MoT ta) (mb : MoT tb) : MoT (wOr ta tb) := fun e s Q Q' h q => ma _ _ _ _ (fun c _ q => by cases c with
  | true => exact h _ _ q
  | false => exact mb _ _ _ _ h q) q
/-- a test whatever its whole is -/
structure WW (X : Cx) (e : Expr) (w : DT) : Prop where
  mo : MoT w
  pe : PW X e (tT X.K w)
theorem WW.wt {e : Expr} {w : DT} (h : WW X e w) : WT X e w := ⟨h.mo, h.pe.pt⟩
theorem PW_imp {e : Expr} {t t' : TT} (h : PW X e t) (i : ∀ σ H Q, t' σ H Q → t σ H Q) : PW X e t' := ⟨fun w p s σ H Q I q => h.run w p s σ H Q I (i σ H Q q)⟩
theorem ww_and1 (h : WT X a ta) : WW X (.BoolOp .And [a] pos) ta := ⟨h.mo, pw_and1 h.pe⟩
theorem ww_or1 (h : WT X a ta) : WW X (.BoolOp .Or [a] pos) ta := ⟨h.mo, pw_or1 h.pe⟩
theorem ww_and (ha : WT X a ta) (hb : WW X (.BoolOp .And (b :: rest) pos) tb) : WW X (.BoolOp .And (a :: b :: rest) pos) (wAnd ta tb) := by
  refine ⟨moAnd ha.mo hb.mo, PW_imp (pw_and ha.pe hb.pe) fun σ H Q ⟨env, io, F, st, R, q⟩ => ?_⟩
  refine tT_use ha.mo R q fun c s1 io1 F1 H1 q1 t1 R1 => ?_
  cases c with
  | true => exact tT_use hb.mo R1 q1 fun c s2 io2 F2 H2 q2 t2 R2 => q2 _ _ _ (t1.trans t2) R2.toRelH
  | false => exact q1 _ _ _ t1 R1.toRelH
theorem ww_or (ha : WT X a ta) (hb : WW X (.BoolOp .Or (b :: rest) pos) tb) : WW X (.BoolOp .Or (a :: b :: rest) pos) (wOr ta tb) := by
  refine ⟨moOr ha.mo hb.mo, PW_imp (pw_or ha.pe hb.pe) fun σ H Q ⟨env, io, F, st, R, q⟩ => ?_⟩
  refine tT_use ha.mo R q fun c s1 io1 F1 H1 q1 t1 R1 => ?_
  cases c with
  | true => exact q1 _ _ _ t1 R1.toRelH
  | false => exact tT_use hb.mo R1 q1 fun c s2 io2 F2 H2 q2 t2 R2 => q2 _ _ _ (t1.trans t2) R2.toRelH
theorem wt_not (ha : WT X a ta) : WT X (.UnaryOp .Not a pos) (wNot ta) :=
  ⟨fun e s Q Q' h q => ha.mo _ _ _ _ (fun _ _ q => h _ _ q) q, PT_imp (pt_not ha.pe) fun σ H Q ⟨env, io, F, st, R, q⟩ => ⟨env, io, F, st, R, q⟩⟩
def wAndV (wa wb : DE) : DE := fun env st Q => wa env st fun d s => ∃ c, d = .bl c ∧ if c = true then wb env s Q else Q (.bl false) s
def wOrV (wa wb : DE) : DE := fun env st Q => wa env st fun d s => ∃ c, d = .bl c ∧ if c = true then Q (.bl true) s else wb env s Q
def wNotV (wa : DE) : DE := fun env st Q => wa env st fun d s => ∃ c, d = .bl c ∧ Q (.bl (!c)) s
def wNeg (wa : DE) : DE := fun env st Q => wa env st fun d s => ∃ i, d = .int i ∧ Q (.int (-i)) s
def wNil : DA := fun _ st Q => Q [] st
def wCons (wa : DE) (wr : DA) : DA := fun env st Q => wa env st fun d s1 => wr env s1 fun ds s2 => Q (d :: ds) s2
theorem wa_nil : WA X [] wNil := ⟨fun _ _ _ _ h q => h _ _ q, PA_imp pa_nil fun σ H Q ⟨env, io, F, st, R, q⟩ => q [] io F H Stp.refl R.toRelH .nil⟩
theorem wa_cons {es : List Expr} {wr : DA} (ha : WE X a wa) (hr : WA X es wr) (hs : starEach (a :: es) X.env = (false, eval a X.env) :: starEach es X.env := by rfl) : WA X (a :: es) (wCons wa wr) := by
  refine ⟨fun e s Q Q' h q => ha.mo _ _ _ _ (fun _ _ q => hr.mo _ _ _ _ (fun _ _ q => h _ _ q) q) q, PA_imp (pa_cons ha.pe hr.pe hs) fun σ H Q ⟨env, io, F, st, R, q⟩ => ?_⟩
  refine tE_use ha.mo R q fun d s1 v io1 F1 H1 q1 t1 R1 n1 => ?_
  refine tA_use hr.mo R1 q1 fun ds s2 vs io2 F2 H2 q2 t2 R2 n2 => ?_
  exact q2 _ _ _ _ (t1.trans t2) R2.toRelH (.cons (t2.den n1) n2)
end
/-- a new tuple -/
theorem lay_tup {K : PySem.W.Frag} {H : Hp} {io : List Addr} {F : Hp} {st : Sto} {Q : VK} {vs : List V} {ds : List D} (R : RelH K H io F st) (n : DenL K io F vs ds) (z : ds.length ≤ sizeLine) (q : kE K H io F Q (.tup ds) st) :
    XtK H Q vs := fun p o hp hd =>
  q _ io (upd F p (.frz o (.tup vs))) _ (Stp.laid hp R.sub) (R.laid hp) (.tup (.inl ⟨o, upd_same, hd⟩) ((Stp.laid hp R.sub).denL n) z)
theorem lay_lst {K : PySem.W.Frag} {H : Hp} {io : List Addr} {F : Hp} {st : Sto} {Q : VK} {vs : List V} {ds : List D} (R : RelH K H io F st) (n : DenL K io F vs ds) (z : ds.length ≤ sizeLine) (q : kE K H io F Q (.lst ds) st) :
    ∀ p, H p = none → Q (.ref p) (upd H p (.lst vs)) := fun p hp =>
  q _ io (upd F p (.lst vs)) _ (Stp.laid hp R.sub) (R.laid hp) (.lst upd_same ((Stp.laid hp R.sub).denL n) z)
section
variable {K : PySem.W.Frag} {io io' : List Addr} {F F' H H' : Hp} {st st' : Sto}
/-- a new cell -/
theorem new_cell (R : RelH K H io F st) {p : Addr} {vs : List V} {ds : List D} (hp : H p = none) (n : DenL K io F vs ds) (z : ds.length ≤ sizeLine) :
    Stp H io F (upd H p (.lst vs)) (io ++ [p]) F ∧ RelH K (upd H p (.lst vs)) (io ++ [p]) F (st ++ [.lst ds]) ∧ Den K (io ++ [p]) F (.ref p) (.ref st.length) := by
  have s : Stp H io F (upd H p (.lst vs)) (io ++ [p]) F := (Stp.aside hp).cell hp
  exact ⟨s, (R.aside hp).adopt ⟨_, upd_same, fun _ z => nomatch z⟩ (R.notIo hp) ⟨R.notF hp, z, vs, upd_same, s.denL n⟩, R.newRef⟩
theorem lay_cell {Q : VK} {vs : List V} {ds : List D} (R : RelH K H io F st) (n : DenL K io F vs ds) (z : ds.length ≤ sizeLine) (q : kE K H io F Q (.ref st.length) (st ++ [.lst ds])) :
    ∀ p, H p = none → Q (.ref p) (upd H p (.lst vs)) := fun p hp => by
  obtain ⟨s, r, d⟩ := new_cell R hp n z
  exact q _ _ _ _ s r d
/-- a new list: kept apart (mutable) or a value -/
def newL (m : Bool) (ds : List D) (st : Sto) (Q : DK) : Prop := if m = true then Q (.ref st.length) (st ++ [.lst ds]) else Q (.lst ds) st
theorem newL_mo {m : Bool} {ds : List D} {st : Sto} {Q Q' : DK} (h : ∀ d s, Q d s → Q' d s) (q : newL m ds st Q) : newL m ds st Q' := by
  cases m with
  | true => exact h _ _ q
  | false => exact h _ _ q
theorem lay_new {m : Bool} {Q : VK} {vs : List V} {ds : List D} (R : RelH K H io F st) (n : DenL K io F vs ds) (z : ds.length ≤ sizeLine) (q : newL m ds st (kE K H io F Q)) :
    ∀ p, H p = none → Q (.ref p) (upd H p (.lst vs)) := by
  cases m with
  | true => exact lay_cell R n z q
  | false => exact lay_lst R n z q
end
section
variable {X : Cx} {pos : Pos} {es : List Expr} {wa : DA}
def wTup (wa : DA) : DE := fun env st Q => wa env st fun ds s => ds.length ≤ sizeLine ∧ Q (.tup ds) s
def wLst (m : Bool) (wa : DA) : DE := fun env st Q => wa env st fun ds s => ds.length ≤ sizeLine ∧ newL m ds s Q
theorem we_tup {k} (h : WA X es wa) : WE X (.Tuple es k pos) (wTup wa) := by
  refine ⟨fun e s Q Q' i q => h.mo _ _ _ _ (fun _ _ ⟨z, q⟩ => ⟨z, i _ _ q⟩) q, PE_imp (pe_tupX h.pe) fun σ H Q ⟨env, io, F, st, R, q⟩ => ?_⟩
  refine tA_use h.mo R q fun ds s1 vs io1 F1 H1 ⟨z, q1⟩ t1 R1 n1 => ⟨by rw [n1.length]; exact z, ?_⟩
  exact lay_tup R1.toRelH n1 z (kE_later t1 q1)
theorem we_lst {m : Bool} (h : WA X es wa) : WE X (.List es pos) (wLst m wa) := by
  refine ⟨fun e s Q Q' i q => h.mo _ _ _ _ (fun _ _ ⟨z, q⟩ => ⟨z, newL_mo i q⟩) q, PE_imp (pe_lst h.pe) fun σ H Q ⟨env, io, F, st, R, q⟩ => ?_⟩
  refine tA_use h.mo R q fun ds s1 vs io1 F1 H1 ⟨z, q1⟩ t1 R1 n1 => ⟨by rw [n1.length]; exact z, ?_⟩
  exact lay_new R1.toRelH n1 z (newL_mo (fun _ _ => kE_later t1) q1)
end
end DL
namespace DL
open PySem PySem.Spec PyProof.Rows L2
structure FnG (P : Program) (w : World) (K : PySem.W.Frag) (mg : Str → Option Value) (base : Heap) (CX : CXT) (k : Nat) (f : Addr) (fd : FuncData) (ps : List Str) (sp : Sp) : Prop where
  len : ∀ vs H Q E, sp vs H Q E → vs.length = ps.length
  run : ∀ (A : Around) (outer : List Env) (s : Shared) (H : Hp) (args : Args) (us : List Value) (vs : List V) (Q : VK) (E : XK), Room k A → A.guards = some [] → Env0 P w K mg base A outer s H → BindsTo s fd args (ps.zip us) →
    Vals vs us → sp vs H Q E → codeAny (model P w) A (.call (.ref f) args) (CR CX outer P w H s Q E) s
theorem FnG.mono {P : Program} {w : World} {K : PySem.W.Frag} {mg : Str → Option Value} {base : Heap} {CX : CXT} {j k : Nat} {f : Addr} {fd : FuncData} {ps : List Str} {sp : Sp} (F : FnG P w K mg base CX j f fd ps sp) (h : j ≤ k) :
    FnG P w K mg base CX k f fd ps sp := ⟨F.len, fun A outer s H args us vs Q E hr => F.run A outer s H args us vs Q E (hr.mono h)⟩
section
variable {X : Cx} {CX : CXT} {k : Nat} {f : Addr} {fd : FuncData} {ps : List Str} {sp : Sp} {E : XK} {x : Str} {p pos : Pos} {e : Expr} {es : List Expr} {t : TA}
theorem runG {pins : List (Addr × Obj)} {σ : L2.St} {H : Hp} {s : Shared} {Q : VK} {us : List Value} {vs : List V} (F : FnG X.prog X.w X.K X.mg X.base CX k f fd ps sp) (hr : Room k X.A) (hgd : X.A.guards = some []) (hb : Binds X.K fd ps [])
    (hx : Passes CX X E) (I : Inv X pins σ H s) (r : Vals vs us) (h : sp vs H Q E) : wpAny (model X.prog X.w) X.A (call (.ref f) us) (EP X pins σ Q) X.xe s := by
  have hlen : (us ++ []).length = ps.length := by rw [List.append_nil, ← r.length]; exact F.len _ _ _ _ h
  have hbind := hb s us I.kIn hlen
  rw [List.append_nil] at hbind
  have run := F.run X.A X.stack s H ⟨us, []⟩ us vs Q E hr hgd I.env0 hbind r h
  refine wpAny_call (codeAny_mono run fun res s' hq => ?_)
  match res, hq with
  | .error e, hq => exact hx pins σ H s e s' I hq
  | .ok (.ret u), hq => exact I.after hq
  | .ok .next, hq => exact hq.elim
  | .ok .brk, hq => exact hq.elim
  | .ok .cont, hq => exact hq.elim
theorem pe_callG (F : FnG X.prog X.w X.K X.mg X.base CX k f fd ps sp) (hr : Room k X.A) (hgd : X.A.guards = some []) (hg : Gl X x) (hm : X.mg x = some (.ref f)) (hk : PySem.W.keepIn X.K (.ref f) = true) (hb : Binds X.K fd ps []) (hx : Passes CX X E)
    (ha : PA X (e :: es) t) (hdb : (x == ("__debug__" : Str)) = false := by decide) (he : starEach (e :: es) X.env = (false, eval e X.env) :: starEach es X.env := by rfl) (hpl : (backTo pos (starEach es X.env)).any (·.1) = false := by rfl) :
    PE X (.Call (.Name x p) (e :: es) [] pos) (fun σ H Q => t σ H fun vs H1 => sp vs H1 Q E) := by
  refine ⟨fun pins s σ H Q I h => wpAny_Call_Name_kw (ld_glob I hg hm ?_ hdb)⟩
  refine PySem.W.callWith_K (h₀ := X.base) I.ok.mod.kin hk (thn (ha.run pos pins s σ H _ I h) fun us s1 h1 => ?_) he hpl
  obtain ⟨vs, H1, I1, r, q⟩ := h1
  exact ⟨I1.kIn, runG F hr hgd hb hx I1 r q⟩
end
/-- a def by its body -/
theorem fnG_of {CX : CXT} {P : Program} {w : World} {K : PySem.W.Frag} {mg : Str → Option Value} {base : Heap} {x qual : Str} {st : Stmt} {f : Addr} {fd : FuncData} {N ps : List Str} {k : Nat} {sp : Sp} (F : Fun K x qual st f fd) (S : FnScope N ps (defScope st))
    (len : ∀ vs H Q E, sp vs H Q E → vs.length = ps.length)
    (hbody : ∀ (cdv : Value) (A : Around) (outer : List Env) (s : Shared) (H : Hp) (vs : List V) (Q : VK) (E : XK), fd.code = cdv → Room k (A.deeper (envOfC qual (defScope st) s.heap.objs.size f cdv)) → A.guards = some [] → sp vs H Q E →
      ∃ t, PSs (cxOf CX P w K mg base N qual (defScope st) f cdv A outer s H E) (defBody st) t ∧ t { nx := fun _ H' => Q .non H', rt := Q } (L2.start N vs) H) : FnG P w K mg base CX (k + 1) f fd ps sp := by
  obtain ⟨oc, od, kV, doc, pm, an, cdv, ct, osl, rfl, lk, hcd⟩ := F.ex
  refine ⟨len, fun A outer s H args us vs Q E hr hgd e0 hb r hsp => ?_⟩
  have hl := len _ _ _ _ hsp
  have inK : K.In s.heap := e0.mod.kin.keeps fun b o e => (e0.bs b o e).1
  have lim : s.heap.NoLimit := e0.mod.nolimit.keeps fun b o e => (e0.bs b o e).1
  have slots : ∀ y ∈ ps.zip us, (defScope st).names.lookup y.1 = some .local ∨ ((defScope st).names.lookup y.1 = some .cell ∧ ((cellsFrom (s.heap.objs.size + 1) (defScope st).names []).lookup y.1).isSome = true) := by
    rintro ⟨n, v⟩ hy
    have q := S.par n (List.of_mem_zip hy).1
    exact q.elim .inl fun q => .inr ⟨q, PySem.W.cellsFrom_some _ _ _ (.inl q)⟩
  refine codeAny_call_function hr.depth (inK _ _ lk) rfl S.co S.gen rfl (PySem.W.codeRec_of inK hcd) (hb _ _ _ _ ?_)
  refine wpAny_newFunctionEnv_cells S.kind slots fun env he s1 entry => ?_
  subst he
  obtain ⟨t, ht, hq⟩ := hbody cdv A outer s H vs Q E rfl (hr.deeper _) hgd hsp
  have I : Inv (cxOf CX P w K mg base N qual (defScope st) f cdv A outer s H E) [] (L2.start N vs) H s1 := inv_start S hr.hd e0 hl r entry
  refine ⟨lim.keeps entry.toInCall.keep, codeAny_func (wpAny_mono (ht.run [] s1 _ H _ I hq) (fun fl s' hs => ?_) fun e s' hs => hs)⟩
  match fl, hs with
  | .ret u, ⟨v, _, H', J, rv, q⟩ => exact ⟨v, H', J.os, J.bare, J.base, J.hok, rv, q⟩
  | .next, ⟨_, H', J, q⟩ => exact ⟨.non, H', J.os, J.bare, J.base, J.hok, rfl, q⟩
  | .brk, ⟨_, _, _, q⟩ => exact q.elim
  | .cont, ⟨_, _, _, q⟩ => exact q.elim
/-- the code objects and tables of the defs that make lambdas -/
def tabCs (K : PySem.W.Frag) : List (Addr × Addr) := lamNames.filterMap fun x => PySem.W.tabIn K x
theorem tabs_cs {K : PySem.W.Frag} {p : Addr × Str} (h : p ∈ tabsOf K) : ∃ c, (c, p.1) ∈ tabCs K := by
  obtain ⟨x, hx, e⟩ := List.mem_filterMap.mp h
  cases q : PySem.W.tabIn K x with
  | none => rw [q] at e; cases e
  | some r =>
    rw [q] at e
    cases e
    exact ⟨r.1, List.mem_filterMap.mpr ⟨x, hx, q⟩⟩
/-- the law's call -/
theorem law_callT {P : Program} {w : World} {K : PySem.W.Frag} {mg mb : Str → Option Value} {k : Nat} {fa a : Addr} {fd : FuncData} {x : Str} {sp : Sp} {s₁ : Shared} {vs : List Value} {ns : List Int}
    (KX : K.In s₁.heap) (hns : s₁.heap.Ns mainGlobals mg) (hb : s₁.heap.Ns builtinsNs mb) (hbb : ∀ x : Str, x ≠ "__name__" → mb x = bootBuiltins x) (hlim : s₁.heap.NoLimit) (hg : s₁.gens = #[])
    (tE : ∀ p ∈ tabCs K, PySem.W.CodeHd s₁.heap p.1 p.2 ∧ s₁.heap.get? p.2 = some { cls := .none, data := .fields #[] }) (tN : ∀ p ∈ tabCs K, K.lookup p.2 = none)
    (tB : ∃ (bm : Addr) (ob : Obj), mg "__builtins__" = some (.ref bm) ∧ bm ≠ builtinsNs ∧ s₁.heap.get? bm = some ob ∧ ob.cls = .type "module" ∧ ob.dict = some builtinsNs ∧ ob.data = .plain)
    (ha : s₁.heap.get? a = some { cls := .type "list", data := .seq vs.toArray }) (hi : IntsAre vs ns) (hl : ns.length ≤ sizeLine) (hr : Room k callerA)
    (F : ∀ base : Heap, K.In base → base.Ns mainGlobals mg → (∀ p ∈ tabCs K, LamX.TabB base mg p.1 p.2) → FnG P w K mg base CX0 k fa fd [x] sp) (hbind : ∀ (s : Shared) (u : Value), BindsTo s fd ⟨[u], []⟩ [(x, u)])
    (hsp : ∀ H : Hp, (∀ p ∈ tabCs K, H p.2 = some (.tbl #[])) → SqL K H a (ns.map V.int) → sp [.ref a] H (fun v _ => v = .bl true) fun _ _ _ => False) :
    codeAny (model P w) callerA (.call (.ref fa) ⟨[.ref a], []⟩) (fun r s' => r = .ok (.ret (.bool true)) ∧ OldK s₁.heap s'.heap ∧ s'.os = s₁.os ∧ AllBare s'.gens) s₁ := by
  have rv := vals_ints hi
  have lenV := hi.length
  let obj : Obj := { cls := .type "list", data := .seq vs.toArray }
  let Ps : List Addr := (tabCs K).map (·.2)
  have tabP : ∀ b ∈ Ps, s₁.heap.get? b = some { cls := .none, data := .fields #[] } ∧ K.lookup b = none := fun b hb => by
    obtain ⟨p, hp, rfl⟩ := List.mem_map.mp hb
    exact ⟨(tE p hp).2, tN p hp⟩
  have inP : ∀ p ∈ tabCs K, p.2 ∈ Ps := fun p hp => List.mem_map.mpr ⟨p, hp, rfl⟩
  have aP : a ∉ Ps := fun h => by
    have := (tabP a h).1
    rw [ha] at this
    cases this
  -- the abstract heap: the script, unless the module itself has it, and the tables
  let H0 : Hp := fun b => if b ∈ Ps then some (.tbl #[]) else if b = a ∧ K.lookup a = none then some (.frz obj (.lst (ns.map V.int))) else none
  have h0t : ∀ b ∈ Ps, H0 b = some (.tbl #[]) := fun b hb => by show (if b ∈ Ps then _ else _) = _; rw [if_pos hb]
  have h0n : ∀ b, b ∉ Ps → H0 b = if b = a ∧ K.lookup a = none then some (.frz obj (.lst (ns.map V.int))) else none := fun b hb => by show (if b ∈ Ps then _ else _) = _; rw [if_neg hb]
  have at_a : ∀ b o, H0 b = some o → (b ∈ Ps ∧ o = .tbl #[]) ∨ (b ∉ Ps ∧ b = a ∧ K.lookup a = none ∧ o = .frz obj (.lst (ns.map V.int))) := fun b o e => by
    by_cases hb : b ∈ Ps
    · rw [h0t b hb] at e
      exact .inl ⟨hb, (Option.some.inj e).symm⟩
    · rw [h0n b hb] at e
      by_cases q : b = a ∧ K.lookup a = none
      · rw [if_pos q] at e
        exact .inr ⟨hb, q.1, q.2, (Option.some.inj e).symm⟩
      · rw [if_neg q] at e
        cases e
  have hS : SqL K H0 a (ns.map V.int) := by
    cases q : K.lookup a with
    | none => exact .inl (.inr ⟨obj, by rw [h0n a aP, if_pos ⟨rfl, q⟩]⟩)
    | some o =>
      have e := KX a o q
      rw [ha] at e
      cases e
      exact .inr ⟨_, vs.toArray, _, q, rfl, rfl, rfl, by rw [List.size_toArray, lenV]; exact hl, by simpa using rv⟩
  have hok : HOk P w H0 s₁.heap := fun b o e => by
    rcases at_a b o e with ⟨hb, rfl⟩ | ⟨_, rfl, _, rfl⟩
    · exact (tabP b hb).1
    · exact ⟨ha, by rw [List.length_map]; exact hl, vs, _, rv, ha⟩
  have free_of : ∀ {b : Addr} {o : Obj}, s₁.heap.get? b = some o → (∀ xs n, o.data ≠ .seq xs n) → o.data ≠ .fields #[] → H0 b = none := fun {b o} e d d2 => by
    cases q : H0 b with
    | none => rfl
    | some u =>
      rcases at_a b u q with ⟨hb, _⟩ | ⟨_, rfl, _, _⟩
      · rw [(tabP b hb).1] at e
        cases e
        exact absurd rfl d2
      · rw [ha] at e
        cases e
        exact absurd rfl (d _ _)
  have nsOf : ∀ {b : Addr} {m : Str → Option Value}, s₁.heap.Ns b m → (hidT s₁.heap H0).Ns b m := fun {b m} ⟨o, es, ep, e, d, r⟩ =>
    ⟨o, es, ep, hidT_get e (free_of e (fun xs n z => by rw [d] at z; cases z) (fun z => by rw [d] at z; cases z)), d, r⟩
  have inB : K.In (hidT s₁.heap H0) := fun b o e => hidT_get (KX b o e) (by
    cases q : H0 b with
    | none => rfl
    | some u =>
      rcases at_a b u q with ⟨hb, _⟩ | ⟨_, rfl, q2, _⟩
      · rw [(tabP b hb).2] at e; cases e
      · rw [q2] at e; cases e)
  have hM : Mod K mg (hidT s₁.heap H0) := ⟨inB, nsOf hns, ⟨mb, nsOf hb, hbb⟩, let ⟨mc, h1, h2⟩ := hlim; ⟨mc, nsOf h1, h2⟩⟩
  have hTB : ∀ p ∈ tabCs K, LamX.TabB (hidT s₁.heap H0) mg p.1 p.2 := fun p hp => by
    have hPp := (tE p hp).2
    constructor
    · obtain ⟨o, us, f1, f2, f3, f4, f5, f6, f7, g1, g2, g3, g4, gr⟩ := (tE p hp).1
      have : H0 p.1 = none := free_of g1 (fun xs n z => by rw [g3] at z; cases z) fun z => by
        rw [g3] at z
        cases z
        simp at g4
      exact ⟨o, us, f1, f2, f3, f4, f5, f6, f7, hidT_get g1 this, g2, g3, g4, gr⟩
    · obtain ⟨bm, ob, b1, b2, b3, b4, b5, b6⟩ := tB
      have n1 : bm ≠ mainGlobals := fun q => by
        obtain ⟨o, es, ep, e, d, _⟩ := hns
        rw [q, e] at b3
        cases b3
        rw [d] at b6; cases b6
      have n2 : bm ≠ p.2 := fun q => by
        rw [q, hPp] at b3
        cases b3; cases b6
      have : H0 bm = none := free_of b3 (fun xs n z => by rw [b6] at z; cases z) fun z => by rw [b6] at z; cases z
      exact ⟨bm, ob, b1, b2, n1, n2, hidT_get b3 this, b4, b5, b6⟩
    · intro q
      obtain ⟨o, es, ep, e, d, _⟩ := hns
      rw [q, hPp] at e
      cases e; cases d
  have e0 : Env0 P w K mg (hidT s₁.heap H0) callerA [] s₁ H0 := ⟨rfl, hM, fun b o e => of_hidT e, Nat.le_of_eq (hidT_size _ _), trivial, fun b hb => absurd (show b ∈ ([] : List Addr) from hb) (by simp), hok, .of_eq hg⟩
  refine codeAny_mono ((F _ inB (nsOf hns) hTB).run callerA [] s₁ H0 ⟨[.ref a], []⟩ [.ref a] [.ref a] _ _ hr rfl e0 (hbind s₁ (.ref a)) (.cons rfl .nil) (hsp H0 (fun p hp => h0t _ (inP p hp)) hS)) fun r s' h => ?_
  match r, h with
  | .error e, h => exact h.elim
  | .ok .next, h => exact h.elim
  | .ok .brk, h => exact h.elim
  | .ok .cont, h => exact h.elim
  | .ok (.ret u), h =>
    obtain ⟨v, H', os, bare, un, hok', r', q⟩ := h
    subst q
    obtain rfl : u = Value.bool true := r'
    have stay : ∀ b o, b ∉ Ps → s₁.heap.get? b = some o → s'.heap.get? b = some o := fun b o nb e => by
      cases q : H0 b with
      | none => exact un.keep b o e q (by intro z; exact absurd (show b ∈ ([] : List Addr) from z) (by simp)) (by simp)
      | some u =>
        rcases at_a b u q with ⟨hb, _⟩ | ⟨_, rfl, _, rfl⟩
        · exact absurd hb nb
        · have e2 := hok' _ _ (un.frzs _ obj _ q)
          rw [ha] at e
          cases e
          exact e2.1
    have grew : ∀ p ∈ tabCs K, ∃ more : Array Value, s'.heap.get? p.2 = some { cls := .none, data := .fields more } := fun p hp => by
      obtain ⟨more, z⟩ := un.tbls p.2 #[] (h0t _ (inP p hp))
      exact ⟨_, hok' _ _ z⟩
    refine ⟨rfl, ⟨fun b o e => ?_, fun b o e => ?_⟩, os, bare⟩
    all_goals by_cases hm : b ∈ Ps
    · obtain ⟨p, hp, rfl⟩ := List.mem_map.mp hm
      obtain ⟨more, z⟩ := grew p hp
      rw [(tE p hp).2] at e
      cases e
      refine .inr (.inl ⟨((tE p hp).1.tab (tE p hp).2).isCodeTable, rfl, #[], more, rfl, ?_⟩)
      rw [Array.empty_append]
      exact z
    · exact .inl (stay b o hm e)
    · obtain ⟨p, hp, rfl⟩ := List.mem_map.mp hm
      obtain ⟨more, z⟩ := grew p hp
      exact ⟨_, z⟩
    · exact ⟨o, stay b o hm e⟩
end DL
namespace DL
open PySem PySem.Spec PyProof.Rows L2
def tabsW (g : Addr → Option Obj) (K : PySem.W.Frag) : Bool := (tabCs K).all fun p => PySem.W.codeHdIn K p.1 p.2 && (match g p.2 with
  | some o => He.emptyTab o
  | none => false)
def wOf (fn : List He.DefD) (ex : PySem.W.Frag → Bool) (g : Addr → Option Obj) (K : PySem.W.Frag) : He.AlD := ((fn.all fun d => d.ok K) && (ex K && tabsW g K), fn.map fun d => He.fnW K d.at_)
/-- the objects looked at: the module's, the classes' namespaces and methods, the defs' code -/
def refE (o : Obj) : List Addr := match o.data with
  | .dict es _ => es.toList.flatMap fun e => He.refV e.val
  | _ => []
def refC (o : Obj) : List Addr := match o.data with
  | .func fd => He.refV fd.code
  | .cls cd => [cd.ns]
  | _ => []
def lev (f : Obj → List Addr) (g : Addr → Option Obj) (as : List Addr) : List Addr := as.flatMap fun a => match g a with
  | some o => f o
  | none => []
def asW3 (g : Addr → Option Obj) (l1 l2 l3 : List Addr) : List Addr := mainGlobals :: (l1 ++ (l2 ++ (l3 ++ lev refC g l3)))
def asW2 (g : Addr → Option Obj) (l1 l2 : List Addr) : List Addr := asW3 g l1 l2 (lev refE g l2)
def asW1 (g : Addr → Option Obj) (l1 : List Addr) : List Addr := asW2 g l1 (lev refC g l1)
def asW (g : Addr → Option Obj) : List Addr := asW1 g (lev refE g [mainGlobals])
def obsW (fn : List He.DefD) (ex : PySem.W.Frag → Bool) (g : Addr → Option Obj) : He.AlD := wOf fn ex g (He.frT g (asW g))
structure SaysW (fn : List He.DefD) (ex : PySem.W.Frag → Bool) (h : Heap) (K : PySem.W.Frag) : Prop where
  d : He.SaysD [] fn K
  ex : ex K = true
  tabs : ∀ p ∈ tabCs K, (PySem.W.codeHdIn K p.1 p.2 = true ∧ h.get? p.2 = some { cls := .none, data := .fields #[] }) ∧ K.lookup p.2 = none
theorem saysW_of {fn : List He.DefD} {ex : PySem.W.Frag → Bool} {h : Heap} (e : obsW fn ex h.get? = He.valD fn) : SaysW fn ex h (He.frT h.get? (asW h.get?)) := by
  have e1 : ((fn.all fun d => d.ok (He.frT h.get? (asW h.get?))) && (ex (He.frT h.get? (asW h.get?)) && tabsW h.get? (He.frT h.get? (asW h.get?)))) = true := congrArg (fun z : He.AlD => z.1) e
  have e2 : fn.map (fun d => He.fnW (He.frT h.get? (asW h.get?)) d.at_) = fn.map He.DefD.val := congrArg (fun z : He.AlD => z.2) e
  obtain ⟨h1, h2⟩ := He.ba e1
  obtain ⟨h3, h4⟩ := He.ba h2
  refine ⟨?_, h3, fun p hp => ?_⟩
  · show ((([] : List He.Fa).all fun f => f.ok _) && fn.all fun d => d.ok _, fn.map fun d => He.fnW _ d.at_) = (true, fn.map He.DefD.val)
    rw [e2, h1]
    rfl
  · obtain ⟨h5, h6⟩ := He.ba (List.all_eq_true.mp h4 p hp)
    cases q : h.get? p.2 with
    | none => rw [q] at h6; cases h6
    | some o =>
      rw [q] at h6
      exact ⟨⟨h5, by rw [He.emptyTab_eq h6]⟩, He.frT_none q h6⟩
def hookW (fn : List He.DefD) (ex : PySem.W.Frag → Bool) : PySem.W.Hook where
  α := He.AlD
  obs := fun s => obsW fn ex s.heap.get?
  val := fun _ => He.valD fn
  says := fun _ h => ∃ K : PySem.W.Frag, K.In h ∧ SaysW fn ex h K
  of := fun _ _ e => ⟨_, He.frT_in, saysW_of e⟩
  keeps := fun _ _ _ ⟨K, hK, c⟩ k => ⟨K, PySem.W.Frag.In.keeps hK k, ⟨c.d, c.ex, fun p hp => ⟨⟨(c.tabs p hp).1.1, k _ _ (c.tabs p hp).1.2⟩, (c.tabs p hp).2⟩⟩⟩
theorem obsW_eq {fn : List He.DefD} {ex : PySem.W.Frag → Bool} {g : Addr → Option Obj} {s : Shared} (h : ∀ a, g a = s.heap.get? a) : obsW fn ex g = (hookW fn ex).obs s := by
  have e : g = s.heap.get? := funext h
  rw [e] <;> rfl
section
variable {fn : List He.DefD} {K : PySem.W.Frag} {h : Heap}
/-- a def's object -/
theorem def_at {fa : List He.Fa} (c : He.SaysD fa fn K) (i : Nat) {d : He.DefD} (hi : fn[i]? = some d) (e1 : d.dfl = []) : ∃ (oc : Value) (od an : Option Addr) (sl : Array (Option Value)) (kV dc pm cd ct : Value),
    K.lookup (He.fAd K d.at_) = some ⟨oc, od, .func (PySem.W.fnOf d.name d.qual d.params d.body d.scope .none kV dc pm an cd ct), sl⟩ ∧ PySem.W.codeIn K cd d.qual = true ∧ PySem.W.keepIn K (.ref (He.fAd K d.at_)) = true := by
  obtain ⟨fd, F⟩ := c.def_ i hi
  obtain ⟨⟨oc, od, dV, kV, doc, pm, an, cdv, ct, osl, rfl, lk, hc, hd, _⟩, kp⟩ := F
  have hdv : d.dvs K = [] := by unfold He.DefD.dvs; rw [e1]; rfl
  rw [hdv] at hd
  rcases hd with ⟨_, rfl⟩ | ⟨z, _⟩
  · exact ⟨_, _, _, _, _, _, _, _, _, lk, hc, kp⟩
  · exact absurd rfl z
def tupEB (K : PySem.W.Frag) (a : Addr) (vs : List V) : Bool := match K.lookup a with
  | some ⟨.type c, none, .seq its _, _⟩ => decide (c = "tuple") && He.relAll vs its.toList
  | _ => false
theorem tupEB_ok {a : Addr} {vs : List V} (q : tupEB K a vs = true) : ∃ (its : List Value) (n : Nat) (sl : Array (Option Value)), K.lookup a = some ⟨.type "tuple", none, .seq its.toArray n, sl⟩ ∧ Vals vs its := by
  unfold tupEB at q
  split at q
  · rename_i c its n sl hh
    obtain ⟨q1, q2⟩ := He.ba q
    have e := of_decide_eq_true q1
    subst e
    exact ⟨its.toList, n, sl, by rw [hh], He.relAll_ok q2⟩
  · cases q
theorem vals_cons {x : V} {xs : List V} {us : List Value} (v : Vals (x :: xs) us) : ∃ u us', us = u :: us' ∧ RelV x u ∧ Vals xs us' := by
  cases v with
  | cons a b => exact ⟨_, _, rfl, a, b⟩
theorem vals_nil {us : List Value} (v : Vals [] us) : us = [] := by cases v; rfl
theorem exs_at {exs : List (PySem.W.Frag → Bool)} (c : (exs.all fun f => f K) = true) (i : Nat) {f : PySem.W.Frag → Bool} (h : exs[i]? = some f) : f K = true := List.all_eq_true.mp c f (List.mem_of_getElem? h)
theorem walk_TE {l : PySem.W.OpenLaw} {n k : Nat} {q : Program} {loose : List Str} {XP : (Str → Option Value) → Heap → Prop} {YP : World → Heap → Prop} {d : DefRec} {sp : PySem.W.Frag → Sp} {x : Str}
    (hn : l.most = some n) (hn2 : n ≤ sizeLine) (hdf : d.params.defaults = []) (hr : Room k callerA)
    (F : ∀ (w : World) (mg : Str → Option Value) (fa : Addr) (h : Heap), YP w h → h.Ns mainGlobals mg → mg d.name = some (.ref fa) →
      ∃ K : PySem.W.Frag, K.In h ∧ (∀ p ∈ tabCs K, (PySem.W.CodeHd h p.1 p.2 ∧ h.get? p.2 = some { cls := .none, data := .fields #[] }) ∧ K.lookup p.2 = none) ∧
        ∃ fd : FuncData, (∀ (s : Shared) (u : Value), BindsTo s fd ⟨[u], []⟩ [(x, u)]) ∧ ∀ base : Heap, K.In base → base.Ns mainGlobals mg → (∀ p ∈ tabCs K, LamX.TabB base mg p.1 p.2) → FnG l.prog w K mg base CX0 k fa fd [x] (sp K))
    (hsp : ∀ (K : PySem.W.Frag) (H : Hp) (a : Addr) (ns : List Int), ns.length ≤ n → (∀ p ∈ tabCs K, H p.2 = some (.tbl #[])) → SqL K H a (ns.map V.int) → sp K [.ref a] H (fun v _ => v = .bl true) fun _ _ _ => False) :
    PySem.W.WalkO q loose XP YP l.row.toRowW d [] (fun f vs => PySem.call f vs) := by
  refine Att.attach_call hn hdf fun w s₀ s₁ mg mb fa o pm cd doc a vs ns G Y ho hd hcd hmg hobj hints hlen hg => ?_
  obtain ⟨K, KX, both, fd, hb, hF⟩ := F w mg fa _ Y G.T.g hmg
  exact law_callT KX G.T.g G.T.b G.T.builtins G.T.nolimit hg (fun p hp => (both p hp).1) (fun p hp => (both p hp).2) G.T.bmain hobj hints (Nat.le_trans hlen hn2) hr hF hb fun H h1 hS => hsp K H a ns hlen h1 hS
theorem tabs_ok {ex : PySem.W.Frag → Bool} (X : K.In h) (c : SaysW fn ex h K) : ∀ p ∈ tabCs K, (PySem.W.CodeHd h p.1 p.2 ∧ h.get? p.2 = some { cls := .none, data := .fields #[] }) ∧ K.lookup p.2 = none := fun p hp =>
  ⟨⟨PySem.W.codeHd_of_K X (c.tabs p hp).1.1, (c.tabs p hp).1.2⟩, (c.tabs p hp).2⟩
end
end DL
namespace DL.M
open PySem PySem.Spec PyProof.Rows L2
def topS (i : Nat) : Stmt := PySem.Challenge.pw_workwishes_k80_texts_told.main.body.getD i (.Pass ⟨0, 0, 0, 0⟩)
abbrev s_p_line_of : Stmt := topS 2
abbrev s_f_law_deck : Stmt := topS 5
abbrev s_f_law_next : Stmt := topS 6
abbrev s_f_law_same : Stmt := topS 7
abbrev s_f_law_text : Stmt := topS 14
abbrev s_p_told : Stmt := topS 3
abbrev s_f_law_rows_of : Stmt := topS 8
abbrev s_f_law_wish : Stmt := topS 10
abbrev s_f_law_days : Stmt := topS 13
abbrev s_f_law_work : Stmt := topS 9
abbrev s_f_law_little : Stmt := topS 12
abbrev s_f_law_greatest : Stmt := topS 15
abbrev s_f_law_system : Stmt := topS 11
abbrev s_p_law : Stmt := topS 16
end DL.M
namespace DL
open PySem PySem.Spec PyProof.Rows L2
namespace HeadF
open PySem PySem.Spec PyProof.Rows L2
def d_p_line_of : He.DefD := ⟨("line_of", none), "line_of", "line_of", defArgs (DL.M.s_p_line_of), defBody (DL.M.s_p_line_of), defScope (DL.M.s_p_line_of), [], []⟩
def d_f_law_deck : He.DefD := ⟨("_law_deck", none), "_law_deck", "_law_deck", defArgs (DL.M.s_f_law_deck), defBody (DL.M.s_f_law_deck), defScope (DL.M.s_f_law_deck), [], []⟩
def d_f_law_next : He.DefD := ⟨("_law_next", none), "_law_next", "_law_next", defArgs (DL.M.s_f_law_next), defBody (DL.M.s_f_law_next), defScope (DL.M.s_f_law_next), [], []⟩
def d_f_law_same : He.DefD := ⟨("_law_same", none), "_law_same", "_law_same", defArgs (DL.M.s_f_law_same), defBody (DL.M.s_f_law_same), defScope (DL.M.s_f_law_same), [], []⟩
def d_f_law_text : He.DefD := ⟨("_law_text", none), "_law_text", "_law_text", defArgs (DL.M.s_f_law_text), defBody (DL.M.s_f_law_text), defScope (DL.M.s_f_law_text), [], []⟩
def d_p_told : He.DefD := ⟨("told", none), "told", "told", defArgs (DL.M.s_p_told), defBody (DL.M.s_p_told), defScope (DL.M.s_p_told), [], []⟩
def d_f_law_rows_of : He.DefD := ⟨("_law_rows_of", none), "_law_rows_of", "_law_rows_of", defArgs (DL.M.s_f_law_rows_of), defBody (DL.M.s_f_law_rows_of), defScope (DL.M.s_f_law_rows_of), [], []⟩
def d_f_law_wish : He.DefD := ⟨("_law_wish", none), "_law_wish", "_law_wish", defArgs (DL.M.s_f_law_wish), defBody (DL.M.s_f_law_wish), defScope (DL.M.s_f_law_wish), [], []⟩
def d_f_law_days : He.DefD := ⟨("_law_days", none), "_law_days", "_law_days", defArgs (DL.M.s_f_law_days), defBody (DL.M.s_f_law_days), defScope (DL.M.s_f_law_days), [], []⟩
def d_f_law_work : He.DefD := ⟨("_law_work", none), "_law_work", "_law_work", defArgs (DL.M.s_f_law_work), defBody (DL.M.s_f_law_work), defScope (DL.M.s_f_law_work), [], []⟩
def d_f_law_little : He.DefD := ⟨("_law_little", none), "_law_little", "_law_little", defArgs (DL.M.s_f_law_little), defBody (DL.M.s_f_law_little), defScope (DL.M.s_f_law_little), [], []⟩
def d_f_law_greatest : He.DefD := ⟨("_law_greatest", none), "_law_greatest", "_law_greatest", defArgs (DL.M.s_f_law_greatest), defBody (DL.M.s_f_law_greatest), defScope (DL.M.s_f_law_greatest), [], []⟩
def d_f_law_system : He.DefD := ⟨("_law_system", none), "_law_system", "_law_system", defArgs (DL.M.s_f_law_system), defBody (DL.M.s_f_law_system), defScope (DL.M.s_f_law_system), [], []⟩
def d_p_law : He.DefD := ⟨("law", none), "law", "law", defArgs (DL.M.s_p_law), defBody (DL.M.s_p_law), defScope (DL.M.s_p_law), [], []⟩
def dfs_0 : List (He.DefD) := [d_p_line_of, d_f_law_deck, d_f_law_next, d_f_law_same, d_f_law_text, d_p_told, d_f_law_rows_of, d_f_law_wish, d_f_law_days, d_f_law_work, d_f_law_little, d_f_law_greatest, d_f_law_system, d_p_law]
def dfs : List (He.DefD) := dfs_0
def loose_0 : List (PySem.Str) := ["SORTS", "line_of", "told", "_law_deck", "_law_next", "_law_same", "_law_rows_of", "_law_work", "_law_wish", "_law_system", "_law_little", "_law_days", "_law_text", "_law_greatest"]
def loose : List (PySem.Str) := loose_0
def exs_0 : List (PySem.W.Frag → Bool) := [fun K => decide (PySem.W.nsIn K mainGlobals "line_of" = some (some (.ref (He.fAd K d_p_line_of.at_)))), fun K => decide (PySem.W.nsIn K mainGlobals "_law_deck" = some (some (.ref (He.fAd K d_f_law_deck.at_)))), fun K => decide (PySem.W.nsIn K mainGlobals "_law_next" = some (some (.ref (He.fAd K d_f_law_next.at_)))), fun K => decide (PySem.W.nsIn K mainGlobals "_law_same" = some (some (.ref (He.fAd K d_f_law_same.at_)))), fun K => decide (PySem.W.nsIn K mainGlobals "_law_text" = some (some (.ref (He.fAd K d_f_law_text.at_)))), fun K => decide (PySem.W.nsIn K mainGlobals "told" = some (some (.ref (He.fAd K d_p_told.at_)))), fun K => decide (PySem.W.nsIn K mainGlobals "_law_rows_of" = some (some (.ref (He.fAd K d_f_law_rows_of.at_)))), fun K => decide (PySem.W.nsIn K mainGlobals "_law_wish" = some (some (.ref (He.fAd K d_f_law_wish.at_)))), fun K => decide (PySem.W.nsIn K mainGlobals "_law_days" = some (some (.ref (He.fAd K d_f_law_days.at_)))), fun K => decide (PySem.W.nsIn K mainGlobals "_law_work" = some (some (.ref (He.fAd K d_f_law_work.at_)))), fun K => decide (PySem.W.nsIn K mainGlobals "_law_little" = some (some (.ref (He.fAd K d_f_law_little.at_)))), fun K => decide (PySem.W.nsIn K mainGlobals "_law_greatest" = some (some (.ref (He.fAd K d_f_law_greatest.at_)))), fun K => decide (PySem.W.nsIn K mainGlobals "_law_system" = some (some (.ref (He.fAd K d_f_law_system.at_)))), fun K => decide (PySem.W.nsIn K mainGlobals "law" = some (some (.ref (He.fAd K d_p_law.at_)))), fun K => decide (PySem.W.nsIn K mainGlobals "abs" = some none), fun K => decide (PySem.W.nsIn K mainGlobals "int" = some none), fun K => decide (PySem.W.nsIn K mainGlobals "len" = some none), fun K => decide (PySem.W.nsIn K mainGlobals "list" = some none), fun K => decide (PySem.W.nsIn K mainGlobals "min" = some none), fun K => decide (PySem.W.nsIn K mainGlobals "range" = some none), fun K => decide (PySem.W.nsIn K mainGlobals "repr" = some none), fun K => decide (PySem.W.nsIn K mainGlobals "str" = some none), fun K => decide (PySem.W.nsIn K mainGlobals "tuple" = some none), fun K => decide (PySem.W.nsIn K mainGlobals "SORTS" = some (some (.ref (He.ga K "SORTS")))), fun K => tupEB K (He.ga K "SORTS") [V.str "from", V.str "by"]]
def exs : List (PySem.W.Frag → Bool) := exs_0
abbrev R : PySem.W.OpenRow := PySem.W.OpenLaw.row PySem.Challenge.rw_workwishes_k80_texts_told
abbrev hk : PySem.W.Hook := hookW dfs (fun K => exs.all fun f => f K)
def ob (s : PySem.W.SharedT) : He.AlD := obsW dfs (fun K => exs.all fun f => f K) (HandSHeadRun.getT s)
theorem ob_eq (s : PySem.W.SharedT) : ob s = hk.obs s.abs := obsW_eq (HandSHeadRun.getT_eq s)
theorem run (w : World) : HandSHeadRun.RunEq R (PySem.W.view R.prog [16]) hk ob 40000 loose w := by
  intro os
  kernel_rfl
end HeadF
end DL
namespace DL
open PySem PySem.Spec PyProof.Rows L2
variable [Bs]
structure Spec where
  n : Nat
  G : Type
  args : G → List D
  pre : G → Sto → Prop
  post : G → Sto → D → Sto → Prop
def spOf (K : PySem.W.Frag) (S : Spec) : Sp := fun vs H Q _ => ∃ g io F st, (S.args g).length = S.n ∧ RelH K H io F st ∧ DenL K io F vs (S.args g) ∧ S.pre g st ∧ ∀ d st', S.post g st d st' → kE K H io F Q d st'
def wCall (S : Spec) (wa : DA) : DE := fun env st Q => wa env st fun ds s1 => ∃ g, ds = S.args g ∧ (S.args g).length = S.n ∧ S.pre g s1 ∧ ∀ d s2, S.post g s1 d s2 → Q d s2
section
variable {X : Cx} {pos p : Pos} {e : Expr} {es : List Expr} {wa : DA} {k : Nat} {f : Addr} {fd : FuncData} {ps : List Str} {x : Str}
theorem moCall {S : Spec} {wa : DA} (m : MoA wa) : MoE (wCall S wa) := fun _ _ _ _ i q => m _ _ _ _ (fun _ _ ⟨g, e, z, p, q⟩ => ⟨g, e, z, p, fun d s h => i _ _ (q d s h)⟩) q
theorem we_call {S : Spec} (F : FnG X.prog X.w X.K X.mg X.base CX0 k f fd ps (spOf X.K S)) (hr : Room k X.A) (hgd : X.A.guards = some []) (hg : Gl X x) (hm : X.mg x = some (.ref f)) (hk : PySem.W.keepIn X.K (.ref f) = true) (hb : Binds X.K fd ps [])
    (ha : WA X (e :: es) wa) (hdb : (x == ("__debug__" : Str)) = false := by decide) (he : starEach (e :: es) X.env = (false, eval e X.env) :: starEach es X.env := by rfl) (hpl : (backTo pos (starEach es X.env)).any (·.1) = false := by rfl) :
    WE X (.Call (.Name x p) (e :: es) [] pos) (wCall S wa) := by
  refine ⟨moCall ha.mo, PE_imp (pe_callG F hr hgd hg hm hk hb pass0 ha.pe hdb he hpl) fun σ H Q ⟨env, io, F, st, R, q⟩ => ?_⟩
  refine tA_use ha.mo R q fun ds s1 vs io1 F1 H1 ⟨g, eg, z, p1, q1⟩ t1 R1 n1 => ?_
  subst eg
  exact ⟨g, io1, F1, s1, z, R1.toRelH, n1, p1, fun d s2 h => kE_later t1 (q1 d s2 h)⟩
abbrev RLD := List D → Sto → DK → Prop
structure RzL (K : PySem.W.Frag) (r : List V → Hp → VK → Prop) (f : RLD) : Prop where
  mo : ∀ ds s Q Q', (∀ d s, Q d s → Q' d s) → f ds s Q → f ds s Q'
  on : ∀ {H io F st vs ds Q}, RelH K H io F st → DenL K io F vs ds → f ds st (kE K H io F Q) → r vs H Q
def wCB (f : RLD) (wa : DA) : DE := fun env st Q => wa env st fun ds s1 => f ds s1 Q
theorem we_callX {r : List V → Hp → VK → Prop} {f : RLD} (z : RzL X.K r f) {e0 : Expr} (pe : ∀ {t : TA}, PA X es t → PE X e0 (tCB r t)) (ha : WA X es wa) : WE X e0 (wCB f wa) := by
  refine ⟨fun _ _ _ _ i q => ha.mo _ _ _ _ (fun _ _ q => z.mo _ _ _ _ i q) q, PE_imp (pe ha.pe) fun σ H Q ⟨env, io, F, st, R, q⟩ => ?_⟩
  refine tA_use ha.mo R q fun ds s1 vs io1 F1 H1 q1 t1 R1 n1 => ?_
  exact z.on R1.toRelH n1 (z.mo _ _ _ _ (fun _ _ => kE_later t1) q1)
end
section
variable {X : Cx} {pos pos' : Pos} {e : Expr} {we : DE} {ss rest : Stmt} {sts : List Stmt} {ws wr : DS}
theorem wb_nil : WB X [] (fun D env st => D.nx env st) := ⟨fun _ _ _ _ l q => l.nx _ _ q, PSs_imp pss_nil fun D σ H ⟨env, io, F, st, R, q⟩ => q σ io F H Stp.refl R⟩
def wSeq (a b : DS) : DS := fun D env st => a { D with nx := fun e s => b D e s } env st
theorem kD_seq {K : PySem.W.Frag} {H : Hp} {io : List Addr} {F : Hp} {D : Ends} {b : DS} (mb : MoS b) : DEnds.le { kD K H io F D with nx := fun e s => b (kD K H io F D) e s } (kD K H io F { D with nx := tS K b D }) :=
  ⟨fun e s h σ' io' F' H' t R => ⟨e, io', F', s, R, mb _ _ _ _ (kD_later t) h⟩, fun _ _ h => h, fun _ _ h => h, fun _ _ h => h⟩
theorem wb_cons (h1 : WS X ss ws) (h2 : WB X sts wr) : WB X (ss :: sts) (wSeq ws wr) := by
  refine ⟨fun A B e s l q => h1.mo { A with nx := fun e s => wr A e s } _ _ _ ⟨fun e s q => h2.mo A B _ _ l q, l.rt, l.bk, l.ct⟩ q, PSs_imp (pss_cons h1.pe h2.pe) fun D σ H ⟨env, io, F, st, R, q⟩ => ?_⟩
  exact ⟨env, io, F, st, R, h1.mo _ _ _ _ (kD_seq h2.mo) q⟩
theorem wb_one (h1 : WS X ss ws) : WB X [ss] ws := ⟨h1.mo, pss_one h1.pe⟩
def wDrop (we : DE) : DS := fun D env st => we env st fun _ s => D.nx env s
theorem ws_expr (he : WE X e we) (hs : swapsWith e none pos.line X.env = pure false := by rfl) : WS X (.Expr e pos) (wDrop we) := by
  refine ⟨fun _ _ _ _ l q => he.mo _ _ _ _ (fun _ _ q => l.nx _ _ q) q, PS_imp (ps_expr he.pe hs) fun D σ H ⟨env, io, F, st, R, q⟩ => ?_⟩
  exact tE_use he.mo R q fun d s1 v io1 F1 H1 q1 t1 R1 n1 => q1 σ _ _ _ t1 R1
def wRet (we : DE) : DS := fun D env st => we env st D.rt
theorem ws_ret (he : WE X e we) : WS X (.Return (some e) pos) (wRet we) := by
  refine ⟨fun _ _ _ _ l q => he.mo _ _ _ _ (fun _ _ q => l.rt _ _ q) q, PS_imp (ps_ret he.pe) fun D σ H ⟨env, io, F, st, R, q⟩ => ?_⟩
  exact tE_use he.mo R q fun d s1 v io1 F1 H1 q1 t1 R1 n1 => kE_at q1 t1 R1.toRelH n1
def wIf (c : DT) (a b : DS) : DS := fun D env st => c env st fun k s => if k = true then a D env s else b D env s
theorem ws_if {c : Expr} {a b : List Stmt} {wc : DT} {wa wb : DS} (hc : WT X c wc) (ha : WB X a wa) (hb : WB X b wb) : WS X (.If c a b pos) (wIf wc wa wb) := by
  refine ⟨fun _ _ _ _ l q => hc.mo _ _ _ _ (fun k _ q => by
    cases k with
    | true => exact ha.mo _ _ _ _ l q
    | false => exact hb.mo _ _ _ _ l q) q, PS_imp (ps_if hc.pe ha.pe hb.pe) fun D σ H ⟨env, io, F, st, R, q⟩ => ?_⟩
  refine tT_use hc.mo R q fun k s1 io1 F1 H1 q1 t1 R1 => ?_
  cases k with
  | true => exact ⟨env, io1, F1, s1, R1, ha.mo _ _ _ _ (kD_later t1) q1⟩
  | false => exact ⟨env, io1, F1, s1, R1, hb.mo _ _ _ _ (kD_later t1) q1⟩
abbrev DG := D → En → Sto → (En → Sto → Prop) → Prop
def MoG (g : DG) : Prop := ∀ d e s (Q Q' : En → Sto → Prop), (∀ e s, Q e s → Q' e s) → g d e s Q → g d e s Q'
def tG (K : PySem.W.Frag) (g : DG) : TG := fun v σ H Q => ∃ d env io F st, Rel K σ H env io F st ∧ Den K io F v d ∧ g d env st (kN K H io F Q)
structure WG (X : Cx) (e : Expr) (g : DG) : Prop where
  mo : MoG g
  pe : PG X e (tG X.K g)
abbrev DGs := List D → En → Sto → (En → Sto → Prop) → Prop
def MoGs (g : DGs) : Prop := ∀ d e s (Q Q' : En → Sto → Prop), (∀ e s, Q e s → Q' e s) → g d e s Q → g d e s Q'
def tGs (K : PySem.W.Frag) (g : DGs) : TGs := fun vs σ H Q => ∃ ds env io F st, Rel K σ H env io F st ∧ DenL K io F vs ds ∧ g ds env st (kN K H io F Q)
structure WGs (X : Cx) (es : List Expr) (g : DGs) : Prop where
  mo : MoGs g
  pe : PGs X es (tGs X.K g)
theorem PG_imp {t t' : TG} (h : PG X e t) (i : ∀ v σ H Q, t' v σ H Q → t v σ H Q) : PG X e t' := ⟨fun p s σ H v u Q I r q => h.run p s σ H v u Q I r (i v σ H Q q)⟩
theorem PGs_imp {es : List Expr} {t t' : TGs} (h : PGs X es t) (i : ∀ v σ H Q, t' v σ H Q → t v σ H Q) : PGs X es t' := ⟨fun p s σ H v u Q I r q => h.run p s σ H v u Q I r (i v σ H Q q)⟩
theorem Rel.set {K : PySem.W.Frag} {σ : L2.St} {H : Hp} {env : En} {io : List Addr} {F : Hp} {st : Sto} {i : Nat} {v : V} {d : D} (R : Rel K σ H env io F st) (n : Den K io F v d) : Rel K (σ.set i (some v)) H (env.set i (some d)) io F st :=
  { R.toRelH with
    bs := R.bs
    sl := by rw [List.length_set, List.length_set]; exact R.sl
    slot := fun j d' e => by
      by_cases hj : i = j
      · subst hj
        by_cases hl : i < env.length
        · rw [List.getElem?_set_self hl] at e
          cases e
          exact ⟨v, List.getElem?_set_self (by rw [R.sl]; exact hl), n⟩
        · rw [List.getElem?_eq_none (by rw [List.length_set]; omega)] at e
          cases e
      · rw [List.getElem?_set_ne hj] at e ⊢
        exact R.slot j d' e }
def gNm (i : Nat) : DG := fun d env st Q => Q (env.set i (some d)) st
theorem wg_name {i : Nat} {x : Str} (hN : X.N.Nodup) (hi : X.N[i]? = some x) (hx : Loc X.env.scope x) (hf : X.fn x = true ∨ X.env.scope.names.lookup x = some .local := by first | exact .inl rfl | exact .inr rfl | assumption) : WG X (.Name x pos) (gNm i) :=
  ⟨fun _ _ _ _ _ h q => h _ _ q, PG_imp (pg_name hN hi hx hf) fun v σ H Q ⟨d, env, io, F, st, R, n, q⟩ => q _ _ _ _ Stp.refl (R.set n)⟩
def gNl : DGs := fun ds env st Q => ds = [] ∧ Q env st
def gCn (g : DG) (r : DGs) : DGs := fun ds env st Q => ∃ d ds', ds = d :: ds' ∧ g d env st fun e s => r ds' e s Q
theorem wgs_nil : WGs X [] gNl := ⟨fun _ _ _ _ _ h ⟨a, q⟩ => ⟨a, h _ _ q⟩, PGs_imp pgs_nil fun v σ H Q ⟨d, env, io, F, st, R, n, e, q⟩ => by
  subst e
  cases n
  exact ⟨rfl, q _ _ _ _ Stp.refl R⟩⟩
theorem wgs_cons {es : List Expr} {g : DG} {r : DGs} (h1 : WG X e g) (h2 : WGs X es r) (hs : (assignEach (e :: es) X.env).map (·.2) = assign e X.env :: (assignEach es X.env).map (·.2) := by rfl) : WGs X (e :: es) (gCn g r) := by
  refine ⟨fun _ _ _ _ _ h ⟨d, ds', e, q⟩ => ⟨d, ds', e, h1.mo _ _ _ _ _ (fun _ _ q => h2.mo _ _ _ _ _ h q) q⟩, PGs_imp (pgs_cons h1.pe h2.pe hs) fun v σ H Q ⟨ds, env, io, F, st, R, n, q⟩ => ?_⟩
  obtain ⟨d, ds', e, q⟩ := q
  subst e
  cases n with
  | cons n1 n2 =>
    refine ⟨_, _, rfl, d, env, io, F, st, R, n1, h1.mo _ _ _ _ _ (fun e1 s1 q1 => ?_) q⟩
    intro σ' io' F' H' t R'
    exact ⟨ds', e1, io', F', s1, R', t.denL n2, h2.mo _ _ _ _ _ (fun e2 s2 q2 => kN_later t q2) q1⟩
def gTp (n : Nat) (g : DGs) : DG := fun d env st Q => ∃ ds, d = .tup ds ∧ ds.length = n ∧ g ds env st Q
theorem wg_tup {es : List Expr} {k n : Nat} {g : DGs} (hc : X.calm = true) (h : WGs X es g) (hn : (assignEach es X.env).length = n := by rfl) (hst : (assignEach es X.env).findIdx? (·.1) = none := by rfl) : WG X (.Tuple es k pos) (gTp n g) := by
  refine ⟨fun _ _ _ _ _ i ⟨ds, e, z, q⟩ => ⟨ds, e, z, h.mo _ _ _ _ _ i q⟩, PG_imp (pg_tup hc h.pe hn hst) fun v σ H Q ⟨d, env, io, F, st, R, n1, q⟩ => ?_⟩
  obtain ⟨ds, e, z, q⟩ := q
  subst e
  cases n1 with
  | tup s r _ => exact ⟨_, _, rfl, SqT_mono R.sub s.t, by rw [r.length]; exact z, ds, env, io, F, st, R, r, q⟩
def wAsg (we : DE) (g : DG) : DS := fun D env st => we env st fun d s => g d env s D.nx
theorem ws_asg {tg : Expr} {g : DG} (he : WE X e we) (hg : WG X tg g) (hs : swapsWithSole [tg] e pos.line X.env = pure false := by rfl) (hw : swappedStores [tg] e X.env = pure none := by rfl)
    (h1 : (assignEach [tg] X.env).map (·.2) = [assign tg X.env] := by rfl) : WS X (.Assign [tg] e pos) (wAsg we g) := by
  refine ⟨fun _ _ _ _ l q => he.mo _ _ _ _ (fun _ _ q => hg.mo _ _ _ _ _ l.nx q) q, PS_imp (ps_asg he.pe hg.pe hs hw h1) fun D σ H ⟨env, io, F, st, R, q⟩ => ?_⟩
  exact tE_use he.mo R q fun d s1 v io1 F1 H1 q1 t1 R1 n1 => ⟨d, env, io1, F1, s1, R1, n1, hg.mo _ _ _ _ _ (fun e s q => kN_later t1 q) q1⟩
theorem ws_set {i : Nat} {x : Str} (hN : X.N.Nodup) (hi : X.N[i]? = some x) (hx : Loc X.env.scope x) (he : WE X e we) (hs : swapsWith e (some (.Name x pos')) pos.line X.env = pure false := by rfl)
    (hf : X.fn x = true ∨ X.env.scope.names.lookup x = some .local := by first | exact .inl rfl | exact .inr rfl | assumption) : WS X (.Assign [.Name x pos'] e pos) (wAsg we (gNm i)) := by
  refine ⟨fun _ _ _ _ l q => he.mo _ _ _ _ (fun _ _ q => l.nx _ _ q) q, PS_imp (ps_set hN hi hx he.pe hs hf) fun D σ H ⟨env, io, F, st, R, q⟩ => ?_⟩
  exact tE_use he.mo R q fun d s1 v io1 F1 H1 q1 t1 R1 n1 => q1 _ _ _ _ t1 (R1.set n1)
end
end DL
namespace DL
open PySem PySem.Spec PyProof.Rows L2
variable [Bs]
abbrev GK := List D → (Sto → Prop) → Sto → Prop
abbrev DI := En → Sto → GK → Prop
def MoI (w : DI) : Prop := ∀ (e : En) (s : Sto) (Q Q' : GK), (∀ d g s, Q d g s → Q' d g s) → w e s Q → w e s Q'
structure WalkD (K : PySem.W.Frag) (J : It) (H : Hp) (io : List Addr) (F : Hp) (ds : List D) (G : Sto → Prop) : Prop where
  go : ∀ {H2 io2 F2 st2} (i : Nat), Stp H io F H2 io2 F2 → RelH K H2 io2 F2 st2 → G st2 → i < ds.length → J.go i H2
  stop : ∀ {H2 io2 F2 st2}, Stp H io F H2 io2 F2 → RelH K H2 io2 F2 st2 → G st2 → J.stop ds.length H2
  yld : ∀ {H2 io2 F2 st2} (i : Nat) (x : V) (H3 : Hp), Stp H io F H2 io2 F2 → RelH K H2 io2 F2 st2 → G st2 → i < ds.length → J.yld i H2 x H3 →
    ∃ F3 d, Stp H2 io2 F2 H3 io2 F3 ∧ RelH K H3 io2 F3 st2 ∧ ds[i]? = some d ∧ Den K io2 F3 x d
def kI (K : PySem.W.Frag) (H : Hp) (io : List Addr) (F : Hp) (R : It → Hp → Prop) : GK := fun ds G st' => ∀ io' F' H' J, Stp H io F H' io' F' → RelH K H' io' F' st' → WalkD K J H' io' F' ds G → R J H'
def tI (K : PySem.W.Frag) (w : DI) : TI := fun σ H R => ∃ env io F st, Rel K σ H env io F st ∧ w env st (kI K H io F R)
structure WI (X : Cx) (tg iter : Expr) (w : DI) : Prop where
  mo : MoI w
  pe : PI X tg iter (tI X.K w)
theorem PI_imp {X : Cx} {tg iter : Expr} {t t' : TI} (h : PI X tg iter t) (i : ∀ σ H R, t' σ H R → t σ H R) : PI X tg iter t' := ⟨fun p s σ H R I q => h.run p s σ H R I (i σ H R q)⟩
def wForL (G : Sto → Prop) (g : DG) (b : DS) (A : DEnds) : List D → En → Sto → Prop
  | [], env, st => G st ∧ A.nx env st
  | d :: r, env, st => G st ∧ g d env st fun e s => b { nx := wForL G g b A r, rt := A.rt, bk := A.nx, ct := wForL G g b A r } e s
def wFor (wi : DI) (g : DG) (b : DS) : DS := fun D env st => wi env st fun ds G s => wForL G g b D ds env s
theorem moForL {G : Sto → Prop} {g : DG} {b : DS} (mg : MoG g) (mb : MoS b) {A B : DEnds} (l : A.le B) : ∀ (ds : List D) (env : En) (st : Sto), wForL G g b A ds env st → wForL G g b B ds env st
  | [], _, _, ⟨h, q⟩ => ⟨h, l.nx _ _ q⟩
  | d :: r, env, st, ⟨h, q⟩ => ⟨h, mg _ _ _ _ _ (fun e s q => mb { nx := wForL G g b A r, rt := A.rt, bk := A.nx, ct := wForL G g b A r } { nx := wForL G g b B r, rt := B.rt, bk := B.nx, ct := wForL G g b B r } _ _ ⟨moForL mg mb l r, l.rt, l.nx, moForL mg mb l r⟩ q) q⟩
section
variable {X : Cx} {pos : Pos} {tg iter : Expr} {body : List Stmt} {wi : DI} {g : DG} {b : DS}
theorem ws_for (hp : PassesOwn (model X.prog X.w) X.A X.env X.xe) (hc : X.calm = true) (hi : WI X tg iter wi) (hg : WG X tg g) (hb : WB X body b)
    (hs : ∀ x, foldedSetIterable iter X.env x = pure x := by intro _; rfl) : WS X (.For tg iter body [] pos) (wFor wi g b) := by
  refine ⟨fun A B e s l q => hi.mo _ _ _ _ (fun ds G s q => moForL hg.mo hb.mo l ds e s q) q, PS_imp (ps_for hp hc hi.pe hg.pe hb.pe hs) fun D σ H ⟨env, io, F, st, R, q⟩ => ?_⟩
  refine ⟨env, io, F, st, R, hi.mo _ _ _ _ (fun ds G s1 q1 => ?_) q⟩
  intro io1 F1 H1 J t1 R1 W
  let Pv : Nat → L2.St → Hp → Prop := fun i σ' H' => ∃ env' io' F' st', Stp H1 io1 F1 H' io' F' ∧ Rel X.K σ' H' env' io' F' st' ∧ wForL G g b (kD X.K H io F D) (ds.drop i) env' st'
  refine ⟨fun i m σ' H' => m = ds.length - i ∧ i ≤ ds.length ∧ Pv i σ' H', ⟨ds.length, by omega, Nat.zero_le _, env, io1, F1, s1, Stp.refl, R.next t1 R1, by rw [List.drop_zero]; exact q1⟩, ?_⟩
  rintro i m σ2 H2 ⟨rfl, hi2, env2, io2, F2, st2, t2, R2, q2⟩
  by_cases hlt : i < ds.length
  · have hd : ds.drop i = ds[i] :: ds.drop (i + 1) := List.drop_eq_getElem_cons hlt
    rw [hd] at q2
    obtain ⟨hG, q2⟩ := q2
    refine .inr ⟨W.go i t2 R2.toRelH hG hlt, Pv (i + 1), fun σ' H' p => ⟨ds.length - (i + 1), by omega, rfl, hlt, p⟩, fun x H3 y => ?_⟩
    obtain ⟨F3, d, t3, R3, e3, n3⟩ := W.yld i x H3 t2 R2.toRelH hG hlt y
    have ed : d = ds[i] := by rw [List.getElem?_eq_getElem hlt] at e3; exact (Option.some.inj e3).symm
    subst ed
    refine ⟨_, env2, io2, F3, st2, R2.next t3 R3, n3, hg.mo _ _ _ _ _ (fun e4 s4 q4 => ?_) q2⟩
    intro σ4 io4 F4 H4 t4 R4
    refine ⟨e4, io4, F4, s4, R4, hb.mo _ _ _ _ ?_ q4⟩
    have tt := (t2.trans t3).trans t4
    refine ⟨fun e5 s5 q5 => ?_, fun d5 s5 q5 => ?_, fun e5 s5 q5 => ?_, fun e5 s5 q5 => ?_⟩
    · exact fun σ5 io5 F5 H5 t5 R5 => ⟨e5, io5, F5, s5, tt.trans t5, R5, q5⟩
    · exact kE_later (t1.trans tt) q5
    · exact kN_later (t1.trans tt) q5
    · exact fun σ5 io5 F5 H5 t5 R5 => ⟨e5, io5, F5, s5, tt.trans t5, R5, q5⟩
  · have e : i = ds.length := by omega
    subst e
    rw [List.drop_length] at q2
    obtain ⟨hG, q2⟩ := q2
    exact .inl ⟨W.stop t2 R2.toRelH hG, q2 _ _ _ _ (t1.trans t2) R2⟩
def wWhile (c : DT) (b : DS) : DS := fun D env st => ∃ I : Nat → En → Sto → Prop, (∃ m, I m env st) ∧ ∀ m env st, I m env st → c env st fun k s => if k = true then b { nx := fun e s => ∃ m', m' < m ∧ I m' e s, rt := D.rt, bk := D.nx, ct := fun e s => ∃ m', m' < m ∧ I m' e s } env s else D.nx env s
theorem ws_while {c : Expr} {wc : DT} (hp : PassesOwn (model X.prog X.w) X.A X.env X.xe) (hc : WT X c wc) (hb : WB X body b) : WS X (.While c body [] pos) (wWhile wc b) := by
  refine ⟨fun A B e s l ⟨I, i0, q⟩ => ⟨I, i0, fun m e s hI => hc.mo _ _ _ _ (fun k s q => ?_) (q m e s hI)⟩, PS_imp (ps_while hp hc.pe hb.pe) fun D σ H ⟨env, io, F, st, R, I, ⟨m0, i0⟩, q⟩ => ?_⟩
  · cases k with
    | true => exact hb.mo { nx := fun e s => ∃ m', m' < m ∧ I m' e s, rt := A.rt, bk := A.nx, ct := fun e s => ∃ m', m' < m ∧ I m' e s } _ _ _ ⟨fun _ _ h => h, fun _ _ h => l.rt _ _ h, fun _ _ h => l.nx _ _ h, fun _ _ h => h⟩ q
    | false => exact l.nx _ _ q
  · refine ⟨fun m σ' H' => ∃ env' io' F' st', Stp H io F H' io' F' ∧ Rel X.K σ' H' env' io' F' st' ∧ I m env' st', ⟨m0, env, io, F, st, Stp.refl, R, i0⟩, ?_⟩
    rintro m σ1 H1 ⟨env1, io1, F1, st1, t1, R1, i1⟩
    refine tT_use hc.mo R1 (q m env1 st1 i1) fun k s2 io2 F2 H2 q2 t2 R2 => ?_
    cases k with
    | true =>
      rw [if_pos rfl] at q2 ⊢
      refine ⟨fun σ' H' => ∃ m', m' < m ∧ ∃ env' io' F' st', Stp H io F H' io' F' ∧ Rel X.K σ' H' env' io' F' st' ∧ I m' env' st', fun σ' H' h => h, env1, io2, F2, s2, R2, hb.mo _ _ _ _ ?_ q2⟩
      refine ⟨fun e5 s5 ⟨m', hm, q5⟩ => ?_, fun d5 s5 q5 => ?_, fun e5 s5 q5 => ?_, fun e5 s5 ⟨m', hm, q5⟩ => ?_⟩
      · exact fun σ5 io5 F5 H5 t5 R5 => ⟨m', hm, e5, io5, F5, s5, (t1.trans t2).trans t5, R5, q5⟩
      · exact kE_later (t1.trans t2) q5
      · exact kN_later (t1.trans t2) q5
      · exact fun σ5 io5 F5 H5 t5 R5 => ⟨m', hm, e5, io5, F5, s5, (t1.trans t2).trans t5, R5, q5⟩
    | false =>
      rw [if_neg Bool.false_ne_true] at q2 ⊢
      exact q2 _ _ _ _ (t1.trans t2) R2
end
def wipeE (env : En) : List Nat → En
  | [] => env
  | v :: vs => (wipeE env vs).set v none
theorem wipe_rel {K : PySem.W.Frag} {σ : L2.St} {H : Hp} {env : En} {io : List Addr} {F : Hp} {st : Sto} (R : Rel K σ H env io F st) : ∀ vs : List Nat, Rel K (wipe σ vs) H (wipeE env vs) io F st
  | [] => R
  | v :: vs => by
    have ih := wipe_rel R vs
    refine { ih.toRelH with sl := ?_, bs := ih.bs, slot := fun j d e => ?_ }
    · show ((wipe σ vs).set v none).length = ((wipeE env vs).set v none).length
      rw [List.length_set, List.length_set]; exact ih.sl
    · replace e : ((wipeE env vs).set v none)[j]? = some (some d) := e
      show ∃ x, ((wipe σ vs).set v none)[j]? = some (some x) ∧ _
      by_cases hj : v = j
      · subst hj
        by_cases hl : v < (wipeE env vs).length
        · rw [List.getElem?_set_self hl] at e; cases e
        · rw [List.getElem?_eq_none (by rw [List.length_set]; omega)] at e; cases e
      · rw [List.getElem?_set_ne hj] at e ⊢
        exact ih.slot j d e
/-- targets in a comprehension: plain slots -/
inductive Tg where
  | nm (i : Nat) | tp (is : List Nat)
def Tg.dg : Tg → DG
  | .nm i => gNm i
  | .tp is => gTp is.length (is.foldr (fun i r => gCn (gNm i) r) gNl)
def Tg.tg (K : PySem.W.Frag) : Tg → TG
  | .nm i => gName i
  | .tp is => gTup K is.length (is.foldr (fun i r => gCons (gName i) r) gNil)
def Tg.ix : Tg → List Nat
  | .nm i => [i]
  | .tp is => is
theorem wipe_set {σ : L2.St} {x : Option V} {i : Nat} : ∀ {vs : List Nat}, i ∈ vs → wipe (σ.set i x) vs = wipe σ vs
  | v :: vs, h => by
    unfold wipe
    by_cases e : i ∈ vs
    · rw [wipe_set e]
    · have ev : i = v := by rcases List.mem_cons.mp h with z | z; exact z; exact absurd z e
      subst ev
      have : ∀ (vs : List Nat) (σ : L2.St), i ∉ vs → wipe (σ.set i x) vs = (wipe σ vs).set i x := fun vs => by
        induction vs with
        | nil => intro σ _; rfl
        | cons w ws ih =>
          intro σ hn
          unfold wipe
          have h1 : w ≠ i := fun z => hn (by rw [z]; exact List.mem_cons_self)
          rw [ih σ (fun z => hn (List.mem_cons_of_mem _ z)), List.set_comm _ _ h1.symm]
      rw [this vs σ e, List.set_set]
/-- running a target: the slots besides stay -/
theorem Tg.run {K : PySem.W.Frag} {H : Hp} {io : List Addr} {F : Hp} {st : Sto} {vs : List Nat} : ∀ (t : Tg) (hv : ∀ i ∈ t.ix, i ∈ vs) {σ : L2.St} {env : En} {v : V} {d : D} {Q : L2.St → Hp → Prop} {P : En → Sto → Prop}, Rel K σ H env io F st → Den K io F v d → t.dg d env st P →
    (∀ σ' env', P env' st → Rel K σ' H env' io F st → wipe σ' vs = wipe σ vs → Q σ' H) → t.tg K v σ H Q
  | .nm i, hv, σ, env, v, d, Q, P, R, n, q, k => k _ _ q (R.set n) (wipe_set (hv i (by simp [Tg.ix])))
  | .tp is, hv, σ, env, v, d, Q, P, R, n, q, k => by
    obtain ⟨ds, e, z, q⟩ := q
    subst e
    cases n with
    | @tup a xs _ s r _ =>
      refine ⟨a, xs, rfl, SqT_mono R.sub s.t, by rw [r.length]; exact z, ?_⟩
      clear s z
      replace hv : ∀ i ∈ is, i ∈ vs := hv
      suffices ∀ (is : List Nat) (hv : ∀ i ∈ is, i ∈ vs) (xs : List V) (ds : List D) (σ' : L2.St) (env' : En), Rel K σ' H env' io F st → wipe σ' vs = wipe σ vs → DenL K io F xs ds →
          is.foldr (fun i r => gCn (gNm i) r) gNl ds env' st P → is.foldr (fun i r => gCons (gName i) r) gNil xs σ' H Q from this is hv xs ds σ env R rfl r q
      intro is
      induction is with
      | nil =>
        intro hv xs ds σ' env' R' w' r' q'
        obtain ⟨e, q'⟩ := q'
        subst e
        cases r'
        exact ⟨rfl, k _ _ q' R' w'⟩
      | cons i is ih =>
        intro hv xs ds σ' env' R' w' r' q'
        obtain ⟨d1, ds', e, q'⟩ := q'
        subst e
        cases r' with
        | @cons v1 vs1 _ _ n1 n2 =>
          exact ⟨v1, vs1, rfl, ih (fun j hj => hv j (List.mem_cons_of_mem _ hj)) vs1 ds' _ _ (R'.set n1) ((wipe_set (hv i List.mem_cons_self)).trans w') n2 q'⟩
theorem moFold {Q Q' : En → Sto → Prop} (h : ∀ e s, Q e s → Q' e s) {s : Sto} : ∀ (is : List Nat) (ds : List D) (e : En), is.foldr (fun i r => gCn (gNm i) r) gNl ds e s Q → is.foldr (fun i r => gCn (gNm i) r) gNl ds e s Q'
  | [], _, _, ⟨a, q⟩ => ⟨a, h _ _ q⟩
  | i :: is, _, _, ⟨d1, ds', e2, q⟩ => ⟨d1, ds', e2, moFold h is _ _ q⟩
theorem Tg.mo : ∀ t : Tg, MoG t.dg
  | .nm i => fun _ _ _ _ _ h q => h _ _ q
  | .tp is => fun d e s Q Q' h ⟨ds, e1, z, q⟩ => ⟨ds, e1, z, moFold h is ds e q⟩
def wCompL (G : Sto → Prop) (t : Tg) (c : DT) (w : DE) (env : En) : List D → Sto → List D → LK → Prop
  | [], st, acc, Q => G st ∧ Q acc st
  | d :: r, st, acc, Q => G st ∧ t.dg d env st fun e s => c e s fun k s1 => if k = true then w e s1 fun x s2 => wCompL G t c w env r s2 (acc ++ [x]) Q else wCompL G t c w env r s1 acc Q
def wComp (m : Bool) (wi : DI) (t : Tg) (c : DT) (w : DE) (vs : List Nat) : DE := fun env st Q => wi env st fun ds G s => ds.length ≤ sizeLine ∧ wCompL G t c w (wipeE env vs) ds s [] fun acc s' => newL m acc s' Q
theorem moCompL {G : Sto → Prop} {t : Tg} {c : DT} {w : DE} (mc : MoT c) (mw : MoE w) {Q Q' : LK} (h : ∀ d s, Q d s → Q' d s) {env : En} : ∀ (ds : List D) (st : Sto) (acc : List D), wCompL G t c w env ds st acc Q → wCompL G t c w env ds st acc Q'
  | [], _, _, ⟨g, q⟩ => ⟨g, h _ _ q⟩
  | d :: r, st, acc, ⟨g, q⟩ => ⟨g, t.mo _ _ _ _ _ (fun e s q => mc _ _ _ _ (fun k s1 q => by
    cases k with
    | true => exact mw _ _ _ _ (fun x s2 q => moCompL mc mw h r s2 _ q) q
    | false => exact moCompL mc mw h r s1 acc q) q) q⟩
def wYes : DT := fun _ st Q => Q true st
/-- a clause's tests -/
structure WTs (X : Cx) (ifs : List Expr) (w : DT) : Prop where
  mo : MoT w
  pe : PTs X ifs (tT X.K w)
theorem PTs_imp {X : Cx} {e : List Expr} {t t' : TT} (h : PTs X e t) (i : ∀ σ H Q, t' σ H Q → t σ H Q) : PTs X e t' := ⟨fun p s σ H Q I q => h.run p s σ H Q I (i σ H Q q)⟩
theorem wts_nil {X : Cx} : WTs X [] wYes := ⟨fun _ _ _ _ h q => h _ _ q, PTs_imp pts_nil fun σ H Q ⟨env, io, F, st, R, q⟩ => q io F H Stp.refl R.toRelH⟩
theorem wts_one {X : Cx} {c : Expr} {w : DT} (h : WT X c w) : WTs X [c] w := ⟨h.mo, pts_one h.pe⟩
/-- the reading of a comprehension -/
theorem tLc_of {K : PySem.W.Frag} {wi : DI} {t : Tg} {c : DT} {w : DE} {vs : List Nat} {m : Bool} {Q : VK} {σ : L2.St} {H : Hp} (mi : MoI wi) (mc : MoT c) (mw : MoE w) (hv : ∀ i ∈ t.ix, i ∈ vs) (h : tE K (wComp m wi t c w vs) σ H Q) :
    tLc (tI K wi) (t.tg K) (tT K c) (tE K w) vs σ H Q := by
  obtain ⟨env, io, F, st, R, q⟩ := h
  refine ⟨env, io, F, st, R, mi _ _ _ _ (fun ds G s1 ⟨hz, q1⟩ => ?_) q⟩
  intro io1 F1 H1 J t1 R1 W Dl hD
  have R1' : Rel K σ H1 env io1 F1 s1 := R.next t1 R1
  have hio := R1.notIo hD
  have hF := R1.notF hD
  have hHD : H Dl = none := t1.none_of hD
  let Pv : Nat → Hp → Prop := fun i H' => ∃ io' F' st' acc vs', Stp H1 io1 F1 H' io' F' ∧ RelH K H' io' F' st' ∧ H' Dl = some (.lst vs') ∧ F' Dl = none ∧ Dl ∉ io' ∧ DenL K io' F' vs' acc ∧ acc.length ≤ i ∧
    wCompL G t c w (wipeE env vs) (ds.drop i) st' acc (fun acc s' => newL m acc s' (kE K H io F Q))
  refine ⟨fun i k H' => k = ds.length - i ∧ i ≤ ds.length ∧ Pv i H', ⟨ds.length, by omega, Nat.zero_le _, io1, F1, s1, [], [], Stp.refl.own hD, R1.aside hD, upd_same, hF, hio, .nil, Nat.le_refl _, by rw [List.drop_zero]; exact q1⟩, ?_⟩
  rintro i k H2 ⟨rfl, hi2, io2, F2, st2, acc, vs2, t2, R2, e2, f2, o2, n2, l2, q2⟩
  by_cases hlt : i < ds.length
  · have hd : ds.drop i = ds[i] :: ds.drop (i + 1) := List.drop_eq_getElem_cons hlt
    rw [hd] at q2
    obtain ⟨hG, q2⟩ := q2
    refine .inr ⟨W.go i t2 R2 hG hlt, Pv (i + 1), fun H' p => ⟨ds.length - (i + 1), by omega, rfl, hlt, p⟩, fun x H3 y => ?_⟩
    obtain ⟨F3, d, t3, R3, e3, n3⟩ := W.yld i x H3 t2 R2 hG hlt y
    have ed : d = ds[i] := by rw [List.getElem?_eq_getElem hlt] at e3; exact (Option.some.inj e3).symm
    subst ed
    have Rs : Rel K (wipe σ vs) H3 (wipeE env vs) io2 F3 st2 := wipe_rel (R1'.next (t2.trans t3) R3) vs
    refine t.run hv Rs n3 q2 fun σ4 env4 q4 R4 w4 => ⟨?_, ?_⟩
    · rw [w4]
      have : ∀ (vs ws : List Nat), (∀ i ∈ vs, i ∈ ws) → wipe (wipe σ ws) vs = wipe σ ws := fun vs ws => by
        induction vs with
        | nil => intro _; rfl
        | cons v vs ih =>
          intro hh
          show (wipe (wipe σ ws) vs).set v none = _
          rw [ih fun i hi => hh i (List.mem_cons_of_mem _ hi)]
          have hv' := hh v List.mem_cons_self
          clear ih hh
          induction ws with
          | nil => cases hv'
          | cons u us ih2 =>
            show ((wipe σ us).set u none).set v none = (wipe σ us).set u none
            by_cases e : v = u
            · subst e; rw [List.set_set]
            · rcases List.mem_cons.mp hv' with z | z
              · exact absurd z e
              · rw [List.set_comm _ _ (Ne.symm e), ih2 z]
      exact this vs vs fun _ h => h
    refine tT_use mc R4 q4 fun b s5 io5 F5 H5 q5 t5 R5 => ?_
    have b5 := (t3.trans t5).beside e2 (fun _ z => nomatch z) f2 o2
    cases b with
    | true =>
      rw [if_pos rfl] at q5 ⊢
      refine tE_use mw R5 q5 fun d6 s6 v6 io6 F6 H6 q6 t6 R6 n6 => ?_
      have b6 := ((t3.trans t5).trans t6).beside e2 (fun _ z => nomatch z) f2 o2
      have lz : acc.length < sizeLine := by omega
      refine ⟨vs2, b6.1, by rw [n2.length]; exact lz, io6, F6, s6, acc ++ [d6], vs2 ++ [v6], (((t2.trans t3).trans t5).trans t6).own hD, R6.toRelH.side b6.1 (fun _ z => nomatch z) b6.2.1 b6.2.2, upd_same, b6.2.1, b6.2.2,
        ((((t3.trans t5).trans t6).denL n2).append (.cons n6 .nil)), by rw [List.length_append, List.length_singleton]; omega, q6⟩
    | false =>
      rw [if_neg Bool.false_ne_true] at q5 ⊢
      exact ⟨io5, F5, s5, acc, vs2, ((t2.trans t3).trans t5), R5.toRelH, b5.1, b5.2.1, b5.2.2, (t3.trans t5).denL n2, by omega, q5⟩
  · have e : i = ds.length := by omega
    subst e
    rw [List.drop_length] at q2
    obtain ⟨hG, q2⟩ := q2
    refine .inl ⟨W.stop t2 R2 hG, ?_⟩
    have lz : acc.length ≤ sizeLine := by omega
    cases m with
    | true =>
      have s : Stp H2 io2 F2 H2 (io2 ++ [Dl]) F2 → True := fun _ => trivial
      have ix : ∀ (n : Nat) a, io2[n]? = some a → (io2 ++ [Dl])[n]? = some a := fun n a h => by
        rw [List.getElem?_append_left (List.getElem?_eq_some_iff.mp h).1]; exact h
      exact kE_at (show kE K H io F Q (.ref st2.length) (st2 ++ [.lst acc]) from q2) ((t1.trans t2).cell hHD) (R2.adopt ⟨_, e2, fun _ z => nomatch z⟩ o2 ⟨f2, lz, vs2, e2, n2.mono ix fun _ _ h => h⟩) R2.newRef
    | false =>
      have fr : ∀ a u, F2 a = some u → upd F2 Dl (.lst vs2) a = some u := fun a u e => by
        rw [upd_ne (fun z => by subst z; rw [f2] at e; cases e)]; exact e
      exact kE_at (show kE K H io F Q (.lst acc) st2 from q2) ((t1.trans t2).frz hHD f2) (R2.frz e2 (fun _ z => nomatch z) f2 o2) (.lst upd_same (n2.mono (fun _ _ h => h) fr) lz)
end DL
namespace DL
open PySem PySem.Spec PyProof.Rows L2
variable [Bs]
theorem pi_seq {X : Cx} {tg l : Expr} {tl : TE} (hl : PE X l tl) : PI X tg l (fun σ H R => tl σ H fun x H1 => (∃ a xs, x = .ref a ∧ ((SqL X.K H1 a xs ∧ R (Itl X.K a) H1) ∨ (SqT X.K H1 a xs ∧ R (Itt X.K a) H1))) ∨ ∃ z, x = .str z ∧ R (Its z) H1) := by
  refine ⟨fun pins s σ H R I h => ?_⟩
  have h1 : ∀ {t : TE}, (∀ σ H Q, t σ H Q → tl σ H Q) → PE X l t := fun i => PE_imp hl i
  refine thn (hl.run pins s σ H _ I h) fun v s1 ⟨x, H1, I1, r1, q1⟩ => ?_
  rcases q1 with ⟨a, xs, e, q⟩ | ⟨z, e, q⟩
  · subst e
    cases r1
    rcases q with ⟨hq, q⟩ | ⟨hq, q⟩
    · obtain ⟨its, rv, p, hz⟩ := I1.list hq
      refine wpAny_pyIter_list p.isList ?_
      refine ⟨s1.heap.objs.size, [s1.heap.objs.size], _, _, H1, rfl, I1.kept (t' := s1.toks) fun b o e => Heap.get?_push_of_some _ e, turn_list a _, ⟨_, Heap.get?_push_size _ rfl, rfl, rfl⟩, fun b hb => ?_, q⟩
      have e : b = s1.heap.objs.size := by simpa using hb
      subst e
      exact I1.fpOk (Nat.le_refl _) (I1.hok.fresh (Nat.le_refl _))
    · obtain ⟨its, rv, p, hz⟩ := I1.tuple hq
      refine wpAny_pyIter_tuple (show s1.heap.IsTuple a its.toArray from p) ?_
      refine ⟨s1.heap.objs.size, [s1.heap.objs.size], _, _, H1, rfl, I1.kept (t' := s1.toks) fun b o e => Heap.get?_push_of_some _ e, turn_tuple a _, ⟨_, Heap.get?_push_size _ rfl, rfl, rfl⟩, fun b hb => ?_, q⟩
      have e : b = s1.heap.objs.size := by simpa using hb
      subst e
      exact I1.fpOk (Nat.le_refl _) (I1.hok.fresh (Nat.le_refl _))
  · subst e
    obtain ⟨t, rfl⟩ := r1
    cases ha : z.cps.all (· < 128)
    · exact wpAny_pyIter_wide ha (pi_one (tk := s1.toks) I1 _ (turn_str _ z t "str_iterator" (.inr rfl)) ⟨_, Heap.get?_push_size _ rfl, rfl, rfl⟩ q)
    · exact wpAny_pyIter_ascii ha (pi_one (tk := s1.toks) I1 _ (turn_str _ z t "str_ascii_iterator" (.inl rfl)) ⟨_, Heap.get?_push_size _ rfl, rfl, rfl⟩ q)
end DL
namespace DL
open PySem PySem.Spec PyProof.Rows L2
variable [Bs]
/-- a cell's list as a list -/
def rd (st : Sto) : D → D
  | .ref n => match st[n]? with
    | some (.lst ds) => .lst ds
    | _ => .ref n
  | d => d
section
variable {K : PySem.W.Frag} {io : List Addr} {F H : Hp} {st : Sto} {v : V} {d : D} {ds : List D}
/-- what stands behind a value read as a list -/
theorem rd_lst (R : RelH K H io F st) (n : Den K io F v d) (e : rd st d = .lst ds) : ∃ a xs, v = .ref a ∧ H a = some (.lst xs) ∧ DenL K io F xs ds ∧ ds.length ≤ sizeLine := by
  cases d with
  | lst es =>
    cases e
    cases n with
    | lst h r z => exact ⟨_, _, rfl, R.sub _ _ h, r, z⟩
  | ref k =>
    cases n with
    | ref h =>
      unfold rd at e
      cases q : st[k]? with
      | none => simp [q] at e
      | some c =>
        cases c with
        | lst es =>
          simp [q] at e
          subst e
          obtain ⟨h1, h2, vs, h3, h4⟩ := R.cel _ _ _ q h
          exact ⟨_, _, rfl, h3, h4, h2⟩
        | dead => simp [q] at e
        | ins C fs => simp [q] at e
        | dct b kvs => simp [q] at e
  | non => cases e
  | bl b => cases e
  | int i => cases e
  | str s => cases e
  | tup es => cases e
  | scr es => cases e
  | dct es => cases e
  | fn _ _ _ => cases e
  | exc => cases e
theorem rd_not (e : ∀ ds, rd st d ≠ .lst ds) (e2 : ∀ n, rd st d ≠ .ref n) : rd st d = d := by
  cases d with
  | ref n =>
    unfold rd at e e2 ⊢
    cases q : st[n]? with
    | none => simp [q] at e2
    | some c => cases c <;> simp [q] at e e2
  | _ => rfl
end
/-- what may be walked: with what must stay -/
def seqI (d : D) (s : Sto) (R : GK) : Prop :=
  match d with
  | .tup ds => R ds (fun _ => True) s
  | .lst ds => R ds (fun _ => True) s
  | .scr ds => R ds (fun _ => True) s
  | .str z => R (z.cps.toList.map fun c => .str ⟨#[c]⟩) (fun _ => True) s
  | .ref n => ∃ ds, s[n]? = some (.lst ds) ∧ R ds (fun s' => s'[n]? = some (.lst ds)) s
  | _ => False
theorem seqI_mo {d : D} {s : Sto} {R R' : GK} (h : ∀ ds G s, R ds G s → R' ds G s) (q : seqI d s R) : seqI d s R' := by
  cases d with
  | ref n => obtain ⟨ds, e, q⟩ := q; exact ⟨ds, e, h _ _ _ q⟩
  | tup _ => exact h _ _ _ q
  | lst _ => exact h _ _ _ q
  | scr _ => exact h _ _ _ q
  | str _ => exact h _ _ _ q
  | non => exact q
  | bl _ => exact q
  | int _ => exact q
  | dct _ => exact q
  | fn _ _ _ => exact q
  | exc => exact q
def iSeq (we : DE) : DI := fun env st R => we env st fun d s => seqI d s R
section
variable {K : PySem.W.Frag} {io : List Addr} {F H : Hp} {a : Addr} {xs : List V} {ds : List D}
theorem walkD_list {G : Sto → Prop} (r : DenL K io F xs ds) (h : ∀ {H2 io2 F2 st2}, Stp H io F H2 io2 F2 → RelH K H2 io2 F2 st2 → G st2 → ∃ ys, SqL K H2 a ys ∧ DenL K io2 F2 ys ds) : WalkD K (Itl K a) H io F ds G where
  go := fun i t R g hi => by
    obtain ⟨ys, s, r2⟩ := h t R g
    obtain ⟨v, e, _⟩ := r2.get (List.getElem?_eq_getElem hi)
    exact ⟨ys, v, s, e⟩
  stop := fun t R g => by
    obtain ⟨ys, s, r2⟩ := h t R g
    exact ⟨ys, s, Nat.le_of_eq r2.length⟩
  yld := fun {H2 io2 F2 st2} i x H3 t R g hi y => by
    obtain ⟨ys, s, r2⟩ := h t R g
    obtain ⟨v, e, n⟩ := r2.get (List.getElem?_eq_getElem hi)
    obtain ⟨e1, e2⟩ := y
    subst e1
    have := e2 ys s
    rw [e] at this
    cases this
    exact ⟨F2, _, Stp.refl, R, List.getElem?_eq_getElem hi, n⟩
theorem walkD_tup (s0 : SqT K F a xs) (r : DenL K io F xs ds) : WalkD K (Itt K a) H io F ds (fun _ => True) where
  go := fun i t R _ hi => by
    obtain ⟨v, e, _⟩ := (t.denL r).get (List.getElem?_eq_getElem hi)
    exact ⟨xs, v, SqT_mono R.sub (SqT_mono t.fr s0), e⟩
  stop := fun t R _ => ⟨xs, SqT_mono R.sub (SqT_mono t.fr s0), Nat.le_of_eq r.length⟩
  yld := fun {H2 io2 F2 st2} i x H3 t R _ hi y => by
    obtain ⟨v, e, n⟩ := (t.denL r).get (List.getElem?_eq_getElem hi)
    obtain ⟨e1, e2⟩ := y
    subst e1
    have := e2 xs (SqT_mono R.sub (SqT_mono t.fr s0))
    rw [e] at this
    cases this
    exact ⟨F2, _, Stp.refl, R, List.getElem?_eq_getElem hi, n⟩
theorem walkD_str {z : Str} : WalkD K (Its z) H io F (z.cps.toList.map fun c => .str ⟨#[c]⟩) (fun _ => True) where
  go := fun i t R _ hi => by
    have : i < z.cps.size := by simpa using hi
    exact this
  stop := fun t R _ => by
    have e : (z.cps.toList.map fun c => D.str ⟨#[c]⟩).length = z.cps.size := by simp
    rw [e]
    exact (walk_str (z := z)).stops _ trivial
  yld := fun {H2 io2 F2 st2} i x H3 t R _ hi y => by
    have hi' : i < z.cps.size := by simpa using hi
    obtain ⟨e1, c, e2, e3⟩ := (walk_str (z := z)).yields i H2 x H3 hi' trivial y
    subst e1
    subst e3
    refine ⟨F2, .str ⟨#[c]⟩, Stp.refl, R, ?_, .str _⟩
    simp [e2]
end
section
variable {X : Cx} {pos p : Pos} {tg e e2 : Expr} {we we2 : DE}
theorem wi_seq (he : WE X e we) : WI X tg e (iSeq we) := by
  refine ⟨fun _ _ _ _ h q => he.mo _ _ _ _ (fun _ _ q => seqI_mo h q) q, PI_imp (pi_seq he.pe) fun σ H R ⟨env, io, F, st, Rl, q⟩ => ?_⟩
  refine tE_use he.mo Rl q fun d s1 v io1 F1 H1 q1 t1 R1 n1 => ?_
  cases n1 with
  | tup s r z => exact .inl ⟨_, _, rfl, .inr ⟨SqT_mono R1.sub s.t, q1 _ _ _ _ t1 R1.toRelH (walkD_tup s.t r)⟩⟩
  | lst s r z => exact .inl ⟨_, _, rfl, .inl ⟨SqL.of (R1.sub _ _ s), q1 _ _ _ _ t1 R1.toRelH (walkD_list r fun t R _ => ⟨_, SqL.of (R.sub _ _ (t.fr _ _ s)), t.denL r⟩)⟩⟩
  | scr s r z => exact .inl ⟨_, _, rfl, .inl ⟨SqL_mono R1.sub s, q1 _ _ _ _ t1 R1.toRelH (walkD_list r fun t R _ => ⟨_, SqL_mono R.sub (SqL_mono t.fr s), t.denL r⟩)⟩⟩
  | @ref a n h =>
    obtain ⟨ds, e, q1⟩ := q1
    obtain ⟨h1, h2, vs, h3, h4⟩ := R1.cel _ _ _ e h
    refine .inl ⟨_, vs, rfl, .inl ⟨SqL.of h3, q1 _ _ _ _ t1 R1.toRelH (walkD_list h4 fun t R g => ?_)⟩⟩
    obtain ⟨_, _, ws, h5, h6⟩ := R.cel _ _ _ g (t.ix _ _ h)
    exact ⟨ws, SqL.of h5, h6⟩
  | str z => exact .inr ⟨_, rfl, q1 _ _ _ _ t1 R1.toRelH walkD_str⟩
  | non => exact q1.elim
  | bl _ => exact q1.elim
  | int _ => exact q1.elim
  | dct _ => exact q1.elim
  | fn _ _ => exact q1.elim
  | exc => exact q1.elim
def rangeD (lo : Int) (n : Nat) : List D := (List.range n).map fun (i : Nat) => .int (lo + i)
theorem walkD_range {K : PySem.W.Frag} {io : List Addr} {F H : Hp} {lo : Int} {n : Nat} : WalkD K (Itr lo n) H io F (rangeD lo n) (fun _ => True) where
  go := fun i t R _ hi => by show i < n; simpa [rangeD] using hi
  stop := fun t R _ => by show n ≤ (rangeD lo n).length; simp [rangeD]
  yld := fun {H2 io2 F2 st2} i x H3 t R _ hi y => by
    obtain ⟨e1, e2⟩ := y
    subst e1
    subst e2
    have hi' : i < n := by simpa [rangeD] using hi
    exact ⟨F2, .int (lo + i), Stp.refl, R, by simp [rangeD, hi'], .int _⟩
def iRange1 (wa : DA) : DI := fun env st R => wa env st fun ds s => ∃ j, ds = [.int j] ∧ -(2 ^ 62) ≤ j ∧ j < 2 ^ 62 ∧ R (rangeD 0 j.toNat) (fun _ => True) s
def iRange2 (wa : DA) : DI := fun env st R => wa env st fun ds s => ∃ i j, ds = [.int i, .int j] ∧ (-(2 ^ 62) ≤ i ∧ i < 2 ^ 62 ∧ -(2 ^ 62) ≤ j ∧ j < 2 ^ 62) ∧ R (rangeD i (j - i).toNat) (fun _ => True) s
theorem wi_range1 {wa : DA} (hg : Gl X "range") (hm : X.mg "range" = none) (ha : WA X [e] wa) (hs : starEach [e] X.env = [(false, eval e X.env)] := by rfl) : WI X tg (.Call (.Name "range" p) [e] [] pos) (iRange1 wa) := by
  refine ⟨fun _ _ _ _ h q => ha.mo _ _ _ _ (fun _ _ ⟨j, e, h1, h2, q⟩ => ⟨j, e, h1, h2, h _ _ _ q⟩) q, PI_imp (pi_range1 hg hm ha.pe hs) fun σ H R ⟨env, io, F, st, Rl, q⟩ => ?_⟩
  refine tA_use ha.mo Rl q fun ds s1 vs io1 F1 H1 ⟨j, ed, h1, h2, q1⟩ t1 R1 n1 => ?_
  subst ed
  cases n1 with
  | cons n1 n2 =>
    cases n1
    cases n2
    exact ⟨j, rfl, h1, h2, q1 _ _ _ _ t1 R1.toRelH walkD_range⟩
def enumD (ds : List D) : List D := ds.zipIdx.map fun p => .tup [.int (p.2 : Nat), p.1]
def zipD (ds es : List D) : List D := List.zipWith (fun x y => .tup [x, y]) ds es
/-- a sequence, no text -/
def seqJ (d : D) (s : Sto) (R : GK) : Prop :=
  match d with
  | .str _ => False
  | d => seqI d s R
def iEnum (we : DE) : DI := fun env st R => we env st fun d s => seqJ d s fun ds G s => R (enumD ds) G s
end
end DL
namespace DL
open PySem PySem.Spec PyProof.Rows L2
variable [Bs]
section
variable {st : Sto} {d : D}
theorem rd_is {e : D} (h : rd st d = e) (h1 : ∀ ds, e ≠ .lst ds) (h2 : ∀ n, e ≠ .ref n) : d = e := by
  subst h
  exact (rd_not (fun ds q => h1 ds q) (fun n q => h2 n q)).symm
theorem rd_int {i : Int} (h : rd st d = .int i) : d = .int i := rd_is h (fun _ q => nomatch q) (fun _ q => nomatch q)
theorem rd_bl {i : Bool} (h : rd st d = .bl i) : d = .bl i := rd_is h (fun _ q => nomatch q) (fun _ q => nomatch q)
theorem rd_str {i : Str} (h : rd st d = .str i) : d = .str i := rd_is h (fun _ q => nomatch q) (fun _ q => nomatch q)
theorem rd_tup {i : List D} (h : rd st d = .tup i) : d = .tup i := rd_is h (fun _ q => nomatch q) (fun _ q => nomatch q)
theorem rd_scr {i : List D} (h : rd st d = .scr i) : d = .scr i := rd_is h (fun _ q => nomatch q) (fun _ q => nomatch q)
theorem rd_non (h : rd st d = .non) : d = .non := rd_is h (fun _ q => nomatch q) (fun _ q => nomatch q)
end
def dI (C : Int → Int → Prop) (g : Int → Int → D) : R2D := fun a b st Q => ∃ i j, a = .int i ∧ b = .int j ∧ C i j ∧ Q (g i j) st
theorem moI {C : Int → Int → Prop} {g : Int → Int → D} : MoR (dI C g) := fun _ _ _ _ _ h ⟨i, j, e1, e2, c, q⟩ => ⟨i, j, e1, e2, c, h _ _ q⟩
section
variable {K : PySem.W.Frag} {H : Hp} {io : List Addr} {F : Hp} {st : Sto} {Q : VK} {x y : V} {a b : D}
theorem kE_now {d : D} {v : V} (R : RelH K H io F st) (n : Den K io F v d) (q : kE K H io F Q d st) : Q v H := q v io F H Stp.refl R n
theorem z_I {C : Int → Int → Prop} {g : Int → Int → V} {g' : Int → Int → D} (hg : ∀ i j io F, Den K io F (g i j) (g' i j)) : Rz K (rI C g) (dI C g') where
  mo := moI
  on := fun R n1 n2 ⟨i, j, e1, e2, c, q⟩ => by
    subst e1 e2
    cases n1
    cases n2
    exact ⟨i, j, rfl, rfl, c, kE_now R (hg _ _ _ _) q⟩
theorem z_I0 {g : Int → Int → V} {g' : Int → Int → D} (hg : ∀ i j io F, Den K io F (g i j) (g' i j)) : Rz K (rI0 g) (dI (fun _ _ => True) g') where
  mo := moI
  on := fun R n1 n2 ⟨i, j, e1, e2, c, q⟩ => by
    subst e1 e2
    cases n1
    cases n2
    exact ⟨i, j, rfl, rfl, kE_now R (hg _ _ _ _) q⟩
end
section
variable {X : Cx}
abbrev T2 : Int → Int → Prop := fun _ _ => True
def dSub : R2D := dI T2 fun i j => .int (i - j)
def dMod : R2D := dI (fun _ j => 0 < j) fun i j => .int (i % j)
def CDv : Int → Int → Prop := fun _ j => 0 < j ∧ j < 2 ^ 62
def dFdiv : R2D := dI CDv fun i j => .int (i / j)
def dPow : R2D := dI CPow fun i j => .int (i ^ j.toNat)
theorem z_sub : Rz X.K (rI0 fun i j => .int (i - j)) dSub := z_I0 fun _ _ _ _ => .int _
theorem z_mod : Rz X.K (rI (fun _ j => 0 < j) fun i j => .int (i % j)) dMod := z_I fun _ _ _ _ => .int _
theorem z_pow : Rz X.K (rI CPow fun i j => .int (i ^ j.toNat)) dPow := z_I fun _ _ _ _ => .int _
theorem cdv {i j : Int} (h : CDv i j) : CDivW i j := by
  refine ⟨h.1, ?_⟩
  have h2 : j.natAbs < 2 ^ 62 := by have := h.2; have := h.1; omega
  have : j.natAbs.log2 < 62 := by
    rw [Nat.log2_lt (by have := h.1; omega)]
    exact h2
  omega
theorem z_fdiv : Rz X.K (rI CDivW fun i j => .int (i / j)) dFdiv where
  mo := moI
  on := fun R n1 n2 ⟨i, j, e1, e2, c, q⟩ => by
    subst e1 e2
    cases n1
    cases n2
    exact ⟨i, j, rfl, rfl, cdv c, kE_now R (.int _) q⟩
end
def dAdd : R2D := fun a b st Q => match rd st a, rd st b with
  | .int i, .int j => Q (.int (i + j)) st
  | .tup x, .tup y => x.length + y.length ≤ sizeLine ∧ Q (.tup (x ++ y)) st
  | .lst x, .lst y => x.length + y.length ≤ sizeLine ∧ Q (.lst (x ++ y)) st
  | .str x, .str y => x.length + y.length ≤ sizeLine ∧ Q (.str (x ++ y)) st
  | _, _ => False
def rAddD (K : PySem.W.Frag) : R2 := fun x y H Q => rI0 (fun i j => .int (i + j)) x y H Q ∨ rCatX K x y H Q ∨ rCat x y H Q ∨ (∃ i j, x = .str i ∧ y = .str j ∧ i.length + j.length ≤ sizeLine ∧ Q (.str (i ++ j)) H)
theorem op_addD {X : Cx} : OpR X (binaryOp .Add) (rAddD X.K) := op_add.or (op_catX.or (op_cat.or op_add_str))
theorem z_add {X : Cx} : Rz X.K (rAddD X.K) dAdd where
  mo := fun a b s Q Q' h q => by
    unfold dAdd at q ⊢
    split at q
    · exact h _ _ q
    · exact ⟨q.1, h _ _ q.2⟩
    · exact ⟨q.1, h _ _ q.2⟩
    · exact ⟨q.1, h _ _ q.2⟩
    · exact q
  on := fun {H io F st x y a b Q} R n1 n2 q => by
    unfold dAdd at q
    split at q
    · rename_i i j e1 e2
      cases rd_int e1
      cases rd_int e2
      cases n1
      cases n2
      exact .inl ⟨i, j, rfl, rfl, kE_now R (.int _) q⟩
    · rename_i i j e1 e2
      cases rd_tup e1
      cases rd_tup e2
      cases n1 with
      | tup s1 r1 z1 =>
        cases n2 with
        | tup s2 r2 z2 =>
          refine .inr (.inl ⟨_, _, _, _, rfl, rfl, SqT_mono R.sub s1.t, SqT_mono R.sub s2.t, by rw [r1.length, r2.length]; exact q.1, fun e => ?_, fun h1 e => ?_, fun _ _ => ?_⟩)
          · subst e
            cases r1
            exact kE_now R (.tup s2 r2 z2) q.2
          · subst e
            cases r2
            rw [List.append_nil] at q
            exact kE_now R (.tup s1 r1 z1) q.2
          · exact lay_tup R (r1.append r2) (by rw [List.length_append]; exact q.1) q.2
    · rename_i i j e1 e2
      obtain ⟨p1, xs, rfl, h1, r1, z1⟩ := rd_lst R n1 e1
      obtain ⟨p2, ys, rfl, h2, r2, z2⟩ := rd_lst R n2 e2
      exact .inr (.inr (.inl ⟨_, _, _, _, rfl, rfl, h1, h2, by rw [r1.length, r2.length]; exact q.1, lay_lst R (r1.append r2) (by rw [List.length_append]; exact q.1) q.2⟩))
    · rename_i i j e1 e2
      cases rd_str e1
      cases rd_str e2
      cases n1
      cases n2
      exact .inr (.inr (.inr ⟨i, j, rfl, rfl, q.1, kE_now R (.str _) q.2⟩))
    · exact q.elim
def kPy : Key → PyData
  | .inl i => .int i
  | .inr x => .str x
mutual
def D.py : D → PyData
  | .non => .none
  | .bl b => .bool b
  | .int i => .int i
  | .str s => .str s
  | .tup ds => .tuple (D.pyL ds)
  | .lst ds => .list (D.pyL ds)
  | .scr ds => .list (D.pyL ds)
  | .dct kvs => .dict (kvs.map fun p => (kPy p.1, kPy p.2))
  | .ref _ => .none
  | .fn _ _ _ => .none
  | .exc _ _ _ => .none
def D.pyL : List D → List PyData
  | [] => []
  | d :: r => d.py :: D.pyL r
end
mutual
/-- may be compared: no dict, no cell within, texts of right signs -/
def D.ok : D → Bool
  | .non => true
  | .bl _ => true
  | .int _ => true
  | .str s => PyData.canLay0 (.str s)
  | .tup ds => D.okL ds
  | .lst ds => D.okL ds
  | .scr _ => false
  | .dct _ => false
  | .ref _ => false
  | .fn _ _ _ => false
  | .exc _ _ _ => false
def D.okL : List D → Bool
  | [] => true
  | d :: r => d.ok && D.okL r
end
mutual
def D.dep : D → Nat
  | .tup ds => D.depL ds + 1
  | .lst ds => D.depL ds + 1
  | .scr ds => D.depL ds + 1
  | .non => 0
  | .bl _ => 0
  | .int _ => 0
  | .str _ => 0
  | .dct kvs => (PyData.dict (kvs.map fun p => (kPy p.1, kPy p.2))).depth
  | .ref _ => 0
  | .fn _ _ _ => 0
  | .exc _ _ _ => 0
def D.depL : List D → Nat
  | [] => 0
  | d :: r => max d.dep (D.depL r)
end
mutual
/-- Python's == -/
def D.eqv : D → D → Bool
  | .non, .non => true
  | .bl a, .bl b => a == b
  | .bl a, .int j => (if a then 1 else 0) == j
  | .int i, .bl b => i == (if b then 1 else 0)
  | .int i, .int j => i == j
  | .str x, .str y => x == y
  | .tup xs, .tup ys => D.eqvL xs ys
  | .lst xs, .lst ys => D.eqvL xs ys
  | _, _ => false
def D.eqvL : List D → List D → Bool
  | [], [] => true
  | x :: xs, y :: ys => D.eqv x y && D.eqvL xs ys
  | _, _ => false
end
mutual
theorem py_ok : ∀ d : D, d.ok = true → d.py.canLay0 = true
  | .non, _ => rfl
  | .bl _, _ => rfl
  | .int _, _ => rfl
  | .str s, h => h
  | .tup ds, h => by simp only [D.py, PyData.canLay0]; exact pyL_ok ds (by simpa only [D.ok] using h)
  | .lst ds, h => by simp only [D.py, PyData.canLay0]; exact pyL_ok ds (by simpa only [D.ok] using h)
  | .scr _, h => by simp [D.ok] at h
  | .dct _, h => by simp [D.ok] at h
  | .ref _, h => by simp [D.ok] at h
theorem pyL_ok : ∀ ds : List D, D.okL ds = true → PyData.canLayAll0 (D.pyL ds) = true
  | [], _ => rfl
  | d :: r, h => by
    simp only [D.okL, Bool.and_eq_true] at h
    simp only [D.pyL, PyData.canLayAll0, Bool.and_eq_true]
    exact ⟨py_ok d h.1, pyL_ok r h.2⟩
end
mutual
theorem py_dep : ∀ d : D, d.py.depth = d.dep
  | .non => rfl
  | .bl _ => rfl
  | .int _ => rfl
  | .str _ => rfl
  | .dct _ => rfl
  | .ref _ => rfl
  | .fn _ _ _ => rfl
  | .exc _ _ _ => rfl
  | .tup ds => by simp only [D.py, PyData.depth, D.dep]; rw [pyL_dep ds]
  | .lst ds => by simp only [D.py, PyData.depth, D.dep]; rw [pyL_dep ds]
  | .scr ds => by simp only [D.py, PyData.depth, D.dep]; rw [pyL_dep ds]
theorem pyL_dep : ∀ ds : List D, PyData.depthAll (D.pyL ds) = D.depL ds
  | [] => rfl
  | d :: r => by simp only [D.pyL, PyData.depthAll, D.depL]; rw [py_dep d, pyL_dep r]
end
mutual
theorem py_eqv : ∀ d e : D, d.ok = true → e.ok = true → PyData.eqv d.py e.py = D.eqv d e
  | .tup xs, .tup ys, h1, h2 => by
    simp only [D.py, PyData.eqv, D.eqv]
    exact pyL_eqv xs ys (by simpa only [D.ok] using h1) (by simpa only [D.ok] using h2)
  | .lst xs, .lst ys, h1, h2 => by
    simp only [D.py, PyData.eqv, D.eqv]
    exact pyL_eqv xs ys (by simpa only [D.ok] using h1) (by simpa only [D.ok] using h2)
  | .scr _, _, h, _ => by simp [D.ok] at h
  | _, .scr _, _, h => by simp [D.ok] at h
  | .dct _, _, h, _ => by simp [D.ok] at h
  | .ref _, _, h, _ => by simp [D.ok] at h
  | .fn _ _ _, _, h, _ => by simp [D.ok] at h
  | .exc _ _ _, _, h, _ => by simp [D.ok] at h
  | _, .dct _, _, h => by simp [D.ok] at h
  | _, .ref _, _, h => by simp [D.ok] at h
  | _, .fn _ _ _, _, h => by simp [D.ok] at h
  | _, .exc _ _ _, _, h => by simp [D.ok] at h
  | .non, .non, _, _ => rfl
  | .non, .bl _, _, _ => rfl
  | .non, .int _, _, _ => rfl
  | .non, .str _, _, _ => rfl
  | .non, .tup _, _, _ => by simp only [D.py, PyData.eqv, D.eqv]
  | .non, .lst _, _, _ => by simp only [D.py, PyData.eqv, D.eqv]
  | .bl _, .non, _, _ => rfl
  | .bl _, .bl _, _, _ => rfl
  | .bl _, .int _, _, _ => rfl
  | .bl _, .str _, _, _ => rfl
  | .bl _, .tup _, _, _ => by simp only [D.py, PyData.eqv, D.eqv]
  | .bl _, .lst _, _, _ => by simp only [D.py, PyData.eqv, D.eqv]
  | .int _, .non, _, _ => rfl
  | .int _, .bl _, _, _ => rfl
  | .int _, .int _, _, _ => rfl
  | .int _, .str _, _, _ => rfl
  | .int _, .tup _, _, _ => by simp only [D.py, PyData.eqv, D.eqv]
  | .int _, .lst _, _, _ => by simp only [D.py, PyData.eqv, D.eqv]
  | .str _, .non, _, _ => rfl
  | .str _, .bl _, _, _ => rfl
  | .str _, .int _, _, _ => rfl
  | .str _, .str _, _, _ => by simp only [D.py, PyData.eqv, D.eqv]
  | .str _, .tup _, _, _ => by simp only [D.py, PyData.eqv, D.eqv]
  | .str _, .lst _, _, _ => by simp only [D.py, PyData.eqv, D.eqv]
  | .tup _, .non, _, _ => by simp only [D.py, PyData.eqv, D.eqv]
  | .tup _, .bl _, _, _ => by simp only [D.py, PyData.eqv, D.eqv]
  | .tup _, .int _, _, _ => by simp only [D.py, PyData.eqv, D.eqv]
  | .tup _, .str _, _, _ => by simp only [D.py, PyData.eqv, D.eqv]
  | .tup _, .lst _, _, _ => by simp only [D.py, PyData.eqv, D.eqv]
  | .lst _, .non, _, _ => by simp only [D.py, PyData.eqv, D.eqv]
  | .lst _, .bl _, _, _ => by simp only [D.py, PyData.eqv, D.eqv]
  | .lst _, .int _, _, _ => by simp only [D.py, PyData.eqv, D.eqv]
  | .lst _, .str _, _, _ => by simp only [D.py, PyData.eqv, D.eqv]
  | .lst _, .tup _, _, _ => by simp only [D.py, PyData.eqv, D.eqv]
theorem pyL_eqv : ∀ ds es : List D, D.okL ds = true → D.okL es = true → PyData.eqvAll (D.pyL ds) (D.pyL es) = D.eqvL ds es
  | [], [], _, _ => by simp only [D.pyL, PyData.eqvAll, D.eqvL]
  | [], _ :: _, _, _ => by simp only [D.pyL, PyData.eqvAll, D.eqvL]
  | _ :: _, [], _, _ => by simp only [D.pyL, PyData.eqvAll, D.eqvL]
  | d :: r, e :: t, h1, h2 => by
    simp only [D.okL, Bool.and_eq_true] at h1 h2
    simp only [D.pyL, PyData.eqvAll, D.eqvL]
    rw [py_eqv d e h1.1 h2.1, pyL_eqv r t h1.2 h2.2]
end
end DL
namespace DL
open PySem PySem.Spec PyProof.Rows L2
variable [Bs]
section
variable {K : PySem.W.Frag} {io : List Addr} {F H : Hp} {st : Sto}
mutual
theorem den_dp (hs : ∀ a o, F a = some o → H a = some o) : ∀ {v : V} {d : D}, Den K io F v d → d.ok = true → Dp K H v d.py
  | _, _, .non, _ => by simp only [D.py]; exact .non
  | _, _, .bl b, _ => by simp only [D.py]; exact .bl b
  | _, _, .int i, _ => by simp only [D.py]; exact .int i
  | _, _, .str x, _ => by simp only [D.py]; exact .str x
  | _, _, .tup s r _, h => by simp only [D.py]; exact .tup (SqT_mono hs s.t) (den_dpL hs r (by simpa only [D.ok] using h))
  | _, _, .lst s r _, h => by simp only [D.py]; exact .lst (SqL.of (hs _ _ s)) (den_dpL hs r (by simpa only [D.ok] using h))
  | _, _, .scr s r _, h => by simp [D.ok] at h
  | _, _, .dct _, h => by simp [D.ok] at h
  | _, _, .ref _, h => by simp [D.ok] at h
  | _, _, .fn _ _, h => by simp [D.ok] at h
theorem den_dpL (hs : ∀ a o, F a = some o → H a = some o) : ∀ {vs : List V} {ds : List D}, DenL K io F vs ds → D.okL ds = true → DpAll K H vs (D.pyL ds)
  | _, _, .nil, _ => by simp only [D.pyL]; exact .nil
  | _, _, .cons a b, h => by
    simp only [D.okL, Bool.and_eq_true] at h
    simp only [D.pyL]
    exact .cons (den_dp hs a h.1) (den_dpL hs b h.2)
end
theorem rd_dp (R : RelH K H io F st) {v : V} {d : D} (n : Den K io F v d) (h : (rd st d).ok = true) : Dp K H v (rd st d).py := by
  cases e : rd st d with
  | lst ds =>
    obtain ⟨a, xs, rfl, h1, h2, h3⟩ := rd_lst R n e
    rw [e] at h
    simp only [D.py]
    exact .lst (SqL.of h1) (den_dpL R.sub h2 (by simpa only [D.ok] using h))
  | ref k => rw [e] at h; simp [D.ok] at h
  | non => cases rd_non e; exact den_dp R.sub n (by rw [e] at h; exact h)
  | bl b => cases rd_bl e; exact den_dp R.sub n (by rw [e] at h; exact h)
  | int i => cases rd_int e; exact den_dp R.sub n (by rw [e] at h; exact h)
  | str s => cases rd_str e; exact den_dp R.sub n (by rw [e] at h; exact h)
  | tup ds => cases rd_tup e; exact den_dp R.sub n (by rw [e] at h; exact h)
  | scr ds => rw [e] at h; simp [D.ok] at h
  | dct ds => rw [e] at h; simp [D.ok] at h
  | fn => rw [e] at h; simp [D.ok] at h
  | exc => rw [e] at h; simp [D.ok] at h
end
def dEqO (f : Bool → Bool) : R2D := fun a b st Q => (rd st a).ok = true ∧ (rd st b).ok = true ∧ min (rd st a).dep (rd st b).dep ≤ 60 ∧ Q (.bl (f ((rd st a).eqv (rd st b)))) st
/-- == : of two texts, or of two data -/
def dEqB (f : Bool → Bool) : R2D := fun a b st Q => (∃ x y, a = .str x ∧ b = .str y ∧ Q (.bl (f (x == y))) st) ∨ dEqO f a b st Q
abbrev dEq : R2D := dEqB fun b => b
abbrev dNe : R2D := dEqB fun b => !b
def rEqB (K : PySem.W.Frag) (f : Bool → Bool) : R2 := fun x y H Q => ∃ d e, Dp K H x d ∧ Dp K H y e ∧ d.canLay0 = true ∧ e.canLay0 = true ∧ min d.depth e.depth ≤ 60 ∧ Q (.bl (f (PyData.eqv d e))) H
theorem op_eqB {X : Cx} (hu : X.A.units + 64 < cLine) : OpR X (compareOp .Eq) (rEqB X.K fun b => b) := by
  intro pins s σ H x y v u Q I rx ry h
  obtain ⟨d, e, hd, he, sd, se, z, q⟩ := h
  obtain ⟨as, r1⟩ := Dp.reads I d x v hd rx
  obtain ⟨bs, r2⟩ := Dp.reads I e y u he ry
  exact SeqAt.compareEq_reads r1 r2 sd se (by omega) ⟨.bl _, H, I, rfl, q⟩
theorem op_neB {X : Cx} (hu : X.A.units + 64 < cLine) : OpR X (compareOp .NotEq) (rEqB X.K fun b => !b) := by
  intro pins s σ H x y v u Q I rx ry h
  obtain ⟨d, e, hd, he, sd, se, z, q⟩ := h
  obtain ⟨as, r1⟩ := Dp.reads I d x v hd rx
  obtain ⟨bs, r2⟩ := Dp.reads I e y u he ry
  exact SeqAt.compareNe_reads r1 r2 sd se (by omega) ⟨.bl _, H, I, rfl, q⟩
theorem z_eqO {K : PySem.W.Frag} {f : Bool → Bool} : Rz K (rEqB K f) (dEqO f) where
  mo := fun a b s Q Q' h ⟨h1, h2, h3, q⟩ => ⟨h1, h2, h3, h _ _ q⟩
  on := fun {H io F st x y a b Q} R n1 n2 ⟨h1, h2, h3, q⟩ => by
    refine ⟨_, _, rd_dp R n1 h1, rd_dp R n2 h2, py_ok _ h1, py_ok _ h2, by rw [py_dep, py_dep]; exact h3, ?_⟩
    rw [py_eqv _ _ h1 h2]
    exact kE_now R (.bl _) q
def rEqS (f : Bool → Bool) : R2 := fun x y H Q => scal x y = true ∧ Q (.bl (f (decide (x = y)))) H
theorem op_eqS {X : Cx} : OpR X (compareOp .Eq) (rEqS fun b => b) := op_eq
theorem op_neS {X : Cx} : OpR X (compareOp .NotEq) (rEqS fun b => !b) := op_ne
theorem op_eqC {X : Cx} (hu : X.A.units + 64 < cLine) : OpR X (compareOp .Eq) (fun x y H Q => rEqS (fun b => b) x y H Q ∨ rEqB X.K (fun b => b) x y H Q) := op_eqS.or (op_eqB hu)
theorem op_neC {X : Cx} (hu : X.A.units + 64 < cLine) : OpR X (compareOp .NotEq) (fun x y H Q => rEqS (fun b => !b) x y H Q ∨ rEqB X.K (fun b => !b) x y H Q) := op_neS.or (op_neB hu)
theorem z_eqB {K : PySem.W.Frag} {f : Bool → Bool} : Rz K (fun x y H Q => rEqS f x y H Q ∨ rEqB K f x y H Q) (dEqB f) where
  mo := fun a b s Q Q' h q => by
    rcases q with ⟨x, y, e1, e2, q⟩ | q
    · exact .inl ⟨x, y, e1, e2, h _ _ q⟩
    · exact .inr (z_eqO (K := K).mo _ _ _ _ _ h q)
  on := fun {H io F st x y a b Q} R n1 n2 q => by
    rcases q with ⟨x, y, rfl, rfl, q⟩ | q
    · cases n1
      cases n2
      refine .inl ⟨rfl, ?_⟩
      rw [dec_str]
      exact kE_now R (.bl _) q
    · exact .inr (z_eqO.on R n1 n2 q)
end DL
namespace DL
open PySem PySem.Spec PyProof.Rows L2
variable [Bs]
def D.ty : D → String
  | .non => "NoneType"
  | .bl _ => "bool"
  | .int _ => "int"
  | .str _ => "str"
  | .tup _ => "tuple"
  | .lst _ => "list"
  | .scr _ => "list"
  | .dct _ => "dict"
  | .ref _ => ""
  | .fn _ _ _ => ""
  | .exc _ _ _ => ""
def D.noRef : D → Prop
  | .ref _ => False
  | .fn _ _ _ => False
  | .exc _ _ _ => False
  | _ => True
def D.isa (T : String) : D → Bool
  | .bl _ => T == "bool" || T == "int"
  | d => d.ty == T
def wIsi (T : String) (we : DE) : DE := fun env st Q => we env st fun d s => d.noRef ∧ Q (.bl (d.isa T)) s
theorem CallR.or {X : Cx} {f : Value} {r r' : List V → Hp → VK → Prop} (h : CallR X f r) (h' : CallR X f r') : CallR X f (fun xs H Q => r xs H Q ∨ r' xs H Q) := by
  intro pins s σ H vs us Q I rv q
  rcases q with q | q
  · exact h pins s σ H vs us Q I rv q
  · exact h' pins s σ H vs us Q I rv q
def lenD (d : D) : Option Nat := match d with
  | .tup ds => some ds.length
  | .lst ds => some ds.length
  | .scr ds => some ds.length
  | .str z => if z.length ≤ sizeLine then some z.length else none
  | _ => none
def bLen : RLD := fun ds st Q => ∃ d n, ds = [d] ∧ lenD (rd st d) = some n ∧ Q (.int (n : Nat)) st
section
variable {K : PySem.W.Frag} {H : Hp} {io : List Addr} {F : Hp} {st : Sto} {Q : VK} {v : V} {d : D}
theorem DenL.one {vs : List V} (n : DenL K io F vs [d]) : ∃ v, vs = [v] ∧ Den K io F v d := by
  cases n with
  | cons a b => cases b; exact ⟨_, rfl, a⟩
theorem DenL.two {vs : List V} {e : D} (n : DenL K io F vs [d, e]) : ∃ v w, vs = [v, w] ∧ Den K io F v d ∧ Den K io F w e := by
  cases n with
  | cons a b =>
    cases b with
    | cons b c => cases c; exact ⟨_, _, rfl, a, b⟩
end
theorem z_len {X : Cx} : RzL X.K (fun xs H Q => (∃ p ys, xs = [.ref p] ∧ (SqL X.K H p ys ∨ SqT X.K H p ys) ∧ Q (.int ys.length) H) ∨ ∃ z, xs = [.str z] ∧ z.length ≤ sizeLine ∧ Q (.int z.length) H) bLen where
  mo := fun ds s Q Q' h ⟨d, n, e1, e2, q⟩ => ⟨d, n, e1, e2, h _ _ q⟩
  on := fun {H io F st vs ds Q} R nl ⟨d, n, e1, e2, q⟩ => by
    subst e1
    obtain ⟨v, rfl, n1⟩ := nl.one
    cases e : rd st d with
    | lst es =>
      obtain ⟨a, xs, rfl, h1, h2, h3⟩ := rd_lst R n1 e
      rw [e] at e2
      cases e2
      refine .inl ⟨a, xs, rfl, .inl (SqL.of h1), ?_⟩
      rw [h2.length]
      exact kE_now R (.int _) q
    | tup es =>
      rw [e] at e2
      cases e2
      cases rd_tup e
      cases n1 with
      | tup s r z =>
        refine .inl ⟨_, _, rfl, .inr (SqT_mono R.sub s.t), ?_⟩
        rw [r.length]
        exact kE_now R (.int _) q
    | scr es =>
      rw [e] at e2
      cases e2
      cases rd_scr e
      cases n1 with
      | scr s r z =>
        refine .inl ⟨_, _, rfl, .inl (SqL_mono R.sub s), ?_⟩
        rw [r.length]
        exact kE_now R (.int _) q
    | str z =>
      rw [e] at e2
      cases rd_str e
      cases n1
      unfold lenD at e2
      by_cases hz : z.length ≤ sizeLine
      · simp only [hz, if_true] at e2
        cases e2
        exact .inr ⟨z, rfl, hz, kE_now R (.int _) q⟩
      · simp only [hz, if_false] at e2
        cases e2
    | non => rw [e] at e2; cases e2
    | bl _ => rw [e] at e2; cases e2
    | int _ => rw [e] at e2; cases e2
    | dct _ => rw [e] at e2; cases e2
    | fn => rw [e] at e2; cases e2
    | exc => rw [e] at e2; cases e2
    | ref _ => rw [e] at e2; cases e2
def bAbs : RLD := fun ds st Q => ∃ i, ds = [.int i] ∧ Q (.int (if i < 0 then -i else i)) st
theorem z_abs {K : PySem.W.Frag} : RzL K (fun xs H Q => ∃ i, xs = [.int i] ∧ Q (.int (if i < 0 then -i else i)) H) bAbs where
  mo := fun ds s Q Q' h ⟨i, e, q⟩ => ⟨i, e, h _ _ q⟩
  on := fun R nl ⟨i, e, q⟩ => by
    subst e
    obtain ⟨v, rfl, n⟩ := nl.one
    cases n
    exact ⟨i, rfl, kE_now R (.int _) q⟩
def bMax2 : RLD := fun ds st Q => ∃ i j, ds = [.int i, .int j] ∧ Q (.int (if j > i then j else i)) st
def bMin2 : RLD := fun ds st Q => ∃ i j, ds = [.int i, .int j] ∧ Q (.int (if j < i then j else i)) st
theorem z_min2 {K : PySem.W.Frag} : RzL K (fun xs H Q => ∃ i j, xs = [.int i, .int j] ∧ Q (.int (if j < i then j else i)) H) bMin2 where
  mo := fun ds s Q Q' h ⟨i, j, e, q⟩ => ⟨i, j, e, h _ _ q⟩
  on := fun R nl ⟨i, j, e, q⟩ => by
    subst e
    obtain ⟨v, w, rfl, n, m⟩ := nl.two
    cases n
    cases m
    exact ⟨i, j, rfl, kE_now R (.int _) q⟩
def bInt : RLD := fun ds st Q => ∃ d, ds = [d] ∧ match d with
  | .int i => Q (.int i) st
  | .bl b => Q (.int (if b then 1 else 0)) st
  | _ => False
theorem z_int {K : PySem.W.Frag} : RzL K (fun xs H Q => (∃ i, xs = [.int i] ∧ Q (.int i) H) ∨ ∃ k, xs = [.bl k] ∧ Q (.int (if k then 1 else 0)) H) bInt where
  mo := fun ds s Q Q' h ⟨d, e, q⟩ => ⟨d, e, by cases d <;> first | exact h _ _ q | exact q⟩
  on := fun R nl ⟨d, e, q⟩ => by
    subst e
    obtain ⟨v, rfl, n⟩ := nl.one
    cases n <;> first
      | exact False.elim q
      | exact .inl ⟨_, rfl, kE_now R (.int _) q⟩
      | exact .inr ⟨_, rfl, kE_now R (.int _) q⟩
def D.ints : List D → Option (List Int)
  | [] => some []
  | .int i :: r => (D.ints r).map (i :: ·)
  | _ => none
theorem ints_eq : ∀ {ds : List D} {ns : List Int}, D.ints ds = some ns → ds = ns.map .int
  | [], ns, h => by cases h; rfl
  | .int i :: r, ns, h => by
    simp only [D.ints] at h
    cases e : D.ints r with
    | none => rw [e] at h; cases h
    | some ms =>
      rw [e] at h
      cases h
      rw [List.map_cons, ints_eq e]
theorem den_ints {K : PySem.W.Frag} {io : List Addr} {F : Hp} : ∀ {ns : List Int} {vs : List V}, DenL K io F vs (ns.map .int) → vs = ns.map V.int
  | [], _, .nil => rfl
  | n :: r, _, .cons a b => by cases a; rw [List.map_cons, den_ints b]
def bTuple : RLD := fun ds st Q => ∃ d es, ds = [d] ∧ (rd st d = .lst es ∨ rd st d = .tup es) ∧ Q (.tup es) st
theorem z_tuple {X : Cx} : RzL X.K (fun xs H Q => ∃ p ys, xs = [.ref p] ∧ ((SqL X.K H p ys ∧ XtK H Q ys) ∨ (SqT X.K H p ys ∧ Q (.ref p) H))) bTuple where
  mo := fun ds s Q Q' h ⟨d, es, e1, e2, q⟩ => ⟨d, es, e1, e2, h _ _ q⟩
  on := fun {H io F st vs ds Q} R n ⟨d, es, e1, e2, q⟩ => by
    subst e1
    obtain ⟨v, rfl, n1⟩ := n.one
    rcases e2 with e | e
    · obtain ⟨a, xs, rfl, h1, h2, h3⟩ := rd_lst R n1 e
      exact ⟨a, xs, rfl, .inl ⟨SqL.of h1, lay_tup R h2 h3 q⟩⟩
    · cases rd_tup e
      cases n1 with
      | tup s r z => exact ⟨_, _, rfl, .inr ⟨SqT_mono R.sub s.t, kE_now R (.tup s r z) q⟩⟩
def bList (m : Bool) : RLD := fun ds st Q => ∃ d es, ds = [d] ∧ (rd st d = .lst es ∨ rd st d = .tup es ∨ rd st d = .scr es) ∧ newL m es st Q
theorem z_list {X : Cx} {m : Bool} : RzL X.K (fun xs H Q => ∃ p ys, xs = [.ref p] ∧ (SqL X.K H p ys ∨ SqT X.K H p ys) ∧ ∀ l, H l = none → Q (.ref l) (upd H l (.lst ys))) (bList m) where
  mo := fun ds s Q Q' h ⟨d, es, e1, e2, q⟩ => ⟨d, es, e1, e2, newL_mo h q⟩
  on := fun {H io F st vs ds Q} R n ⟨d, es, e1, e2, q⟩ => by
    subst e1
    obtain ⟨v, rfl, n1⟩ := n.one
    rcases e2 with e | e | e
    · obtain ⟨a, xs, rfl, h1, h2, h3⟩ := rd_lst R n1 e
      exact ⟨a, xs, rfl, .inl (SqL.of h1), lay_new R h2 h3 q⟩
    · cases rd_tup e
      cases n1 with
      | tup s r z => exact ⟨_, _, rfl, .inr (SqT_mono R.sub s.t), lay_new R r z q⟩
    · cases rd_scr e
      cases n1 with
      | scr s r z => exact ⟨_, _, rfl, .inl (SqL_mono R.sub s), lay_new R r z q⟩
end DL
namespace DL
open PySem PySem.Spec PyProof.Rows L2
variable [Bs]
theorem atI_den {K : PySem.W.Frag} {io : List Addr} {F : Hp} {xs : List V} {ds : List D} {i : Int} {d : D} (r : DenL K io F xs ds) (h : atI ds i = some d) : ∃ v, atI xs i = some v ∧ Den K io F v d := by
  unfold atI at h ⊢
  rw [r.length]
  cases e : ixN ds.length i with
  | none => rw [e] at h; cases h
  | some j => rw [e] at h; exact r.get h
def dIx : R2D := fun a b st Q => ∃ i, b = .int i ∧ match rd st a with
  | .lst ds => ∃ d, atI ds i = some d ∧ Q d st
  | .tup ds => ∃ d, atI ds i = some d ∧ Q d st
  | .scr ds => ∃ d, atI ds i = some d ∧ Q d st
  | .str z => z.length ≤ sizeLine ∧ ∃ c, atI z.cps.toList i = some c ∧ Q (.str ⟨#[c]⟩) st
  | _ => False
theorem z_ix {X : Cx} : Rz X.K (rIx X.K) dIx where
  mo := fun a b s Q Q' h ⟨i, e, q⟩ => ⟨i, e, by
    split at q
    · exact ⟨q.choose, q.choose_spec.1, h _ _ q.choose_spec.2⟩
    · exact ⟨q.choose, q.choose_spec.1, h _ _ q.choose_spec.2⟩
    · exact ⟨q.choose, q.choose_spec.1, h _ _ q.choose_spec.2⟩
    · exact ⟨q.1, q.2.choose, q.2.choose_spec.1, h _ _ q.2.choose_spec.2⟩
    · exact q⟩
  on := fun {H io F st x y a b Q} R n1 n2 ⟨i, e, q⟩ => by
    subst e
    cases n2
    split at q
    · rename_i ds e
      obtain ⟨p, xs, rfl, h1, h2, h3⟩ := rd_lst R n1 e
      obtain ⟨d, h, q⟩ := q
      obtain ⟨v, h4, h5⟩ := atI_den h2 h
      exact .inl ⟨p, xs, i, v, rfl, rfl, SqL.of h1, h4, kE_now R h5 q⟩
    · rename_i ds e
      cases rd_tup e
      obtain ⟨d, h, q⟩ := q
      cases n1 with
      | tup s r z =>
        obtain ⟨v, h4, h5⟩ := atI_den r h
        exact .inr (.inl ⟨_, _, i, v, rfl, rfl, SqT_mono R.sub s.t, h4, kE_now R h5 q⟩)
    · rename_i ds e
      cases rd_scr e
      obtain ⟨d, h, q⟩ := q
      cases n1 with
      | scr s r z =>
        obtain ⟨v, h4, h5⟩ := atI_den r h
        exact .inl ⟨_, _, i, v, rfl, rfl, SqL_mono R.sub s, h4, kE_now R h5 q⟩
    · rename_i z e
      cases rd_str e
      obtain ⟨hz, c, h, q⟩ := q
      cases n1
      exact .inr (.inr ⟨z, i, c, rfl, rfl, hz, h, kE_now R (.str _) q⟩)
    · exact q.elim
section
variable {X : Cx} {pos p2 : Pos} {a b : Expr} {wa wb : DE}
theorem we_ix (ha : WE X a wa) (hb : WE X b wb) (hs : PlainIx b := by exact fun _ _ => rfl) : WE X (.Subscript a b pos) (wOp dIx wa wb) :=
  ⟨moOp (z_ix (X := X)).mo ha.mo hb.mo, PE_imp (pe_ix ix_seq ha.pe hb.pe hs) fun σ H Q h => tOp_of z_ix ha hb h⟩
def cutL {α : Type} (xs : List α) (lo hi : Option Int) : List α := (xs.drop (HT.sIx xs.length 0 lo)).take (HT.sIx xs.length xs.length hi - HT.sIx xs.length 0 lo)
theorem cutL_length {α : Type} (xs : List α) (lo hi : Option Int) : (cutL xs lo hi).length ≤ xs.length := by
  unfold cutL
  rw [List.length_take, List.length_drop]
  omega
theorem cut_den {K : PySem.W.Frag} {io : List Addr} {F : Hp} {xs : List V} {ds : List D} (r : DenL K io F xs ds) (lo hi : Option Int) : DenL K io F (cutV xs lo hi) (cutL ds lo hi) := by
  unfold cutV cutL
  rw [r.length]
  exact (r.drop _).take _
abbrev DO := En → Sto → (Option Int → Sto → Prop) → Prop
def MoO (w : DO) : Prop := ∀ (e : En) (s : Sto) (Q Q' : Option Int → Sto → Prop), (∀ d s, Q d s → Q' d s) → w e s Q → w e s Q'
def kO (K : PySem.W.Frag) (H : Hp) (io : List Addr) (F : Hp) (Q : Option Int → Hp → Prop) : Option Int → Sto → Prop := fun b st' => ∀ io' F' H', Stp H io F H' io' F' → RelH K H' io' F' st' → Q b H'
def tO (K : PySem.W.Frag) (w : DO) : TO := fun σ H Q => ∃ env io F st, Rel K σ H env io F st ∧ w env st (kO K H io F Q)
structure WO (X : Cx) (e : Option Expr) (w : DO) : Prop where
  mo : MoO w
  pe : PO X e (tO X.K w)
theorem PO_imp {e : Option Expr} {t t' : TO} (h : PO X e t) (i : ∀ σ H Q, t' σ H Q → t σ H Q) : PO X e t' := ⟨fun p s σ H Q I q => h.run p s σ H Q I (i σ H Q q)⟩
def oNo : DO := fun _ st Q => Q none st
def oPart (we : DE) : DO := fun env st Q => we env st fun d s => ∃ i, d = .int i ∧ Q (some i) s
theorem wo_none : WO X none oNo := ⟨fun _ _ _ _ h q => h _ _ q, PO_imp po_none fun σ H Q ⟨env, io, F, st, R, q⟩ => q _ _ _ Stp.refl R.toRelH⟩
theorem wo_some (ha : WE X a wa) : WO X (some a) (oPart wa) := by
  refine ⟨fun _ _ _ _ h q => ha.mo _ _ _ _ (fun _ _ ⟨i, e, q⟩ => ⟨i, e, h _ _ q⟩) q, PO_imp (po_some ha.pe) fun σ H Q ⟨env, io, F, st, R, q⟩ => ?_⟩
  refine tE_use ha.mo R q fun d s1 v io1 F1 H1 ⟨i, e, q1⟩ t1 R1 n1 => ?_
  subst e
  cases n1
  exact ⟨i, rfl, q1 _ _ _ t1 R1.toRelH⟩
def dSl (m : Bool) (a : D) (lo hi : Option Int) (st : Sto) (Q : DK) : Prop := match rd st a with
  | .lst ds => newL m (cutL ds lo hi) st Q
  | .scr ds => newL m (cutL ds lo hi) st Q
  | .tup ds => Q (.tup (cutL ds lo hi)) st
  | .str z => z.length ≤ sizeLine ∧ Q (.str (cutS z lo hi)) st
  | _ => False
def wSl (m : Bool) (wa : DE) (wl wh : DO) : DE := fun env st Q => wa env st fun a s1 => wl env s1 fun lo s2 => wh env s2 fun hi s3 => dSl m a lo hi s3 Q
theorem mo_dSl {m : Bool} {a : D} {lo hi : Option Int} {st : Sto} {Q Q' : DK} (h : ∀ d s, Q d s → Q' d s) (q : dSl m a lo hi st Q) : dSl m a lo hi st Q' := by
  unfold dSl at q ⊢
  split at q
  · exact newL_mo h q
  · exact newL_mo h q
  · exact h _ _ q
  · exact ⟨q.1, h _ _ q.2⟩
  · exact q
theorem cut_whole {α : Type} (xs : List α) (lo hi : Option Int) (h : HT.sIx xs.length 0 lo = 0 ∧ HT.sIx xs.length xs.length hi = xs.length) : cutL xs lo hi = xs := by
  unfold cutL
  rw [h.1, h.2, List.drop_zero, Nat.sub_zero, List.take_length]
theorem we_sl {m : Bool} {lo hi : Option Expr} {wl wh : DO} (ha : WE X a wa) (hl : WO X lo wl) (hh : WO X hi wh) : WE X (.Subscript a (.Slice lo hi none p2) pos) (wSl m wa wl wh) := by
  refine ⟨fun _ _ _ _ h q => ha.mo _ _ _ _ (fun _ _ q => hl.mo _ _ _ _ (fun _ _ q => hh.mo _ _ _ _ (fun _ _ q => mo_dSl h q) q) q) q, PE_imp (pe_slice (sl_list.or (sl_tupX.or sl_str)) ha.pe hl.pe hh.pe) fun σ H Q ⟨env, io, F, st, R, q⟩ => ?_⟩
  refine tE_use ha.mo R q fun d s1 v io1 F1 H1 q1 t1 R1 n1 => ?_
  refine ⟨env, io1, F1, s1, R1, hl.mo _ _ _ _ (fun l s2 q2 => ?_) q1⟩
  intro io2 F2 H2 t2 R2
  refine ⟨env, io2, F2, s2, R1.next t2 R2, hh.mo _ _ _ _ (fun u s3 q3 => ?_) q2⟩
  intro io3 F3 H3 t3 R3
  replace q3 := mo_dSl (fun d s => kE_later ((t1.trans t2).trans t3)) q3
  replace n1 := (t2.trans t3).den n1
  unfold dSl at q3
  split at q3
  · rename_i ds e
    obtain ⟨p, xs, rfl, h1, h2, h3⟩ := rd_lst R3 n1 e
    exact .inl ⟨p, xs, rfl, SqL.of h1, lay_new R3 (cut_den h2 _ _) (Nat.le_trans (cutL_length _ _ _) h3) q3⟩
  · rename_i ds e
    cases rd_scr e
    cases n1 with
    | scr s r z => exact .inl ⟨_, _, rfl, SqL_mono R3.sub s, lay_new R3 (cut_den r _ _) (Nat.le_trans (cutL_length _ _ _) z) q3⟩
  · rename_i ds e
    cases rd_tup e
    cases n1 with
    | tup s r z =>
      refine .inr (.inl ⟨_, _, rfl, SqT_mono R3.sub s.t, fun hw => ?_, fun _ => ?_⟩)
      · rw [r.length] at hw
        rw [cut_whole ds l u hw] at q3
        exact kE_now R3 (.tup s r z) q3
      · exact lay_tup R3 (cut_den r _ _) (Nat.le_trans (cutL_length _ _ _) z) q3
  · rename_i z e
    cases rd_str e
    cases n1
    exact .inr (.inr ⟨z, rfl, q3.1, kE_now R3 (.str _) q3.2⟩)
  · exact q3.elim
end
theorem nodup_at {io : List Addr} (h : io.Nodup) {i j : Nat} {a : Addr} (h1 : io[i]? = some a) (h2 : io[j]? = some a) : i = j := by
  obtain ⟨x1, e1⟩ := List.getElem?_eq_some_iff.mp h1
  obtain ⟨x2, e2⟩ := List.getElem?_eq_some_iff.mp h2
  exact (List.getElem_inj h).mp (e1.trans e2.symm)
section
variable {K : PySem.W.Frag} {io : List Addr} {F H : Hp} {st : Sto} {n : Nat} {a : Addr}
theorem RelH.write (R : RelH K H io F st) {c : Cel} {o : HO} (h : io[n]? = some a) (hf : F a = none) (hc : CelOk K (upd H a o) io F a c) : RelH K (upd H a o) io F (st.set n c) ∧ Stp H io F (upd H a o) io F := by
  have hmem := List.mem_of_getElem? h
  obtain ⟨o1, ho⟩ := R.there a hmem
  refine ⟨⟨fun b u e => ?_, by rw [List.length_set]; exact R.len, R.nd, fun b hb => ?_, fun m d b h1 h2 => ?_, fun q hq => ?_⟩, ⟨⟨[], by simp, fun _ h => by cases h⟩, fun _ _ h => h, fun b u e hn hb => ?_, fun b u e => ?_, fun _ _ h => .inl h⟩⟩
  · rw [upd_ne (fun z => by subst z; rw [hf] at e; cases e)]; exact R.sub _ _ e
  · by_cases z : b = a
    · subst z; exact ⟨_, upd_same⟩
    · rw [upd_ne z]; exact R.there b hb
  · by_cases z : m = n
    · subst z
      have hm : m < st.length := by rw [← R.len]; exact (List.getElem?_eq_some_iff.mp h).1
      rw [List.getElem?_set_self hm] at h1
      cases h1
      rw [h] at h2
      cases h2
      exact hc
    · rw [List.getElem?_set_ne (Ne.symm z)] at h1
      have ne : b ≠ a := fun q => by subst q; exact z (nodup_at R.nd h2 h)
      have := R.cel m d b h1 h2
      cases d with
      | lst ds => obtain ⟨q1, q2, vs, q3, q4⟩ := this; exact ⟨q1, q2, vs, by rw [upd_ne ne]; exact q3, q4⟩
      | dead => trivial
      | ins C fs => obtain ⟨q1, cc, dx, fv, qc, q3, q4⟩ := this; exact ⟨q1, cc, dx, fv, qc, by rw [upd_ne ne]; exact q3, q4⟩
      | dct b kvs => obtain ⟨q1, q2, u, q3, q4⟩ := this; exact ⟨q1, q2, u, by rw [upd_ne ne]; exact q3, q4⟩
  · obtain ⟨t1, t2, ps, t3, t4, t5⟩ := R.tab q hq
    exact ⟨t1, t2, ps, by rw [upd_ne (fun z => by rw [z] at t2; exact t2 hmem)]; exact t3, t4, t5⟩
  · rw [upd_ne (fun z => by subst z; exact hb hmem)]; exact e
  · by_cases z : b = a
    · subst z; exact ⟨_, upd_same⟩
    · rw [upd_ne z]; exact ⟨u, e⟩
theorem RelH.writeL (R : RelH K H io F st) {ds ds' : List D} {vs' : List V} (h : io[n]? = some a) (hn : st[n]? = some (.lst ds)) (r : DenL K io F vs' ds') (z : ds'.length ≤ sizeLine) : RelH K (upd H a (.lst vs')) io F (st.set n (.lst ds')) ∧ Stp H io F (upd H a (.lst vs')) io F :=
  R.write h (R.cel n _ a hn h).1 ⟨(R.cel n _ a hn h).1, z, vs', upd_same, r⟩
/-- a cell's list -/
theorem RelH.at (R : RelH K H io F st) {ds : List D} (h : io[n]? = some a) (hn : st[n]? = some (.lst ds)) : ∃ vs, H a = some (.lst vs) ∧ DenL K io F vs ds ∧ ds.length ≤ sizeLine := by
  obtain ⟨h1, h2, vs, h3, h4⟩ := R.cel n _ a hn h
  exact ⟨vs, h3, h4, h2⟩
end
abbrev RMD := D → List D → Sto → DK → Prop
structure RzM (K : PySem.W.Frag) (r : V → List V → Hp → VK → Prop) (f : RMD) : Prop where
  mo : ∀ d ds s Q Q', (∀ d s, Q d s → Q' d s) → f d ds s Q → f d ds s Q'
  on : ∀ {H io F st v vs d ds Q}, RelH K H io F st → Den K io F v d → DenL K io F vs ds → f d ds st (kE K H io F Q) → r v vs H Q
def wM (f : RMD) (wo : DE) (wa : DA) : DE := fun env st Q => wo env st fun d s1 => (∃ ds, rd s1 d = .lst ds) ∧ wa env s1 fun ds s2 => f d ds s2 Q
section
variable {X : Cx} {apos cpos : Pos} {o e : Expr} {es : List Expr} {wo : DE} {wa : DA} {name : Str} {id : String} {r : V → List V → Hp → VK → Prop} {f : RMD}
theorem moM (mo : MoE wo) (ma : MoA wa) (z : RzM X.K r f) : MoE (wM f wo wa) := fun _ _ _ _ h q => mo _ _ _ _ (fun _ _ ⟨t, q⟩ => ⟨t, ma _ _ _ _ (fun _ _ q => z.mo _ _ _ _ _ h q) q⟩) q
theorem tM_of {σ : L2.St} {H : Hp} {Q : VK} (ho : WE X o wo) (ma : MoA wa) (z : RzM X.K r f) (h : tE X.K (wM f wo wa) σ H Q) : tBM X.K "list" r (tE X.K wo) (tA X.K wa) σ H Q := by
  obtain ⟨env, io, F, st, R, q⟩ := h
  refine tE_use ho.mo R q fun d s1 v io1 F1 H1 ⟨⟨ds, e⟩, q1⟩ t1 R1 n1 => ?_
  obtain ⟨p, xs, rfl, h1, h2, h3⟩ := rd_lst R1.toRelH n1 e
  refine ⟨.inl ⟨rfl, _, SqL.of h1⟩, ?_⟩
  refine tA_use ma R1 q1 fun ds s2 vs io2 F2 H2 q2 t2 R2 n2 => ?_
  exact z.on R2.toRelH (t2.den n1) n2 (z.mo _ _ _ _ _ (fun _ _ => kE_later (t1.trans t2)) q2)
theorem we_m (slot : Slot "list" name id) (hty : typeOf (.builtin id) = pure (.type "method_descriptor")) (hm : MtR X id r) (z : RzM X.K r f) (ho : WE X o wo) (ha : WA X (e :: es) wa)
    (pe : ∀ {to : TE} {t : TA}, PE X o to → PA X (e :: es) t → PE X (.Call (.Attribute o name apos) (e :: es) [] cpos) (tBM X.K "list" r to t)) : WE X (.Call (.Attribute o name apos) (e :: es) [] cpos) (wM f wo wa) :=
  ⟨moM ho.mo ha.mo z, PE_imp (pe ho.pe ha.pe) fun σ H Q h => tM_of ho ha.mo z h⟩
end
def mAppend : RMD := fun d xs st Q => ∃ n ds x, d = .ref n ∧ xs = [x] ∧ st[n]? = some (.lst ds) ∧ ds.length < sizeLine ∧ Q .non (st.set n (.lst (ds ++ [x])))
theorem z_append {K : PySem.W.Frag} : RzM K rAppend mAppend where
  mo := fun _ _ _ _ _ h ⟨n, ds, x, e1, e2, e3, z, q⟩ => ⟨n, ds, x, e1, e2, e3, z, h _ _ q⟩
  on := fun {H io F st v vs d ds Q} R n1 n2 ⟨n, ds', x, e1, e2, e3, z, q⟩ => by
    subst e1 e2
    cases n1 with
    | ref h =>
      obtain ⟨y, rfl, ny⟩ := n2.one
      obtain ⟨xs, h1, h2, h3⟩ := R.at h e3
      obtain ⟨R', s⟩ := R.writeL (ds' := ds' ++ [x]) h e3 (h2.append (.cons ny .nil)) (by rw [List.length_append]; exact z)
      exact ⟨_, xs, y, rfl, rfl, h1, by rw [h2.length]; exact z, q _ _ _ _ s R' .non⟩
def mPopAt : RMD := fun d xs st Q => ∃ n ds i k x, d = .ref n ∧ xs = [.int i] ∧ st[n]? = some (.lst ds) ∧ -(2 ^ 63) ≤ i ∧ i < 2 ^ 63 ∧ ixN ds.length i = some k ∧ ds[k]? = some x ∧ Q x (st.set n (.lst (ds.eraseIdx k)))
theorem erase_le {α : Type} (xs : List α) (k : Nat) : (xs.eraseIdx k).length ≤ xs.length := by
  rw [List.length_eraseIdx]
  split <;> omega
theorem z_popAt {K : PySem.W.Frag} : RzM K rPopAt mPopAt where
  mo := fun _ _ _ _ _ h ⟨n, ds, i, k, x, e1, e2, e3, z1, z2, z3, z4, q⟩ => ⟨n, ds, i, k, x, e1, e2, e3, z1, z2, z3, z4, h _ _ q⟩
  on := fun {H io F st v vs d ds Q} R n1 n2 ⟨n, ds', i, k, x, e1, e2, e3, z1, z2, z3, z4, q⟩ => by
    subst e1 e2
    cases n1 with
    | ref h =>
      obtain ⟨y, rfl, ny⟩ := n2.one
      cases ny
      obtain ⟨xs, h1, h2, h3⟩ := R.at h e3
      obtain ⟨y, h4, h5⟩ := h2.get z4
      obtain ⟨R', s⟩ := R.writeL (ds' := ds'.eraseIdx k) h e3 (h2.erase k) (Nat.le_trans (erase_le _ _) h3)
      exact ⟨_, xs, i, k, y, rfl, rfl, h1, z1, z2, by rw [h2.length]; exact (ixN_seq z3).1, h4, q _ _ _ _ s R' (s.den h5)⟩
def gSet (wo wi : DE) : DG := fun d env st Q => wo env st fun o s1 => wi env s1 fun i s2 => ∃ n ds k j, o = .ref n ∧ i = .int k ∧ s2[n]? = some (.lst ds) ∧ ixN ds.length k = some j ∧ Q env (s2.set n (.lst (ds.set j d)))
section
variable {X : Cx} {pos : Pos} {o i : Expr} {wo wi : DE}
theorem wg_sub (ho : WE X o wo) (hi : WE X i wi)
    (ha : ∀ v, assign (.Subscript o i pos) X.env v = (do
      let ov ← holding [v] (eval o X.env)
      let iv ← holding [v, ov] (eval i X.env)
      standAt pos
      holding [v, ov, iv] (setItem ov iv v)
      release [v, ov, iv] []) := by intro _; rfl) : WG X (.Subscript o i pos) (gSet wo wi) := by
  refine ⟨fun _ _ _ _ _ h q => ho.mo _ _ _ _ (fun _ _ q => hi.mo _ _ _ _ (fun _ _ ⟨n, ds, k, j, e1, e2, e3, e4, q⟩ => ⟨n, ds, k, j, e1, e2, e3, e4, h _ _ q⟩) q) q, PG_imp (pg_sub ho.pe hi.pe set_list ha) fun v σ H Q ⟨d, env, io, F, st, R, n1, q⟩ => ?_⟩
  refine tE_use ho.mo R q fun o s1 vo io1 F1 H1 q1 t1 R1 no => ?_
  refine tE_use hi.mo R1 q1 fun ix s2 vi io2 F2 H2 q2 t2 R2 ni => ?_
  obtain ⟨n, ds, k, j, e1, e2, e3, e4, q2⟩ := q2
  subst e1 e2
  cases ni
  cases no with
  | ref h =>
    have h' := t2.ix _ _ h
    obtain ⟨xs, h1, h2, h3⟩ := R2.at h' e3
    obtain ⟨R', s⟩ := R2.writeL (ds' := ds.set j d) h' e3 (h2.setAt j ((t1.trans t2).den n1)) (by rw [List.length_set]; exact h3)
    exact ⟨_, xs, k, j, rfl, rfl, h1, by rw [h2.length]; exact e4, q2 _ _ _ _ ((t1.trans t2).trans s) (R2.next s R')⟩
end
end DL
namespace DL
open PySem PySem.Spec PyProof.Rows L2
variable [Bs]
section
variable {X : Cx} {pos spos : Pos} {elt tg iter : Expr} {ifs : List Expr} {scope : Scope} {own : List (Str × Nat)} {wi : DI} {t : Tg} {c : DT} {w : DE} {m : Bool}
theorem moComp (mi : MoI wi) (mc : MoT c) (mw : MoE w) {vs : List Nat} : MoE (wComp m wi t c w vs) := fun _ _ _ _ h q => mi _ _ _ _ (fun _ _ _ ⟨z, q⟩ => ⟨z, moCompL mc mw (fun _ _ q => newL_mo h q) _ _ _ q⟩) q
theorem we_lc (hc : X.calm = true) (hN : X.N.Nodup) (hi : WI X tg iter wi) (ok : BlkOk X.N X.env.scope scope own) (hv : ∀ i ∈ t.ix, i ∈ own.map (·.2))
    (hg : ∀ (s : Shared) (H : Hp) (C : Addr) (cl : List (Str × Addr)) (fp : List Addr), PG (X.blk s H scope (compEnvC scope cl C X.env) fp) tg (t.tg X.K))
    (ht : ∀ (s : Shared) (H : Hp) (C : Addr) (cl : List (Str × Addr)) (fp : List Addr), WTs (X.blk s H scope (compEnvC scope cl C X.env) fp) ifs c)
    (he : ∀ (s : Shared) (H : Hp) (C : Addr) (cl : List (Str × Addr)) (fp : List Addr), WE (X.blk s H scope (compEnvC scope cl C X.env) fp) elt w) (hs : ∀ x, foldedSetIterable iter X.env x = pure x := by intro _; rfl) :
    WE X (.ListComp elt [⟨tg, iter, ifs, 0⟩] scope pos) (wComp m wi t c w (own.map (·.2))) :=
  ⟨moComp hi.mo (ht X.s_0 X.H_0 0 [] []).mo (he X.s_0 X.H_0 0 [] []).mo, PE_imp (pe_lc hc hN hi.pe ok hg (fun s H C cl fp => (ht s H C cl fp).pe) (fun s H C cl fp => (he s H C cl fp).pe) hs) fun σ H Q h =>
    tLc_of hi.mo (ht X.s_0 X.H_0 0 [] []).mo (he X.s_0 X.H_0 0 [] []).mo hv h⟩
end
def startE (N : List Str) (ds : List D) : En := ds.map some ++ List.replicate (N.length - ds.length) none
omit [Bs] in
theorem start_rel {K : PySem.W.Frag} {H : Hp} {io : List Addr} {F : Hp} {st : Sto} {N : List Str} {vs : List V} {ds : List D} (R : RelH K H io F st) (n : DenL K io F vs ds) : @Rel ⟨H, io, F⟩ K (L2.start N vs) H (startE N ds) io F st :=
  letI : Bs := ⟨H, io, F⟩
  { R with
    bs := Stp.refl
    sl := by unfold L2.start startE; simp [n.length]
    slot := fun i d e => by
      unfold startE at e
      unfold L2.start
      by_cases hi : i < ds.length
      · rw [List.getElem?_append_left (by simpa using hi)] at e
        rw [List.getElem?_append_left (by rw [List.length_map, n.length]; exact hi)]
        rw [List.getElem?_map] at e ⊢
        cases q : ds[i]? with
        | none => rw [q] at e; cases e
        | some d' =>
          rw [q] at e
          cases e
          obtain ⟨v, h1, h2⟩ := n.get q
          exact ⟨v, by rw [h1]; rfl, h2⟩
      · rw [List.getElem?_append_right (by simpa using hi)] at e
        have := List.mem_of_getElem? e
        rw [List.mem_replicate] at this
        cases this.2 }
/-- how a body ends -/
def bodyEnds (post : D → Sto → Prop) : DEnds := ⟨fun _ st => post .non st, post, fun _ _ => False, fun _ _ => False⟩
section
variable {P : Program} {w : World} {K : PySem.W.Frag} {mg : Str → Option Value} {base : Heap}
omit [Bs] in
theorem fn_ok {x qual : Str} {st : Stmt} {f : Addr} {fd : FuncData} {N ps : List Str} {k : Nat} {S : Spec} {wb : DS} (F : Fun K x qual st f fd) (sc : FnScope N ps (defScope st)) (hn : S.n = ps.length)
    (body : ∀ [Bs] (cdv : Value) (A : Around) (outer : List Env) (s : Shared) (H : Hp) (E : XK), Room k (A.deeper (envOfC qual (defScope st) s.heap.objs.size f cdv)) → A.guards = some [] → WB (cxOf CX0 P w K mg base N qual (defScope st) f cdv A outer s H E).nox (defBody st) wb)
    (vc : ∀ g sto, (S.args g).length = S.n → S.pre g sto → wb (bodyEnds (S.post g sto)) (startE N (S.args g)) sto) : FnG P w K mg base CX0 (k + 1) f fd ps (spOf K S) := by
  refine fnG_of F sc (fun vs H Q E h => ?_) (fun cdv A outer s H vs Q E _ hr hgd h => ?_)
  · obtain ⟨g, io, Fz, sto, z, R, n, p, q⟩ := h
    rw [n.length, z, hn]
  · obtain ⟨g, io, Fz, sto, z, R, n, p, q⟩ := h
    letI : Bs := ⟨H, io, Fz⟩
    have B := body cdv A outer s H E hr hgd
    refine ⟨_, B.pe.nox, startE N (S.args g), io, Fz, sto, start_rel R n, B.mo (bodyEnds (S.post g sto)) _ _ _ ?_ (vc g sto z p)⟩
    refine ⟨fun e s h => ?_, fun d s h => ?_, fun e s h => h.elim, fun e s h => h.elim⟩
    · exact fun σ' io' F' H' t R' => q .non s h .non io' F' H' t R'.toRelH .non
    · exact q d s h
mutual
def D.blw (n : Nat) : D → Bool
  | .tup ds => D.blwL n ds
  | .lst ds => D.blwL n ds
  | .scr ds => D.blwL n ds
  | .ref k => decide (k < n)
  | .fn _ io0 _ => decide (0 < n ∧ io0.length ≤ n)
  | .exc _ _ ds => decide (0 < n) && D.blwL n ds
  | .non => true
  | .bl _ => true
  | .int _ => true
  | .str _ => true
  | .dct _ => true
def D.blwL (n : Nat) : List D → Bool
  | [] => true
  | d :: r => d.blw n && D.blwL n r
end
def Cel.blw (n : Nat) : Cel → Bool
  | .lst ds => D.blwL n ds
  | .dead => true
  | .ins _ fs => D.blwL n (fs.map (·.2))
  | .dct _ _ => true
mutual
theorem Den.cut {K : PySem.W.Frag} {io io' : List Addr} {F : Hp} (h : ∀ (n : Nat) a, n < io.length → io'[n]? = some a → io[n]? = some a) : ∀ {v : V} {d : D}, Den K io' F v d → d.blw io.length = true → Den K io F v d
  | _, _, .non, _ => .non
  | _, _, .bl b, _ => .bl b
  | _, _, .int i, _ => .int i
  | _, _, .str x, _ => .str x
  | _, _, .dct e, _ => .dct e
  | _, _, .tup s r z, b => .tup s (DenL.cut h r (by simpa only [D.blw] using b)) z
  | _, _, .lst s r z, b => .lst s (DenL.cut h r (by simpa only [D.blw] using b)) z
  | _, _, .scr s r z, b => .scr s (DenL.cut h r (by simpa only [D.blw] using b)) z
  | _, _, .ref e, b => .ref (h _ _ (by simpa only [D.blw, decide_eq_true_eq] using b) e)
  | _, _, .fn e1 e2, b => .fn (fun n a e => h n a (Nat.lt_of_lt_of_le (List.getElem?_eq_some_iff.mp e).1 (of_decide_eq_true (show decide (0 < io.length ∧ _) = true by simpa only [D.blw] using b)).2) (e1 n a e)) e2
  | _, _, .exc n e x a1 a2 r, b => .exc n e x a1 a2 (DenL.cut h r (by simp only [D.blw, Bool.and_eq_true] at b; exact b.2))
theorem DenL.cut {K : PySem.W.Frag} {io io' : List Addr} {F : Hp} (h : ∀ (n : Nat) a, n < io.length → io'[n]? = some a → io[n]? = some a) : ∀ {vs : List V} {ds : List D}, DenL K io' F vs ds → D.blwL io.length ds = true → DenL K io F vs ds
  | _, _, .nil, _ => .nil
  | _, _, .cons a b, q => by
    simp only [D.blwL, Bool.and_eq_true] at q
    exact .cons (Den.cut h a q.1) (DenL.cut h b q.2)
end
mutual
theorem Den.blw {K : PySem.W.Frag} {io : List Addr} {F : Hp} (h0 : 0 < io.length) : ∀ {v : V} {d : D}, Den K io F v d → d.blw io.length = true
  | _, _, .non => rfl
  | _, _, .bl b => rfl
  | _, _, .int i => rfl
  | _, _, .str x => rfl
  | _, _, .dct e => rfl
  | _, _, .tup s r z => by simpa only [D.blw] using DenL.blw h0 r
  | _, _, .lst s r z => by simpa only [D.blw] using DenL.blw h0 r
  | _, _, .scr s r z => by simpa only [D.blw] using DenL.blw h0 r
  | _, _, .ref e => by simpa only [D.blw, decide_eq_true_eq] using (List.getElem?_eq_some_iff.mp e).1
  | _, _, .exc n e x a1 a2 r => by
    simp only [D.blw, Bool.and_eq_true, decide_eq_true_eq]
    exact ⟨h0, DenL.blw h0 r⟩
  | _, _, @Den.fn _ _ _ _ io0 _ e1 _ => by
    simp only [D.blw, decide_eq_true_eq]
    rcases Nat.lt_or_ge io.length io0.length with q | q
    · have h1 : io0[io.length]? = some io0[io.length] := List.getElem?_eq_getElem q
      exact absurd (List.getElem?_eq_some_iff.mp (e1 _ _ h1)).1 (Nat.lt_irrefl _)
    · exact ⟨h0, q⟩
theorem DenL.blw {K : PySem.W.Frag} {io : List Addr} {F : Hp} (h0 : 0 < io.length) : ∀ {vs : List V} {ds : List D}, DenL K io F vs ds → D.blwL io.length ds = true
  | _, _, .nil => rfl
  | _, _, .cons a b => by simp only [D.blwL, Bool.and_eq_true]; exact ⟨Den.blw h0 a, DenL.blw h0 b⟩
end
theorem DenF.cut {K : PySem.W.Frag} {io io' : List Addr} {F : Hp} (h : ∀ (n : Nat) a, n < io.length → io'[n]? = some a → io[n]? = some a) : ∀ {vs : List (Str × V)} {ds : List (Str × D)}, DenF K io' F vs ds → D.blwL io.length (ds.map (·.2)) = true → DenF K io F vs ds
  | _, _, .nil, _ => .nil
  | _, _, .cons a b, q => by
    simp only [List.map_cons, D.blwL, Bool.and_eq_true] at q
    exact .cons ⟨a.1, a.2.cut h q.1⟩ (DenF.cut h b q.2)
theorem DenF.blw {K : PySem.W.Frag} {io : List Addr} {F : Hp} (h0 : 0 < io.length) : ∀ {vs : List (Str × V)} {ds : List (Str × D)}, DenF K io F vs ds → D.blwL io.length (ds.map (·.2)) = true
  | _, _, .nil => rfl
  | _, _, .cons a b => by simp only [List.map_cons, D.blwL, Bool.and_eq_true]; exact ⟨a.2.blw h0, DenF.blw h0 b⟩
/-- the end of a def that forgets its own cells: the cells that were there, and what is handed back, know nothing of them -/
def popEnds (n : Nat) (st0 : Sto) (post : D → Sto → Prop) : D → Sto → Prop := fun d st' => ∃ st1 ex, st' = st1 ++ ex ∧ st1.length = n ∧ d.blw n = true ∧ (∀ (i : Nat) c, st1[i]? = some c → st0[i]? = some c ∨ c.blw n = true) ∧ post d st1
theorem pop_rel {K : PySem.W.Frag} {H H' : Hp} {io io' : List Addr} {F F' : Hp} {st st1 ex : Sto} (R : RelH K H io F st) (t : Stp H io F H' io' F') (R' : RelH K H' io' F' (st1 ++ ex)) (hl : st1.length = st.length)
    (hb : ∀ (i : Nat) c, st1[i]? = some c → st[i]? = some c ∨ c.blw st.length = true) : RelH K H' io F' st1 ∧ Stp H io F H' io F' := by
  obtain ⟨more, em, hm⟩ := t.ext
  have cutH : ∀ (n : Nat) a, n < io.length → io'[n]? = some a → io[n]? = some a := fun n a h e => by
    rw [em, List.getElem?_append_left h] at e; exact e
  have mem' : ∀ a ∈ io, a ∈ io' := fun a h => by rw [em]; exact List.mem_append_left _ h
  refine ⟨⟨R'.sub, by rw [hl]; exact R.len, R.nd, fun a ha => R'.there a (mem' a ha), fun n c a h1 h2 => ?_, fun q hq => let ⟨t1, t2, r⟩ := R'.tab q hq; ⟨t1, fun h => t2 (mem' _ h), r⟩⟩, ⟨⟨[], by simp, fun _ h => by cases h⟩, t.fr, t.keep, t.dom, t.fnw⟩⟩
  have hn : n < st1.length := (List.getElem?_eq_some_iff.mp h1).1
  have q := R'.cel n c a (by rw [List.getElem?_append_left hn]; exact h1) (t.ix _ _ h2)
  have b : c.blw io.length = true := by
    rw [R.len]
    rcases hb n c h1 with e | e
    · have z := R.cel n c a e h2
      have h0 : 0 < io.length := Nat.lt_of_le_of_lt (Nat.zero_le _) (List.getElem?_eq_some_iff.mp h2).1
      rw [← R.len]
      cases c with
      | lst ds => obtain ⟨_, _, vs, _, z⟩ := z; exact z.blw h0
      | dead => rfl
      | ins C fs => obtain ⟨_, _, dx, fv, _, _, z⟩ := z; exact DenF.blw h0 z
      | dct b kvs => rfl
    · exact e
  cases c with
  | lst ds => obtain ⟨q1, q2, vs, q3, q4⟩ := q; exact ⟨q1, q2, vs, q3, q4.cut cutH b⟩
  | dead => trivial
  | ins C fs => obtain ⟨q1, cc, dx, fv, qc, q3, q4⟩ := q; exact ⟨q1, cc, dx, fv, qc, q3, DenF.cut cutH q4 b⟩
  | dct b kvs => exact q
omit [Bs] in
theorem fn_okP {x qual : Str} {st : Stmt} {f : Addr} {fd : FuncData} {N ps : List Str} {k : Nat} {S : Spec} {wb : DS} (F : Fun K x qual st f fd) (sc : FnScope N ps (defScope st)) (hn : S.n = ps.length)
    (body : ∀ [Bs] (cdv : Value) (A : Around) (outer : List Env) (s : Shared) (H : Hp) (E : XK), Room k (A.deeper (envOfC qual (defScope st) s.heap.objs.size f cdv)) → A.guards = some [] → WB (cxOf CX0 P w K mg base N qual (defScope st) f cdv A outer s H E).nox (defBody st) wb)
    (vc : ∀ g sto, (S.args g).length = S.n → S.pre g sto → wb (bodyEnds (popEnds sto.length sto (S.post g sto))) (startE N (S.args g)) sto) : FnG P w K mg base CX0 (k + 1) f fd ps (spOf K S) := by
  refine fnG_of F sc (fun vs H Q E h => ?_) (fun cdv A outer s H vs Q E _ hr hgd h => ?_)
  · obtain ⟨g, io, Fz, sto, z, R, n, p, q⟩ := h
    rw [n.length, z, hn]
  · obtain ⟨g, io, Fz, sto, z, R, n, p, q⟩ := h
    letI : Bs := ⟨H, io, Fz⟩
    have B := body cdv A outer s H E hr hgd
    refine ⟨_, B.pe.nox, startE N (S.args g), io, Fz, sto, start_rel R n, B.mo (bodyEnds (popEnds sto.length sto (S.post g sto))) _ _ _ ?_ (vc g sto z p)⟩
    have fin : ∀ {d : D} {s : Sto} {v : V} {io' : List Addr} {F' H' : Hp}, popEnds sto.length sto (S.post g sto) d s → Stp H io Fz H' io' F' → RelH K H' io' F' s → Den K io' F' v d → Q v H' := fun {d s v io' F' H'} h t R' nd => by
      obtain ⟨st1, ex, rfl, hl, hd, hb, h⟩ := h
      obtain ⟨R2, t2⟩ := pop_rel R t R' hl hb
      refine q d st1 h v io F' H' t2 R2 (nd.cut (fun n a h e => ?_) (by rw [R.len]; exact hd))
      obtain ⟨more, em, hm⟩ := t.ext
      rw [em, List.getElem?_append_left h] at e
      exact e
    refine ⟨fun e s h => ?_, fun d s h => ?_, fun e s h => h.elim, fun e s h => h.elim⟩
    · exact fun σ' io' F' H' t R' => fin h t R'.toRelH .non
    · exact fun v io' F' H' t R' nd => fin h t R' nd
end
end DL
namespace DL
open PySem PySem.Spec PyProof.Rows L2
variable [Bs]
def lexG (r : Int → Int → Bool) (z : Nat → Nat → Bool) : List Int → List Int → Bool
  | x :: xs, y :: ys => if x = y then lexG r z xs ys else r x y
  | xs, ys => z xs.length ys.length
theorem lexAt_shift (e r : Nat → Bool) (z : Bool) : ∀ (k i : Nat), Ob.lexAt e r z (i + 1) k = Ob.lexAt (fun j => e (j + 1)) (fun j => r (j + 1)) z i k
  | 0, i => rfl
  | k + 1, i => by rw [Ob.lexAt_succ, Ob.lexAt_succ, lexAt_shift e r z k (i + 1)]
theorem lexAt_G (r : Int → Int → Bool) (z : Nat → Nat → Bool) (hz : ∀ a b, z (a + 1) (b + 1) = z a b) : ∀ ns ms : List Int,
    Ob.lexAt (fun j => decide (ns.getD j 0 = ms.getD j 0)) (fun j => r (ns.getD j 0) (ms.getD j 0)) (z ns.length ms.length) 0 (min ns.length ms.length) = lexG r z ns ms
  | [], ms => by
    rw [show min ([] : List Int).length ms.length = 0 by simp]
    cases ms <;> rfl
  | x :: xs, [] => rfl
  | x :: xs, y :: ys => by
    rw [show min (x :: xs).length (y :: ys).length = min xs.length ys.length + 1 by simp only [List.length_cons]; omega, Ob.lexAt_succ, lexAt_shift]
    simp only [List.getD_cons_zero, List.getD_cons_succ, List.length_cons, hz]
    rw [lexAt_G r z hz xs ys]
    by_cases h : x = y
    · simp [lexG, h]
    · simp [lexG, h]
theorem lexG_lt : ∀ ns ms : List Int, lexG (fun x y => decide (x < y)) (fun a b => decide (a < b)) ns ms = HT.lexLt ns ms
  | [], [] => rfl
  | [], _ :: _ => by simp [lexG, HT.lexLt]
  | _ :: _, [] => by simp [lexG, HT.lexLt]
  | x :: xs, y :: ys => by simp only [lexG, HT.lexLt]; rw [lexG_lt xs ys]
theorem lexG_gt : ∀ ns ms : List Int, lexG (fun x y => decide (x > y)) (fun a b => decide (a > b)) ns ms = HT.lexLt ms ns
  | [], [] => rfl
  | [], _ :: _ => by simp [lexG, HT.lexLt]
  | _ :: _, [] => by simp [lexG, HT.lexLt]
  | x :: xs, y :: ys => by
    simp only [lexG, HT.lexLt]
    rw [lexG_gt xs ys]
    by_cases h : x = y
    · simp [h]
    · have h' : ¬ y = x := fun e => h e.symm
      simp [h, h']
theorem lexG_ge : ∀ ns ms : List Int, lexG (fun x y => decide (x ≥ y)) (fun a b => decide (a ≥ b)) ns ms = !HT.lexLt ns ms
  | [], [] => rfl
  | [], _ :: _ => by simp [lexG, HT.lexLt]
  | _ :: _, [] => by simp [lexG, HT.lexLt]
  | x :: xs, y :: ys => by
    simp only [lexG, HT.lexLt]
    rw [lexG_ge xs ys]
    by_cases h : x = y
    · simp [h]
    · simp only [h, if_false]
      by_cases q : x ≥ y
      · have : ¬ x < y := by omega
        simp [q, this]
      · have : x < y := by omega
        simp [q, this]
def rCmpT (K : PySem.W.Frag) (f : List Int → List Int → Bool) : R2 := fun x y H Q => ∃ (a b : Addr) (ns ms : List Int), x = .ref a ∧ y = .ref b ∧ SqT K H a (ns.map V.int) ∧ SqT K H b (ms.map V.int) ∧ Q (.bl (f ns ms)) H
theorem tupsOf {X : Cx} {pins : List (Addr × Obj)} {s : Shared} {σ : L2.St} {H : Hp} {a : Addr} {ns : List Int} (I : Inv X pins σ H s) (ha : SqT X.K H a (ns.map V.int)) :
    ∃ its : Array Value, s.heap.IsTuple a its ∧ its.size = ns.length ∧ ∀ j (h : j < its.size), ∃ t, its[j] = .int (ns.getD j 0) t := by
  obtain ⟨its, r1, p1, _⟩ := I.tuple ha
  have i1 : IntsAre its ns := Vals.ints r1
  exact ⟨its.toArray, p1, by rw [List.size_toArray]; exact i1.length, fun j h1 => PyProof.Rows.IntsAre.int_at i1 _ _ (by simp at h1; simp [h1])⟩
theorem op_cmpT {X : Cx} {op : CmpOp} (r : Int → Int → Bool) (z : Nat → Nat → Bool) (hz : ∀ a b, z (a + 1) (b + 1) = z a b) (hop : ∀ v u, compareOp op v u = richCompare op v u)
    (base : ∀ (A : Around) (s : Shared) (i j : Int) (t u : Tok), Ob.RcOp op A s (.int i t) (.int j u) (r i j))
    (tups : ∀ {A : Around} {s : Shared} {l b : Addr} {items items2 : Array Value} {e r : Nat → Bool}, s.heap.IsTuple l items → s.heap.IsTuple b items2 → A.units < cLine → (∀ j (h1 : j < items.size) (h2 : j < items2.size), SeqAt.EqAt A.in1 s items[j] items2[j] (e j)) →
      (∀ j (h1 : j < items.size) (h2 : j < items2.size), e j = false → Ob.RcOp op A.in1 s items[j] items2[j] (r j)) → Ob.RcOp op A s (.ref l) (.ref b) (Ob.lexAt e r (z items.size items2.size) 0 (min items.size items2.size)))
    (hu : X.A.units < cLine) : OpR X (compareOp op) (rCmpT X.K (lexG r z)) := by
  intro pins s σ H x y v u Q I rx ry h
  obtain ⟨a, b, ns, ms, rfl, rfl, ha, hb, q⟩ := h
  cases rx
  cases ry
  obtain ⟨its, p1, z1, g1⟩ := tupsOf I ha
  obtain ⟨its2, p2, z2, g2⟩ := tupsOf I hb
  have R := tups (e := fun j => decide (ns.getD j 0 = ms.getD j 0)) (r := fun j => r (ns.getD j 0) (ms.getD j 0)) p1 p2 hu (fun j h1 h2 => by
    obtain ⟨t, et⟩ := g1 j h1
    obtain ⟨t', et'⟩ := g2 j h2
    rw [et, et', ← Bool.beq_eq_decide_eq]
    exact SeqAt.EqAt.int_int _ _ _ _) (fun j h1 h2 _ => by
    obtain ⟨t, et⟩ := g1 j h1
    obtain ⟨t', et'⟩ := g2 j h2
    rw [et, et']
    exact base _ _ _ _ _ _)
  rw [z1, z2, lexAt_G r z hz] at R
  rw [hop]
  exact R X.prog X.w X.xe _ ⟨.bl _, H, I, rfl, q⟩
theorem op_ltD {X : Cx} (hu : X.A.units < cLine) : OpR X (compareOp .Lt) (fun x y H Q => rI0 (fun i j => .bl (decide (i < j))) x y H Q ∨ rCmpT X.K (lexG (fun x y => decide (x < y)) (fun a b => decide (a < b))) x y H Q) :=
  op_lt.or (op_cmpT _ (fun a b => decide (a < b)) (fun a b => by simp) (fun _ _ => rfl) (fun _ _ _ _ _ _ => Ob.RcOp.lt_int _ _ _ _) Ob.RcOp.tuples_lt hu)
theorem op_gtD {X : Cx} (hu : X.A.units < cLine) : OpR X (compareOp .Gt) (fun x y H Q => rI0 (fun i j => .bl (decide (j < i))) x y H Q ∨ rCmpT X.K (lexG (fun x y => decide (x > y)) (fun a b => decide (a > b))) x y H Q) :=
  op_gt.or (op_cmpT _ (fun a b => decide (a > b)) (fun a b => by simp) (fun _ _ => rfl) (fun _ _ _ _ _ _ => Ob.RcOp.gt_int _ _ _ _) Ob.RcOp.tuples_gt hu)
theorem op_geD {X : Cx} (hu : X.A.units < cLine) : OpR X (compareOp .GtE) (fun x y H Q => rI0 (fun i j => .bl (decide (j ≤ i))) x y H Q ∨ rCmpT X.K (lexG (fun x y => decide (x ≥ y)) (fun a b => decide (a ≥ b))) x y H Q) :=
  op_ge.or (op_cmpT _ (fun a b => decide (a ≥ b)) (fun a b => by simp) (fun _ _ => rfl) (fun _ _ _ _ _ _ => Ob.RcOp.ge_int _ _ _ _) Ob.RcOp.tuples_ge hu)
def dCmp (p : Int → Int → Bool) (f : List Int → List Int → Bool) : R2D := fun a b st Q => match a, b with
  | .int i, .int j => Q (.bl (p i j)) st
  | .tup x, .tup y => ∃ ns ms, D.ints x = some ns ∧ D.ints y = some ms ∧ Q (.bl (f ns ms)) st
  | _, _ => False
theorem z_cmp {K : PySem.W.Frag} {p : Int → Int → Bool} {f g : List Int → List Int → Bool} (h : ∀ ns ms, g ns ms = f ns ms) : Rz K (fun x y H Q => rI0 (fun i j => .bl (p i j)) x y H Q ∨ rCmpT K g x y H Q) (dCmp p f) where
  mo := fun a b s Q Q' h q => by
    unfold dCmp at q ⊢
    split at q
    · exact h _ _ q
    · obtain ⟨ns, ms, e1, e2, q⟩ := q; exact ⟨ns, ms, e1, e2, h _ _ q⟩
    · exact q
  on := fun {H io F st x y a b Q} R n1 n2 q => by
    unfold dCmp at q
    split at q
    · cases n1
      cases n2
      exact .inl ⟨_, _, rfl, rfl, kE_now R (.bl _) q⟩
    · obtain ⟨ns, ms, e1, e2, q⟩ := q
      cases ints_eq e1
      cases ints_eq e2
      cases n1 with
      | tup s1 r1 _ =>
        cases n2 with
        | tup s2 r2 _ =>
          rw [den_ints r1] at s1
          rw [den_ints r2] at s2
          refine .inr ⟨_, _, ns, ms, rfl, rfl, SqT_mono R.sub s1.t, SqT_mono R.sub s2.t, ?_⟩
          rw [h]
          exact kE_now R (.bl _) q
    · exact q.elim
def dLt : R2D := dCmp (fun i j => decide (i < j)) HT.lexLt
def dGt : R2D := dCmp (fun i j => decide (j < i)) fun ns ms => HT.lexLt ms ns
def dLe : R2D := dCmp (fun i j => decide (i ≤ j)) fun ns ms => !HT.lexLt ms ns
def dGe : R2D := dCmp (fun i j => decide (j ≤ i)) fun ns ms => !HT.lexLt ns ms
theorem z_lt {K : PySem.W.Frag} : Rz K (fun x y H Q => rI0 (fun i j => .bl (decide (i < j))) x y H Q ∨ rCmpT K (lexG (fun x y => decide (x < y)) (fun a b => decide (a < b))) x y H Q) dLt := z_cmp (p := fun i j => decide (i < j)) lexG_lt
theorem z_gt {K : PySem.W.Frag} : Rz K (fun x y H Q => rI0 (fun i j => .bl (decide (j < i))) x y H Q ∨ rCmpT K (lexG (fun x y => decide (x > y)) (fun a b => decide (a > b))) x y H Q) dGt := z_cmp (p := fun i j => decide (j < i)) lexG_gt
theorem z_ge {K : PySem.W.Frag} : Rz K (fun x y H Q => rI0 (fun i j => .bl (decide (j ≤ i))) x y H Q ∨ rCmpT K (lexG (fun x y => decide (x ≥ y)) (fun a b => decide (a ≥ b))) x y H Q) dGe := z_cmp (p := fun i j => decide (j ≤ i)) lexG_ge
mutual
/-- no list, no cell within; dicts are allowed -/
def D.okd : D → Bool
  | .non => true
  | .bl _ => true
  | .int _ => true
  | .str _ => true
  | .tup ds => D.okdL ds
  | .lst _ => false
  | .scr _ => false
  | .dct _ => true
  | .ref _ => false
  | .fn _ _ _ => false
  | .exc _ _ _ => false
def D.okdL : List D → Bool
  | [] => true
  | d :: r => d.okd && D.okdL r
end
mutual
inductive DpD (K : PySem.W.Frag) (H : Hp) : V → PyData → Prop
  | non : DpD K H .non .none
  | bl (b : Bool) : DpD K H (.bl b) (.bool b)
  | int (i : Int) : DpD K H (.int i) (.int i)
  | str (x : Str) : DpD K H (.str x) (.str x)
  | tup {a : Addr} {xs : List V} {ds : List PyData} : SqT K H a xs → DpDL K H xs ds → DpD K H (.ref a) (.tuple ds)
  | dct {a : Addr} {kvs : List (Key × Key)} : H a = some (.dK (kvs.map fun p => (p.1, kV p.2))) → DpD K H (.ref a) (.dict (kvs.map fun p => (kPy p.1, kPy p.2)))
inductive DpDL (K : PySem.W.Frag) (H : Hp) : List V → List PyData → Prop
  | nil : DpDL K H [] []
  | cons {v : V} {vs : List V} {d : PyData} {ds : List PyData} : DpD K H v d → DpDL K H vs ds → DpDL K H (v :: vs) (d :: ds)
end
theorem key_reads {h : Heap} {k : Key} {v : Value} (r : RelV (kV k) v) : Reads h v (kPy k) [] := by
  cases k with
  | inl i => obtain ⟨t, rfl⟩ := r; exact .int i t
  | inr x => obtain ⟨t, rfl⟩ := r; exact .str x t
theorem pairs_read {h : Heap} : ∀ (kvs : List (Key × Key)) (vs : List (Key × Value)), KV (kvs.map fun p => (p.1, kV p.2)) vs → PyProof.V.PairsRead h kPy vs (kvs.map fun p => (kPy p.1, kPy p.2)) []
  | [], vs, r => by rw [List.map_nil] at r; cases r; exact .nil
  | p :: kvs, vs, r => by
    rw [List.map_cons] at r
    cases r with
    | @cons a b as bs h1 t =>
      obtain ⟨b1, b2⟩ := b
      obtain ⟨e1, e2⟩ := h1
      subst e1
      exact .cons (as := []) (key_reads e2) (pairs_read kvs bs t)
section
variable {X : Cx} {pins : List (Addr × Obj)} {σ : L2.St} {H : Hp} {s : Shared}
mutual
theorem DpD.reads (I : Inv X pins σ H s) : ∀ {v : V} {d : PyData}, DpD X.K H v d → ∀ u : Value, RelV v u → ∃ as, Reads s.heap u d as ∧ sysModules ∉ as
  | _, _, .non, u, r => by cases r; exact ⟨_, .none, by simp⟩
  | _, _, .bl b, u, r => by cases r; exact ⟨_, .bool b, by simp⟩
  | _, _, .int i, u, r => by obtain ⟨t, rfl⟩ := r; exact ⟨_, .int i t, by simp⟩
  | _, _, .str x, u, r => by obtain ⟨t, rfl⟩ := r; exact ⟨_, .str x t, by simp⟩
  | _, _, .tup hs ha, u, r => by
    cases r
    obtain ⟨its, rv, ⟨o, ho, hc, n, hd⟩, _⟩ := I.tuple hs
    obtain ⟨as, hr, hn⟩ := DpDL.reads I ha its rv
    exact ⟨_, Reads.tuple ho hc hd hr, hn⟩
  | _, _, .dct e, u, r => by
    cases r
    obtain ⟨z, hs, vs, rk, hd⟩ := dk_of I.hok e
    refine ⟨_, PyProof.V.reads_dictOf (enc := kPy) (fun k key hk => key_reads (keyIs_rel hk)) hd (pairs_read _ vs rk), ?_⟩
    have hs := beq_eq_false_iff_ne.mp hs
    simp only [List.mem_singleton]
    exact fun z => hs z.symm
theorem DpDL.reads (I : Inv X pins σ H s) : ∀ {vs : List V} {ds : List PyData}, DpDL X.K H vs ds → ∀ us : List Value, Vals vs us → ∃ as, ReadsAll s.heap us ds as ∧ sysModules ∉ as
  | _, _, .nil, us, r => by cases r; exact ⟨_, .nil, by simp⟩
  | _, _, .cons h1 h2, us, r => by
    cases r with
    | cons r1 r2 =>
      obtain ⟨as, q1, n1⟩ := DpD.reads I h1 _ r1
      obtain ⟨bs, q2, n2⟩ := DpDL.reads I h2 _ r2
      exact ⟨_, .cons q1 q2, fun z => (List.mem_append.mp z).elim n1 n2⟩
end
end
section
variable {K : PySem.W.Frag} {io : List Addr} {F H : Hp}
mutual
theorem den_dpd (hs : ∀ a o, F a = some o → H a = some o) : ∀ {v : V} {d : D}, Den K io F v d → d.okd = true → DpD K H v d.py
  | _, _, .non, _ => by simp only [D.py]; exact .non
  | _, _, .bl b, _ => by simp only [D.py]; exact .bl b
  | _, _, .int i, _ => by simp only [D.py]; exact .int i
  | _, _, .str x, _ => by simp only [D.py]; exact .str x
  | _, _, .tup s r _, h => by simp only [D.py]; exact .tup (SqT_mono hs s.t) (den_dpdL hs r (by simpa only [D.okd] using h))
  | _, _, .dct e, _ => by simp only [D.py]; exact .dct (hs _ _ e)
  | _, _, .lst _ _ _, h => by simp [D.okd] at h
  | _, _, .scr _ _ _, h => by simp [D.okd] at h
  | _, _, .ref _, h => by simp [D.okd] at h
  | _, _, .fn _ _, h => by simp [D.okd] at h
theorem den_dpdL (hs : ∀ a o, F a = some o → H a = some o) : ∀ {vs : List V} {ds : List D}, DenL K io F vs ds → D.okdL ds = true → DpDL K H vs (D.pyL ds)
  | _, _, .nil, _ => .nil
  | _, _, .cons a b, h => by
    simp only [D.okdL, Bool.and_eq_true] at h
    exact .cons (den_dpd hs a h.1) (den_dpdL hs b h.2)
end
theorem rd_dpd {st : Sto} (R : RelH K H io F st) {v : V} {d : D} (n : Den K io F v d) (h : (rd st d).okd = true) : DpD K H v (rd st d).py := by
  have e : rd st d = d := by
    refine rd_not (fun ds e => ?_) fun n e => ?_ <;> (rw [e] at h; simp [D.okd] at h)
  rw [e] at h ⊢
  exact den_dpd R.sub n h
end
def rRepr (K : PySem.W.Frag) : List V → Hp → VK → Prop := fun xs H Q => ∃ x d, xs = [x] ∧ ((Dp K H x d ∧ d.canLay0 = true) ∨ DpD K H x d) ∧ d.showable = true ∧ d.depth ≤ 60 ∧ d.shown.length ≤ sizeLine ∧ Q (.str d.shown) H
theorem call_reprD {X : Cx} (hgd : X.A.guards = some []) (hu : X.A.units + 64 < cLine) : CallR X (.builtin "repr") (rRepr X.K) := by
  intro pins s σ H xs us Q I r h
  obtain ⟨x, d, rfl, hd, hs, hz, hl, q⟩ := h
  obtain ⟨u, rfl, ru⟩ := vals1 r
  have rd : ∃ as, Reads s.heap u d as ∧ (d.hasDict = true → sysModules ∉ as) := by
    rcases hd with ⟨hd, hc⟩ | hd
    · obtain ⟨as, rd⟩ := Dp.reads I d x u hd ru
      exact ⟨as, rd, PyData.noDict_hsm (PyData.hasDict_of_canLay d hc)⟩
    · obtain ⟨as, rd, n⟩ := DpD.reads I hd u ru
      exact ⟨as, rd, fun _ => n⟩
  obtain ⟨as, rd, hsm⟩ := rd
  cases x with
  | ref a =>
    cases ru
    exact repr_of_reads' rd hs hsm hgd (by omega) (fun b o e => e) (fun h' u tk hk => ⟨.str d.shown, H, I.kept hk, ⟨u, rfl⟩, q⟩) hl
  | non => cases ru; cases rd; exact PySem.P.repr_of_none ⟨.str _, H, I.tok _, ⟨_, rfl⟩, q⟩
  | bl b => cases ru; cases rd; exact PySem.P.repr_of_bool ⟨.str _, H, I.tok _, ⟨_, rfl⟩, q⟩
  | int i =>
    obtain ⟨t, rfl⟩ := ru
    cases rd
    exact PySem.P.repr_of_int (by simpa [PyData.showable] using hs) ⟨.str _, H, I.tok _, ⟨_, rfl⟩, q⟩
  | str z =>
    obtain ⟨t, rfl⟩ := ru
    cases rd
    exact PySem.P.repr_of_str ⟨.str _, H, I.tok _, ⟨_, rfl⟩, q⟩ hl
  | byt _ => rcases hd with ⟨hd, _⟩ | hd <;> cases hd
  | flt _ => rcases hd with ⟨hd, _⟩ | hd <;> cases hd
  | ty _ => rcases hd with ⟨hd, _⟩ | hd <;> cases hd
mutual
/-- all numbers below 10 ^ 12 -/
def D.sml : D → Bool
  | .non => true
  | .bl _ => true
  | .int i => decide (i.natAbs < 10 ^ 12)
  | .str s => PyData.leavesShort 13 (.str s)
  | .tup ds => D.smlL ds
  | .lst ds => D.smlL ds
  | .scr ds => D.smlL ds
  | .dct kvs => (PyData.dict (kvs.map fun p => (kPy p.1, kPy p.2))).leavesShort 13 && (PyData.dict (kvs.map fun p => (kPy p.1, kPy p.2))).showable
  | .ref _ => false
  | .fn _ _ _ => false
  | .exc _ _ _ => false
def D.smlL : List D → Bool
  | [] => true
  | d :: r => d.sml && D.smlL r
end
mutual
/-- how many things -/
def D.blk : D → Nat
  | .str s => s.cps.size
  | .tup ds => D.blkL ds
  | .lst ds => D.blkL ds
  | .scr ds => D.blkL ds
  | .non => 0
  | .bl _ => 0
  | .int _ => 0
  | .dct kvs => (PyData.dict (kvs.map fun p => (kPy p.1, kPy p.2))).bulk
  | .ref _ => 0
  | .fn _ _ _ => 0
  | .exc _ _ _ => 0
def D.blkL : List D → Nat
  | [] => 0
  | d :: r => d.blk + 1 + D.blkL r
end
mutual
theorem py_blk : ∀ d : D, d.py.bulk = d.blk
  | .non => rfl
  | .bl _ => rfl
  | .int _ => rfl
  | .str _ => rfl
  | .dct _ => rfl
  | .ref _ => rfl
  | .fn _ _ _ => rfl
  | .exc _ _ _ => rfl
  | .tup ds => by simp only [D.py, PyData.bulk, D.blk]; rw [pyL_blk ds]
  | .lst ds => by simp only [D.py, PyData.bulk, D.blk]; rw [pyL_blk ds]
  | .scr ds => by simp only [D.py, PyData.bulk, D.blk]; rw [pyL_blk ds]
theorem pyL_blk : ∀ ds : List D, PyData.bulkAll (D.pyL ds) = D.blkL ds
  | [] => rfl
  | d :: r => by simp only [D.pyL, PyData.bulkAll, D.blkL]; rw [py_blk d, pyL_blk r]
end
mutual
theorem py_short : ∀ d : D, d.sml = true → d.py.leavesShort 13 = true ∧ d.py.showable = true
  | .non, _ => ⟨rfl, rfl⟩
  | .bl _, _ => ⟨rfl, rfl⟩
  | .int i, h => by
    have h' : i.natAbs < 10 ^ 12 := by simpa [D.sml] using h
    refine ⟨?_, ?_⟩
    · simp only [D.py, PyData.leavesShort, decide_eq_true_eq]
      exact PyData.shown_int_le h'
    · simp only [D.py, PyData.showable, decide_eq_true_eq]
      have : i.natAbs.log2 ≤ 40 := by
        by_cases h0 : i.natAbs = 0
        · rw [h0]; decide
        · have : i.natAbs.log2 < 41 := (Nat.log2_lt h0).mpr (by omega)
          omega
      omega
  | .str s, h => ⟨by simpa [D.py, D.sml] using h, rfl⟩
  | .tup ds, h => by simp only [D.py, PyData.leavesShort, PyData.showable]; exact pyL_short ds (by simpa only [D.sml] using h)
  | .lst ds, h => by simp only [D.py, PyData.leavesShort, PyData.showable]; exact pyL_short ds (by simpa only [D.sml] using h)
  | .scr ds, h => by simp only [D.py, PyData.leavesShort, PyData.showable]; exact pyL_short ds (by simpa only [D.sml] using h)
  | .dct kvs, h => by
    simp only [D.sml, Bool.and_eq_true] at h
    exact h
  | .ref _, h => by simp [D.sml] at h
theorem pyL_short : ∀ ds : List D, D.smlL ds = true → PyData.leavesShortAll 13 (D.pyL ds) = true ∧ PyData.showableAll (D.pyL ds) = true
  | [], _ => ⟨rfl, rfl⟩
  | d :: r, h => by
    simp only [D.smlL, Bool.and_eq_true] at h
    have h1 := py_short d h.1
    have h2 := pyL_short r h.2
    simp only [D.pyL, PyData.leavesShortAll, PyData.showableAll, Bool.and_eq_true]
    exact ⟨⟨h1.1, h2.1⟩, h1.2, h2.2⟩
end
/-- may be shown -/
structure D.Fit (d : D) : Prop where
  ok : d.ok = true ∨ d.okd = true
  can : d.py.showable = true
  len : d.py.shown.length ≤ sizeLine
  dep : d.dep ≤ 60
theorem fit_mk' {d : D} (ok : d.ok = true ∨ d.okd = true) (sml : d.sml = true) (blk : d.blk ≤ 1000000) (dep : d.dep ≤ 60) : d.Fit := by
  have hs := py_short _ sml
  refine ⟨ok, hs.2, ?_, dep⟩
  refine PyData.shown_fits_bulk (B := 13) (by decide) (by decide) hs.1 ?_
  rw [py_blk]
  omega
theorem fit_mk {d : D} (ok : d.ok = true) (sml : d.sml = true) (blk : d.blk ≤ 1000000) (dep : d.dep ≤ 60) : d.Fit := fit_mk' (.inl ok) sml blk dep
def D.rep (d : D) : Str := d.py.shown
def bRepr : RLD := fun ds st Q => ∃ d, ds = [d] ∧ (rd st d).Fit ∧ Q (.str (rd st d).rep) st
theorem z_repr {K : PySem.W.Frag} : RzL K (rRepr K) bRepr where
  mo := fun ds s Q Q' h ⟨d, e, f, q⟩ => ⟨d, e, f, h _ _ q⟩
  on := fun {H io F st vs ds Q} R nl ⟨d, e, f, q⟩ => by
    subst e
    obtain ⟨v, rfl, n⟩ := nl.one
    exact ⟨v, _, rfl, f.ok.imp (fun ok => ⟨rd_dp R n ok, py_ok _ ok⟩) (fun ok => rd_dpd R n ok), f.can, by rw [py_dep]; exact f.dep, f.len, kE_now R (.str _) q⟩
theorem tup_mul_same (l : Addr) (items : Array Value) (n : Nat) (dd : Option Addr) (sl : Array (Option Value)) (x : Int) (u : Tok) (c0 : (decide (x < -(2 ^ 63)) || decide (x ≥ 2 ^ 63)) = false) (c1 : (items.isEmpty || x == 1) = true) :
    Meets (Builtin.«tuple.__mul__» ⟨[.ref l, .int x u], []⟩) (fun _ R s => s.heap.get? l = some { cls := .type "tuple", dict := dd, data := .seq items n, slots := sl } ∧ R (.ok (.ret (Value.ref l))) s) :=
  .of_wp fun prog w A R s h => by
    obtain ⟨hp, g, d, tk, os⟩ := s
    obtain ⟨hl, h⟩ := h
    have f1 := AutoSeq1.idx_int
    have hT : (⟨hp, g, d, tk, os⟩ : Shared).TypeIs (.ref l) "tuple" := ⟨_, hl, rfl⟩
    wp_walk using wpAny_loadPart' hl
    repeat (first
      | (refine wpAny_ite_false (decide_eq_false (by rw [c0]; exact Bool.false_ne_true)) ?_; wp_walk using wpAny_loadPart' hl)
      | (refine wpAny_ite_true (decide_eq_true c1) ?_; wp_walk using wpAny_loadPart' hl))
    exact ⟨_, rfl, h⟩
theorem tup_mul_none (l : Addr) (items : Array Value) (n : Nat) (dd : Option Addr) (sl : Array (Option Value)) (x : Int) (u : Tok) (c0 : (decide (x < -(2 ^ 63)) || decide (x ≥ 2 ^ 63)) = false) (c1 : (items.isEmpty || x == 1) = false) (c2 : (decide (x ≤ 0) || items.isEmpty) = true) :
    Meets (Builtin.«tuple.__mul__» ⟨[.ref l, .int x u], []⟩) (fun _ R s => s.heap.get? l = some { cls := .type "tuple", dict := dd, data := .seq items n, slots := sl } ∧
      R (.ok (.ret (Value.ref s.heap.objs.size))) { s with heap := s.heap.push { cls := Value.type "tuple", data := Data.seq #[] }, toks := s.toks }) :=
  .of_wp fun prog w A R s h => by
    obtain ⟨hp, g, d, tk, os⟩ := s
    obtain ⟨hl, h⟩ := h
    have f1 := AutoSeq1.idx_int
    wp_walk using wpAny_loadPart' hl
    repeat (first
      | (refine wpAny_ite_false (decide_eq_false (by rw [c0]; exact Bool.false_ne_true)) ?_; wp_walk using wpAny_loadPart' hl)
      | (refine wpAny_ite_false (decide_eq_false (by rw [c1]; exact Bool.false_ne_true)) ?_; wp_walk using wpAny_loadPart' hl)
      | (refine wpAny_ite_true (decide_eq_true c2) ?_; wp_walk using wpAny_loadPart' hl))
    exact ⟨_, rfl, h⟩
def rRep1 (K : PySem.W.Frag) : R2 := fun x y H Q => ∃ l k xs, x = .ref l ∧ y = .int k ∧ SqT K H l xs ∧ -(2 ^ 63) ≤ k ∧ k < 2 ^ 63 ∧ (((xs = [] ∨ k = 1) ∧ Q (.ref l) H) ∨ (xs ≠ [] ∧ k ≤ 0 ∧ XtK H Q []) ∨ (xs ≠ [] ∧ 2 ≤ k ∧ k ≤ 1000 ∧ xs.length ≤ 1000 ∧ XtK H Q (List.replicate k.toNat xs).flatten))
theorem op_rep1 {X : Cx} : OpR X (binaryOp .Mult) (rRep1 X.K) := by
  intro pins s σ H x y v u Q I rx ry h
  obtain ⟨l, k, xs, rfl, rfl, hT, k0, k1, h⟩ := h
  cases rx
  obtain ⟨t, rfl⟩ := ry
  obtain ⟨its, r, ⟨⟨cls, dd, data, sl⟩, ho, hc, n, hd⟩, hs⟩ := I.tuple hT
  simp only at hc hd
  subst hc hd
  have c0 : (decide (k < -(2 ^ 63)) || decide (k ≥ 2 ^ 63)) = false := by
    rw [decide_eq_false (by omega), decide_eq_false (by omega)] <;> rfl
  have emp : its.toArray.isEmpty = decide (xs = []) := by
    cases r with
    | nil => rfl
    | cons _ _ => rfl
  have road : ∀ {Q₁ : Value → Shared → Prop}, wpAny (model X.prog X.w) X.A (call (.builtin "tuple.__mul__") [.ref l, .int k t]) Q₁ X.xe s → wpAny (model X.prog X.w) X.A (binaryOp .Mult (.ref l) (.int k t)) Q₁ X.xe s := fun {Q₁} hq =>
    wpAny_binaryOp_repeat_ref (T := "tuple") (U := "int") (by decide) ⟨_, ho, rfl⟩ (fun s' => typeIs_int s' k t) noFill_tuple_mul F.fills_int_mul F.slot_int_rmul repeat_tuple F.slot_int_index.lookup
      (call_meets F.slot_int_rmul (typeIs_int s k t) F.entry_int_rmul (F.args_int_rmul_2 _ _) (int_rmul_tuple k t l its.toArray n dd sl) ⟨ho, rfl, ⟨_, ho, rfl⟩, hq⟩)
  rcases h with ⟨hk, q⟩ | ⟨hne, hk, q⟩ | ⟨hne, hk, hk2, hx, q⟩
  · refine road (call_meets F.slot_tuple_mul ⟨_, ho, rfl⟩ F.entry_tuple_mul (F.args_tuple_mul_2 _ _) (tup_mul_same l its.toArray n dd sl k t c0 ?_) ⟨ho, .ref l, H, I, rfl, q⟩)
    rw [emp]
    rcases hk with e | e
    · rw [decide_eq_true e]; rfl
    · subst e; exact Bool.or_true _
  · have e1 : (its.toArray.isEmpty || k == 1) = false := by
      rw [emp, decide_eq_false hne, Bool.false_or]
      exact beq_eq_false_iff_ne.mpr (by omega)
    refine road (call_meets F.slot_tuple_mul ⟨_, ho, rfl⟩ F.entry_tuple_mul (F.args_tuple_mul_2 _ _) (tup_mul_none l its.toArray n dd sl k t c0 e1 ?_) ⟨ho, ?_⟩)
    · rw [decide_eq_true hk]; rfl
    · exact new_tup (its := []) I (Nat.zero_le _) .nil q
  · have le := r.length
    have e0 : its.toArray.isEmpty = false := by rw [emp]; exact decide_eq_false hne
    have e1 : (its.toArray.isEmpty || k == 1) = false := by rw [e0, Bool.false_or]; exact beq_eq_false_iff_ne.mpr (by omega)
    have e2 : (decide (k ≤ 0) || its.toArray.isEmpty) = false := by rw [e0, Bool.or_false]; exact decide_eq_false (by omega)
    have mm : k.toNat * xs.length ≤ 1000 * 1000 := Nat.mul_le_mul (by omega) hx
    have sz : its.toArray.size = xs.length := by rw [List.size_toArray]; exact le.symm
    have ml : ((its.toArray.size : Nat) : Int) * k ≤ 1000000 := by
      rw [sz, show k = ((k.toNat : Nat) : Int) by omega, ← Int.natCast_mul, Nat.mul_comm]
      omega
    have fl : (List.replicate k.toNat its).flatten.length ≤ sizeLine := by rw [PyProof.Rows.lm_len_rep_flat, ← le, sizeLine_eq]; omega
    refine road (call_meets F.slot_tuple_mul ⟨_, ho, rfl⟩ F.entry_tuple_mul (F.args_tuple_mul_2 _ _) (tuple_mulW l its.toArray n dd sl k t c0 e1 e2 (by omega) (by unfold Builtin.Tuple.tupleTooMany; rw [sizeLine_eq]; exact decide_eq_false (by omega)) (by rw [size_rep, List.size_toArray]; exact fl)) ⟨ho, ?_⟩)
    rw [size_rep]
    exact new_tup I (by rw [PyProof.Rows.lm_len_rep_flat, sizeLine_eq]; omega) (r.rep k.toNat) q
def dMul : R2D := fun a b st Q => match rd st a, b with
  | .int i, .int j => CMul i j ∧ Q (.int (i * j)) st
  | .lst x, .int k => -(2 ^ 63) ≤ k ∧ k < 2 ^ 63 ∧ x.length * k.toNat ≤ sizeLine ∧ Q (.lst (List.replicate k.toNat x).flatten) st
  | .tup x, .int k => -(2 ^ 63) ≤ k ∧ k ≤ 1000 ∧ x.length ≤ 1000 ∧ Q (.tup (List.replicate k.toNat x).flatten) st
  | _, _ => False
def rMulD (K : PySem.W.Frag) : R2 := fun x y H Q => rI CMul (fun i j => .int (i * j)) x y H Q ∨ rRep x y H Q ∨ rRep1 K x y H Q
theorem op_mulD {X : Cx} : OpR X (binaryOp .Mult) (rMulD X.K) := op_mul.or (op_rep.or op_rep1)
theorem flat_len {α : Type} (x : List α) : ∀ n : Nat, (List.replicate n x).flatten.length = x.length * n
  | 0 => by simp
  | n + 1 => by rw [List.replicate_succ, List.flatten_cons, List.length_append, flat_len x n, Nat.mul_succ, Nat.add_comm]
theorem flat_nil {α : Type} : ∀ n : Nat, (List.replicate n ([] : List α)).flatten = []
  | 0 => rfl
  | n + 1 => by rw [List.replicate_succ, List.flatten_cons, flat_nil n]; rfl
theorem z_mul {X : Cx} : Rz X.K (rMulD X.K) dMul where
  mo := fun a b s Q Q' h q => by
    unfold dMul at q ⊢
    split at q
    · exact ⟨q.1, h _ _ q.2⟩
    · exact ⟨q.1, q.2.1, q.2.2.1, h _ _ q.2.2.2⟩
    · exact ⟨q.1, q.2.1, q.2.2.1, h _ _ q.2.2.2⟩
    · exact q
  on := fun {H io F st x y a b Q} R n1 n2 q => by
    unfold dMul at q
    split at q
    · rename_i i j e1
      cases rd_int e1
      cases n1
      cases n2
      exact .inl ⟨_, _, rfl, rfl, q.1, kE_now R (.int _) q.2⟩
    · rename_i xs k e1
      obtain ⟨p, vs, rfl, h1, h2, h3⟩ := rd_lst R n1 e1
      cases n2
      exact .inr (.inl ⟨p, k, vs, rfl, rfl, h1, q.1, q.2.1, by rw [h2.length]; exact q.2.2.1, lay_lst R (h2.flat _) (by rw [flat_len]; exact q.2.2.1) q.2.2.2⟩)
    · rename_i xs k e1
      cases rd_tup e1
      cases n2
      cases n1 with
      | @tup p vs _ s r z =>
        obtain ⟨q1, q2, q3, q⟩ := q
        have hz : (List.replicate k.toNat xs).flatten.length ≤ sizeLine := by
          rw [flat_len, sizeLine_eq]
          have : xs.length * k.toNat ≤ 1000 * 1000 := Nat.mul_le_mul q3 (by omega)
          omega
        by_cases hx : xs = []
        · subst hx
          cases r
          rw [flat_nil] at q
          exact .inr (.inr ⟨p, k, [], rfl, rfl, SqT_mono R.sub s.t, q1, by omega, .inl ⟨.inl rfl, kE_now R (.tup s .nil z) q⟩⟩)
        · have hv : vs ≠ [] := fun e => hx (by subst e; cases r; rfl)
          by_cases h1 : k = 1
          · subst h1
            have e : (List.replicate (1 : Int).toNat xs).flatten = xs := by simp
            rw [e] at q
            exact .inr (.inr ⟨p, 1, vs, rfl, rfl, SqT_mono R.sub s.t, by omega, by omega, .inl ⟨.inr rfl, kE_now R (.tup s r z) q⟩⟩)
          · by_cases h0 : k ≤ 0
            · have e : k.toNat = 0 := by omega
              rw [e] at q
              exact .inr (.inr ⟨p, k, vs, rfl, rfl, SqT_mono R.sub s.t, by omega, by omega, .inr (.inl ⟨hv, h0, lay_tup R .nil (Nat.zero_le _) q⟩)⟩)
            · exact .inr (.inr ⟨p, k, vs, rfl, rfl, SqT_mono R.sub s.t, by omega, by omega, .inr (.inr ⟨hv, by omega, q2, by rw [r.length]; exact q3, lay_tup R (r.flat _) hz q⟩)⟩)
    · exact q.elim
end DL
namespace DL
open PySem PySem.Spec PyProof.Rows L2
variable [Bs]
theorem bb_len : bootBuiltins "len" = some (.builtin "len") := by decide +kernel
theorem bb_abs : bootBuiltins "abs" = some (.builtin "abs") := by decide +kernel
theorem bb_repr : bootBuiltins "repr" = some (.builtin "repr") := by decide +kernel
theorem bb_min : bootBuiltins "min" = some (.builtin "min") := by decide +kernel
theorem bb_int : bootBuiltins "int" = some (.type "int") := by decide +kernel
theorem bb_str : bootBuiltins "str" = some (.type "str") := by decide +kernel
theorem bb_tuple : bootBuiltins "tuple" = some (.type "tuple") := by decide +kernel
theorem bb_list : bootBuiltins "list" = some (.type "list") := by decide +kernel
/-- a law's def, at the end -/
theorem law_end {K : PySem.W.Frag} {S : Spec} (hn : S.n = 1) (g : List Int → S.G) (ha : ∀ ns, S.args (g ns) = [.scr (ns.map .int)]) (hpre : ∀ ns : List Int, ns.length ≤ 63 → S.pre (g ns) []) (hpost : ∀ x st d st', S.post x st d st' → d = .bl true) (H : Hp) (a : Addr) (ns : List Int) (hl : ns.length ≤ 63) (hT : ∀ p ∈ tabCs K, H p.2 = some (.tbl #[])) (hS : SqL K H a (ns.map V.int)) :
    spOf K S [.ref a] H (fun v _ => v = .bl true) fun _ _ _ => False := by
  have den : ∀ ns : List Int, DenL K [] H (ns.map V.int) (ns.map D.int) := fun ns => by
    induction ns with
    | nil => exact .nil
    | cons n r ih => exact .cons (.int n) ih
  have hz : (ns.map D.int).length ≤ sizeLine := by rw [List.length_map, sizeLine_eq]; omega
  let F : Hp := fun b => match H b with
    | some (.tbl _) => none
    | o => o
  have fS : ∀ b o, F b = some o → H b = some o := fun b o e => by
    have e : (match H b with | some (.tbl _) => none | o => o) = some o := e
    split at e
    · cases e
    · exact e
  have fN : ∀ b o, H b = some o → (∀ ps, o ≠ .tbl ps) → F b = some o := fun b o e n => by
    show (match H b with | some (.tbl _) => none | o => o) = some o
    rw [e]
    cases o <;> first | rfl | exact absurd rfl (n _)
  have sq : SqL K F a (ns.map V.int) := by
    rcases hS with (h | ⟨o, h⟩) | h
    · exact .inl (.inl (fN _ _ h fun _ z => nomatch z))
    · exact .inl (.inr ⟨o, fN _ _ h fun _ z => nomatch z⟩)
    · exact .inr h
  have ht : ∀ p ∈ tabsOf K, F p.1 = none ∧ p.1 ∉ ([] : List Addr) ∧ ∃ ps, H p.1 = some (.tbl ps) ∧ TriplesOk ps.toList ∧ ∀ (pos : Pos) (cv : Value), codeAmong pos ps.toList = some cv → ∃ c, cv = .ref c ∧ F c = some (LamX.CodeO c p.2) := fun p hp => by
    obtain ⟨c, hc⟩ := tabs_cs hp
    have hH := hT _ hc
    refine ⟨?_, by simp, #[], hH, True.intro, fun pos cv h => ?_⟩
    · show (match H p.1 with | some (.tbl _) => none | o => o) = none
      have hH : H p.1 = some (.tbl #[]) := hH
      rw [hH]
    · have : codeAmong pos [] = some cv := h
      simp [codeAmong] at this
  have den : ∀ ns : List Int, DenL K [] F (ns.map V.int) (ns.map D.int) := fun ns => by
    induction ns with
    | nil => exact .nil
    | cons n r ih => exact .cons (.int n) ih
  refine ⟨g ns, [], F, [], by rw [ha, hn]; rfl, ⟨fS, rfl, List.nodup_nil, (fun _ h => nomatch h), (fun n c e h1 h2 => by simp at h1), ht⟩, by rw [ha]; exact .cons (.scr sq (den ns) hz) .nil, hpre ns hl, fun d st' h => ?_⟩
  · have e := hpost _ _ _ _ h
    subst e
    intro v io' F' H' s r n
    cases n
    rfl
end DL
namespace DL
open PySem PySem.Spec PyProof.Rows L2
variable [Bs]
theorem compL_inv {G : Sto → Prop} {t : Tg} {c : DT} {w : DE} {env : En} {Q : LK} {ds : List D} (I : Nat → Sto → List D → Prop)
    (step : ∀ i st acc d, I i st acc → ds[i]? = some d → ∀ R : Sto → List D → Prop, (∀ s a, I (i + 1) s a → R s a) → G st ∧ t.dg d env st fun e s => c e s fun b s1 => if b = true then w e s1 fun x s2 => R s2 (acc ++ [x]) else R s1 acc)
    (fin : ∀ st acc, I ds.length st acc → G st ∧ Q acc st) (st : Sto) (acc : List D) (h : I 0 st acc) : wCompL G t c w env ds st acc Q := by
  have key : ∀ (n i : Nat) (st : Sto) (acc : List D), i + n = ds.length → I i st acc → wCompL G t c w env (ds.drop i) st acc Q := fun n => by
    induction n with
    | zero =>
      intro i st acc e hI
      have e' : i = ds.length := by omega
      subst e'
      rw [List.drop_length]
      exact fin st acc hI
    | succ n ih =>
      intro i st acc e hI
      have hlt : i < ds.length := by omega
      rw [List.drop_eq_getElem_cons hlt]
      exact step i st acc _ hI (List.getElem?_eq_getElem hlt) (fun s a => wCompL G t c w env (ds.drop (i + 1)) s a Q) fun s a h => ih (i + 1) s a (by omega) h
  have := key ds.length 0 st acc (by omega) h
  rwa [List.drop_zero] at this
theorem forL_inv {G : Sto → Prop} {g : DG} {b : DS} {A : DEnds} {ds : List D} (I : Nat → En → Sto → Prop)
    (step : ∀ i env st d, I i env st → ds[i]? = some d → ∀ R : En → Sto → Prop, (∀ e s, I (i + 1) e s → R e s) → G st ∧ g d env st fun e s => b { nx := R, rt := A.rt, bk := A.nx, ct := R } e s)
    (fin : ∀ env st, I ds.length env st → G st ∧ A.nx env st) (env : En) (st : Sto) (h : I 0 env st) : wForL G g b A ds env st := by
  have key : ∀ (n i : Nat) (env : En) (st : Sto), i + n = ds.length → I i env st → wForL G g b A (ds.drop i) env st := fun n => by
    induction n with
    | zero =>
      intro i env st e hI
      have e' : i = ds.length := by omega
      subst e'
      rw [List.drop_length]
      exact fin env st hI
    | succ n ih =>
      intro i env st e hI
      have hlt : i < ds.length := by omega
      rw [List.drop_eq_getElem_cons hlt]
      exact step i env st _ hI (List.getElem?_eq_getElem hlt) (wForL G g b A (ds.drop (i + 1))) fun e s h => ih (i + 1) e s (by omega) h
  have := key ds.length 0 env st (by omega) h
  rwa [List.drop_zero] at this
/-- a comprehension that leaves the store, over encoded items -/
theorem compL_map {α : Type} {G : Sto → Prop} {t : Tg} {c : DT} {w : DE} {env : En} {Q : LK} {st : Sto} (enc : α → D) (f : α → Option D) (hG : G st) :
    ∀ (xs : List α) (acc : List D), (∀ x ∈ xs, ∀ R : Option D → Sto → Prop, R (f x) st → t.dg (enc x) env st fun e s => c e s fun b s1 => if b = true then w e s1 fun y s2 => R (some y) s2 else R none s1) →
    Q (acc ++ xs.filterMap f) st → wCompL G t c w env (xs.map enc) st acc Q
  | [], acc, _, q => ⟨hG, by simpa using q⟩
  | x :: xs, acc, step, q => by
    refine ⟨hG, step x List.mem_cons_self (fun o s => match o with | some y => wCompL G t c w env (xs.map enc) s (acc ++ [y]) Q | none => wCompL G t c w env (xs.map enc) s acc Q) ?_⟩
    cases e : f x with
    | some y =>
      refine compL_map enc f hG xs _ (fun z hz => step z (List.mem_cons_of_mem _ hz)) ?_
      rw [List.filterMap_cons, e] at q
      rwa [List.append_assoc]
    | none =>
      refine compL_map enc f hG xs _ (fun z hz => step z (List.mem_cons_of_mem _ hz)) ?_
      rw [List.filterMap_cons, e] at q
      exact q
theorem rangeD_at {lo : Int} {n i : Nat} {d : D} (h : (rangeD lo n)[i]? = some d) : i < n ∧ d = .int (lo + i) := by
  unfold rangeD at h
  rw [List.getElem?_map] at h
  cases e : (List.range n)[i]? with
  | none => rw [e] at h; cases h
  | some j =>
    rw [e] at h
    cases h
    obtain ⟨h1, h2⟩ := List.getElem?_eq_some_iff.mp e
    rw [List.length_range] at h1
    rw [List.getElem_range] at h2
    subst h2
    exact ⟨h1, rfl⟩
@[simp] theorem rangeD_len (lo : Int) (n : Nat) : (rangeD lo n).length = n := by simp [rangeD]
def rangeI (lo : Int) (n : Nat) : List Int := (List.range n).map fun (i : Nat) => lo + i
@[simp] theorem rangeI_len (lo : Int) (n : Nat) : (rangeI lo n).length = n := by simp [rangeI]
@[simp] theorem rd_int' (st : Sto) (i : Int) : rd st (.int i) = .int i := rfl
@[simp] theorem rd_bl' (st : Sto) (i : Bool) : rd st (.bl i) = .bl i := rfl
@[simp] theorem rd_str' (st : Sto) (i : Str) : rd st (.str i) = .str i := rfl
@[simp] theorem rd_tup' (st : Sto) (i : List D) : rd st (.tup i) = .tup i := rfl
@[simp] theorem rd_lst' (st : Sto) (i : List D) : rd st (.lst i) = .lst i := rfl
@[simp] theorem rd_scr' (st : Sto) (i : List D) : rd st (.scr i) = .scr i := rfl
@[simp] theorem rd_non' (st : Sto) : rd st .non = .non := rfl
theorem rd_ref' {st : Sto} {n : Nat} {ds : List D} (h : st[n]? = some (.lst ds)) : rd st (.ref n) = .lst ds := by
  unfold rd; simp only [h]
theorem atI_of {α : Type} {xs : List α} {i : Int} {x : α} (h0 : 0 ≤ i) (h : xs[i.toNat]? = some x) : atI xs i = some x := by
  have hl := (List.getElem?_eq_some_iff.mp h).1
  unfold atI ixN
  rw [if_pos h0, if_pos (by omega)]
  exact h
theorem atI_map {α β : Type} {f : α → β} {xs : List α} {i : Int} {x : α} (h : atI xs i = some x) : atI (xs.map f) i = some (f x) := by
  unfold atI at h ⊢
  rw [List.length_map]
  cases e : ixN xs.length i with
  | none => rw [e] at h; cases h
  | some j =>
    rw [e] at h
    show (xs.map f)[j]? = _
    rw [List.getElem?_map, show xs[j]? = some x from h]
    rfl
end DL
namespace DL
open PySem PySem.Spec PyProof.Rows L2
variable [Bs]
section
variable {C : Int → Int → Prop} {g : Int → Int → D} {i j : Int} {st : Sto} {Q : DK} {env : En} {a b : D} {ds es : List D}
theorem v_dI : dI C g (.int i) (.int j) st Q = (C i j ∧ Q (g i j) st) := propext ⟨fun ⟨_, _, e1, e2, c, q⟩ => by cases e1; cases e2; exact ⟨c, q⟩, fun ⟨c, q⟩ => ⟨_, _, rfl, rfl, c, q⟩⟩
theorem v_sub : dSub (.int i) (.int j) st Q = Q (.int (i - j)) st := by unfold dSub; rw [v_dI]; simp
theorem v_mod : dMod (.int i) (.int j) st Q = (0 < j ∧ Q (.int (i % j)) st) := v_dI
theorem v_fdiv : dFdiv (.int i) (.int j) st Q = ((0 < j ∧ j < 2 ^ 62) ∧ Q (.int (i / j)) st) := v_dI
theorem v_pow : dPow (.int i) (.int j) st Q = ((0 ≤ j ∧ j ≤ 1000000 ∧ i.natAbs < 2 ^ 64) ∧ Q (.int (i ^ j.toNat)) st) := v_dI
theorem v_iadd : dI T2 (fun i j => .int (i + j)) (.int i) (.int j) st Q = Q (.int (i + j)) st := by rw [v_dI]; simp
theorem v_add : dAdd (.int i) (.int j) st Q = Q (.int (i + j)) st := rfl
theorem v_addT : dAdd (.tup ds) (.tup es) st Q = (ds.length + es.length ≤ sizeLine ∧ Q (.tup (ds ++ es)) st) := rfl
theorem v_addL : dAdd (.lst ds) (.lst es) st Q = (ds.length + es.length ≤ sizeLine ∧ Q (.lst (ds ++ es)) st) := rfl
theorem v_mul : dMul (.int i) (.int j) st Q = (CMul i j ∧ Q (.int (i * j)) st) := rfl
theorem v_lt : dLt (.int i) (.int j) st Q = Q (.bl (decide (i < j))) st := rfl
theorem v_le : dLe (.int i) (.int j) st Q = Q (.bl (decide (i ≤ j))) st := rfl
theorem v_gt : dGt (.int i) (.int j) st Q = Q (.bl (decide (j < i))) st := rfl
theorem v_ge : dGe (.int i) (.int j) st Q = Q (.bl (decide (j ≤ i))) st := rfl
theorem v_eqO {f : Bool → Bool} (h : ∀ x, a ≠ .str x) : dEqB f a b st Q = dEqO f a b st Q := propext ⟨fun q => by rcases q with ⟨x, _, e, _⟩ | q; exact absurd e (h x); exact q, .inr⟩
theorem v_eqs {f : Bool → Bool} {x y : Str} (q : Q (.bl (f (x == y))) st) : dEqB f (.str x) (.str y) st Q := .inl ⟨x, y, rfl, rfl, q⟩
theorem v_eqi {f : Bool → Bool} : dEqB f (.int i) (.int j) st Q = Q (.bl (f (i == j))) st := by
  rw [v_eqO (a := .int i) (fun _ h => nomatch h)]
  unfold dEqO; simp [D.ok, D.dep, D.eqv]
theorem v_ixT : dIx (.tup ds) (.int i) st Q = ∃ d, atI ds i = some d ∧ Q d st := propext ⟨fun ⟨_, e, q⟩ => by cases e; exact q, fun q => ⟨_, rfl, q⟩⟩
theorem v_ixL : dIx (.lst ds) (.int i) st Q = ∃ d, atI ds i = some d ∧ Q d st := propext ⟨fun ⟨_, e, q⟩ => by cases e; exact q, fun q => ⟨_, rfl, q⟩⟩
theorem v_ixS : dIx (.scr ds) (.int i) st Q = ∃ d, atI ds i = some d ∧ Q d st := propext ⟨fun ⟨_, e, q⟩ => by cases e; exact q, fun q => ⟨_, rfl, q⟩⟩
theorem v_var {k : Nat} {d : D} (h : env[k]? = some (some d)) : wVar k env st Q = Q d st := propext ⟨fun ⟨e, h2, q⟩ => by rw [h] at h2; cases h2; exact q, fun q => ⟨_, h, q⟩⟩
theorem v_var0 {d : D} : wVar 0 (some d :: env) st Q = Q d st := v_var rfl
theorem v_varS {k : Nat} {x : Option D} : wVar (k + 1) (x :: env) st Q = wVar k env st Q := propext ⟨fun ⟨e, h2, q⟩ => ⟨e, by simpa using h2, q⟩, fun ⟨e, h2, q⟩ => ⟨e, by simpa using h2, q⟩⟩
theorem v_len {n : Nat} (h : lenD (rd st a) = some n) : bLen [a] st Q = Q (.int (n : Nat)) st := propext ⟨fun ⟨_, _, e, h2, q⟩ => by cases e; rw [h] at h2; cases h2; exact q, fun q => ⟨_, _, rfl, h, q⟩⟩
theorem v_lenT : bLen [.tup ds] st Q = Q (.int ds.length) st := v_len rfl
theorem v_lenL : bLen [.lst ds] st Q = Q (.int ds.length) st := v_len rfl
theorem v_lenS : bLen [.scr ds] st Q = Q (.int ds.length) st := v_len rfl
theorem v_abs : bAbs [.int i] st Q = Q (.int (if i < 0 then -i else i)) st := propext ⟨fun ⟨_, e, q⟩ => by cases e; exact q, fun q => ⟨_, rfl, q⟩⟩
theorem v_min2 : bMin2 [.int i, .int j] st Q = Q (.int (if j < i then j else i)) st := propext ⟨fun ⟨_, _, e, q⟩ => by cases e; exact q, fun q => ⟨_, _, rfl, q⟩⟩
theorem v_max2 : bMax2 [.int i, .int j] st Q = Q (.int (if j > i then j else i)) st := propext ⟨fun ⟨_, _, e, q⟩ => by cases e; exact q, fun q => ⟨_, _, rfl, q⟩⟩
theorem v_intI : bInt [.int i] st Q = Q (.int i) st := propext ⟨fun ⟨_, e, q⟩ => by cases e; exact q, fun q => ⟨_, rfl, q⟩⟩
theorem v_intB {c : Bool} : bInt [.bl c] st Q = Q (.int (if c then 1 else 0)) st := propext ⟨fun ⟨_, e, q⟩ => by cases e; exact q, fun q => ⟨_, rfl, q⟩⟩
theorem v_tupL (h : rd st a = .lst ds) : bTuple [a] st Q = Q (.tup ds) st := propext ⟨fun ⟨_, _, e, h2, q⟩ => by cases e; rw [h] at h2; rcases h2 with h2 | h2 <;> cases h2; exact q, fun q => ⟨_, _, rfl, .inl h, q⟩⟩
theorem v_tupl : bTuple [.lst ds] st Q = Q (.tup ds) st := v_tupL rfl
theorem v_tupT : bTuple [.tup ds] st Q = Q (.tup ds) st := propext ⟨fun ⟨_, _, e, h2, q⟩ => by cases e; rcases h2 with h2 | h2 <;> cases h2; exact q, fun q => ⟨_, _, rfl, .inr rfl, q⟩⟩
theorem v_bl {x : Bool} {P : Bool → Prop} : (∃ b, D.bl x = .bl b ∧ P b) = P x := propext ⟨fun ⟨_, e, q⟩ => by cases e; exact q, fun q => ⟨_, rfl, q⟩⟩
theorem v_in {x : Int} {P : Int → Prop} : (∃ b, D.int x = .int b ∧ P b) = P x := propext ⟨fun ⟨_, e, q⟩ => by cases e; exact q, fun q => ⟨_, rfl, q⟩⟩
theorem v_some {α : Type} {x : α} {P : α → Prop} : (∃ b, some x = some b ∧ P b) = P x := propext ⟨fun ⟨_, e, q⟩ => by cases e; exact q, fun q => ⟨_, rfl, q⟩⟩
theorem v_gTp {n : Nat} {gs : DGs} {Q : En → Sto → Prop} : gTp n gs (.tup ds) env st Q = (ds.length = n ∧ gs ds env st Q) := propext ⟨fun ⟨_, e, q⟩ => by cases e; exact q, fun q => ⟨_, rfl, q⟩⟩
theorem v_gCn {h : DG} {gs : DGs} {d : D} {Q : En → Sto → Prop} : gCn h gs (d :: ds) env st Q = h d env st fun e s => gs ds e s Q := propext ⟨fun ⟨_, _, e, q⟩ => by cases e; exact q, fun q => ⟨_, _, rfl, q⟩⟩
theorem v_gNl {Q : En → Sto → Prop} : gNl [] env st Q = Q env st := propext ⟨fun ⟨_, q⟩ => q, fun q => ⟨rfl, q⟩⟩
theorem v_newT : newL true ds st Q = Q (.ref st.length) (st ++ [.lst ds]) := rfl
theorem v_newF : newL false ds st Q = Q (.lst ds) st := rfl
theorem v_app {n : Nat} {d : D} (h : st[n]? = some (.lst ds)) : mAppend (.ref n) [d] st Q = (ds.length < sizeLine ∧ Q .non (st.set n (.lst (ds ++ [d])))) := propext ⟨fun ⟨_, _, _, e1, e2, e3, q⟩ => by cases e1; cases e2; rw [h] at e3; cases e3; exact q, fun q => ⟨_, _, _, rfl, rfl, h, q⟩⟩
theorem get_last {α : Type} (st : List α) (c : α) : (st ++ [c])[st.length]? = some c := by simp
theorem set_last {α : Type} (st : List α) (c e : α) : (st ++ [c]).set st.length e = st ++ [e] := by
  rw [List.set_append_right _ _ (Nat.le_refl _), Nat.sub_self]; rfl
theorem v_repr {d : D} : bRepr [d] st Q = ((rd st d).Fit ∧ Q (.str (rd st d).rep) st) := propext ⟨fun ⟨_, e, q⟩ => by cases e; exact q, fun q => ⟨_, rfl, q⟩⟩
theorem at0 {α : Type} {x : α} {xs : List α} : atI (x :: xs) 0 = some x := atI_of (by decide) rfl
theorem at1 {α : Type} {x y : α} {xs : List α} : atI (x :: y :: xs) 1 = some y := atI_of (by decide) rfl
theorem at2 {α : Type} {x y z : α} {xs : List α} : atI (x :: y :: z :: xs) 2 = some z := atI_of (by decide) rfl
theorem at3 {α : Type} {x y z u : α} {xs : List α} : atI (x :: y :: z :: u :: xs) 3 = some u := atI_of (by decide) rfl
theorem at4 {α : Type} {x y z u v : α} {xs : List α} : atI (x :: y :: z :: u :: v :: xs) 4 = some v := atI_of (by decide) rfl
end
theorem v_rg1 {a : DE} {env : En} {st : Sto} {R : GK} : iRange1 (wCons a wNil) env st R = a env st fun d s => ∃ j, d = .int j ∧ (-(2 ^ 62) ≤ j ∧ j < 2 ^ 62) ∧ R (rangeD 0 j.toNat) (fun _ => True) s := by
  unfold iRange1 wCons wNil
  congr 1
  funext d s
  exact propext ⟨fun ⟨j, e, h1, h2, q⟩ => by cases e; exact ⟨_, rfl, ⟨h1, h2⟩, q⟩, fun ⟨j, e, h, q⟩ => by cases e; exact ⟨_, rfl, h.1, h.2, q⟩⟩
theorem v_rg2 {a b : DE} {env : En} {st : Sto} {R : GK} : iRange2 (wCons a (wCons b wNil)) env st R = a env st fun d s => b env s fun e s => ∃ i, d = .int i ∧ ∃ j, e = .int j ∧ (-(2 ^ 62) ≤ i ∧ i < 2 ^ 62 ∧ -(2 ^ 62) ≤ j ∧ j < 2 ^ 62) ∧ R (rangeD i (j - i).toNat) (fun _ => True) s := by
  unfold iRange2 wCons wNil
  congr 1
  funext d s
  congr 1
  funext e s
  exact propext ⟨fun ⟨i, j, e, h, q⟩ => by cases e; exact ⟨_, rfl, _, rfl, h, q⟩, fun ⟨i, e, j, e2, h, q⟩ => by cases e; cases e2; exact ⟨_, _, rfl, h, q⟩⟩
theorem forL_foldN {α σ : Type} {G : Sto → Prop} {g : DG} {b : DS} {A : DEnds} (enc : α → D) (f : σ → α → σ) (Rp : Nat → σ → En → Sto → Prop) (N : Nat) :
    ∀ (xs : List α) (i : Nat) (s0 : σ) (env : En) (st : Sto), i + xs.length = N → (∀ i s x e st, i < N → x ∈ xs → Rp i s e st → ∀ R : En → Sto → Prop, (∀ e' st', Rp (i + 1) (f s x) e' st' → R e' st') → G st ∧ g (enc x) e st fun e s => b { nx := R, rt := A.rt, bk := A.nx, ct := R } e s) →
    (∀ e st, Rp N (xs.foldl f s0) e st → G st ∧ A.nx e st) → Rp i s0 env st → wForL G g b A (xs.map enc) env st
  | [], i, _, env, st, hN, _, fin, h => fin env st (by rw [List.length_nil] at hN; rw [← hN]; exact h)
  | x :: xs, i, s0, env, st, hN, step, fin, h => by
    rw [List.length_cons] at hN
    refine step i s0 x env st (by omega) List.mem_cons_self h (wForL G g b A (xs.map enc)) fun e' st' h' => ?_
    exact forL_foldN enc f Rp N xs (i + 1) (f s0 x) e' st' (by omega) (fun j s y e st hj hy => step j s y e st hj (List.mem_cons_of_mem _ hy)) fin h'
/-- a loop as a fold -/
theorem forL_fold {α σ : Type} {G : Sto → Prop} {g : DG} {b : DS} {A : DEnds} (enc : α → D) (f : σ → α → σ) (Rp : Nat → σ → En → Sto → Prop) (xs : List α) (s0 : σ) (env : En) (st : Sto)
    (step : ∀ i s x e st, i < xs.length → x ∈ xs → Rp i s e st → ∀ R : En → Sto → Prop, (∀ e' st', Rp (i + 1) (f s x) e' st' → R e' st') → G st ∧ g (enc x) e st fun e s => b { nx := R, rt := A.rt, bk := A.nx, ct := R } e s)
    (fin : ∀ e st, Rp xs.length (xs.foldl f s0) e st → G st ∧ A.nx e st) (h : Rp 0 s0 env st) : wForL G g b A (xs.map enc) env st :=
  forL_foldN enc f Rp xs.length xs 0 s0 env st (Nat.zero_add _) step fin h
end DL
namespace DL
open PySem PySem.Spec PyProof.Rows L2
variable [Bs]
def zipI (a b : D) (s : Sto) (R : GK) : Prop := match a, b with
  | .tup xs, .tup ys => R (zipD xs ys) (fun _ => True) s
  | .lst xs, .lst ys => R (zipD xs ys) (fun _ => True) s
  | .lst xs, .tup ys => R (zipD xs ys) (fun _ => True) s
  | .tup xs, .lst ys => R (zipD xs ys) (fun _ => True) s
  | _, _ => False
def iZip (wa wb : DE) : DI := fun env st R => wa env st fun a s1 => wb env s1 fun b s2 => zipI a b s2 R
theorem zipI_tup {xs ys : List D} {s : Sto} {R : GK} : zipI (.tup xs) (.tup ys) s R = R (zipD xs ys) (fun _ => True) s := rfl
theorem zipI_lt {xs ys : List D} {s : Sto} {R : GK} : zipI (.lst xs) (.tup ys) s R = R (zipD xs ys) (fun _ => True) s := rfl
theorem zipI_tl {xs ys : List D} {s : Sto} {R : GK} : zipI (.tup xs) (.lst ys) s R = R (zipD xs ys) (fun _ => True) s := rfl
theorem zipI_lst {xs ys : List D} {s : Sto} {R : GK} : zipI (.lst xs) (.lst ys) s R = R (zipD xs ys) (fun _ => True) s := rfl
end DL
namespace DL
open PySem PySem.Spec PyProof.Rows L2
variable [Bs]
def rgD (a b : Int) : List D := (List.range (b - a).toNat).map fun i => D.int (a + (i : Nat))
theorem rg_den {K : PySem.W.Frag} {io : List Addr} {F : Hp} (a b : Int) : DenL K io F (rgV a b) (rgD a b) := by
  unfold rgV rgD
  generalize List.range (b - a).toNat = l
  induction l with
  | nil => exact .nil
  | cons i r ih => exact .cons (.int _) ih
theorem rgD_len (a b : Int) : (rgD a b).length = (b - a).toNat := by unfold rgD; simp
theorem rgD_fit {a b : Int} (h : RgOk a b) : (rgD a b).length ≤ sizeLine := by
  rw [rgD_len, sizeLine_eq]
  have := h.2.2.2.2
  omega
def wRgL1 (m : Bool) (wa : DE) : DE := fun env st Q => wa env st fun d s => ∃ b, d = .int b ∧ RgOk 0 b ∧ newL m (rgD 0 b) s Q
def wRgL2 (m : Bool) (wa wb : DE) : DE := fun env st Q => wa env st fun d s => wb env s fun d2 s2 => ∃ a b, d = .int a ∧ d2 = .int b ∧ RgOk a b ∧ newL m (rgD a b) s2 Q
def wRgT1 (wa : DE) : DE := fun env st Q => wa env st fun d s => ∃ b, d = .int b ∧ RgOk 0 b ∧ Q (.tup (rgD 0 b)) s
def wRgT2 (wa wb : DE) : DE := fun env st Q => wa env st fun d s => wb env s fun d2 s2 => ∃ a b, d = .int a ∧ d2 = .int b ∧ RgOk a b ∧ Q (.tup (rgD a b)) s2
section
variable {X : Cx} {pos p pos' p' : Pos} {e e2 : Expr} {wa wb : DE} {m : Bool}
theorem we_rgT1 (hc : X.calm = true) (hl : Gl X "tuple") (hml : X.mg "tuple" = none) (hr : Gl X "range") (hmr : X.mg "range" = none) (ha : WE X e wa) (na : starEach [e] X.env = (false, eval e X.env) :: starEach [] X.env := by rfl)
    (nb : starEach [Expr.Call (.Name "range" p') [e] [] pos'] X.env = (false, eval (Expr.Call (.Name "range" p') [e] [] pos') X.env) :: starEach [] X.env := by rfl) : WE X (.Call (.Name "tuple" p) [.Call (.Name "range" p') [e] [] pos'] [] pos) (wRgT1 wa) := by
  refine ⟨fun _ _ _ _ i q => ha.mo _ _ _ _ (fun _ _ ⟨b, h1, h2, q⟩ => ⟨b, h1, h2, i _ _ q⟩) q, PE_imp (pe_tupRgX hc hl hml (prg_1 hr hmr ha.pe na) nb) fun σ H Q ⟨env, io, F, st, Rl, q⟩ => ?_⟩
  refine tE_use ha.mo Rl q fun d s1 v io1 F1 H1 ⟨b, eb, h1, q1⟩ t1 R1 n1 => ?_
  subst eb
  cases n1
  exact ⟨b, rfl, h1, lay_tup R1.toRelH (rg_den 0 b) (rgD_fit h1) (kE_later t1 q1)⟩
end
def repS (x : Str) (n : Int) : Str := ⟨(List.replicate n.toNat x.cps).foldl (· ++ ·) #[]⟩
def dMulS : R2D := fun a b st Q => ∃ z n, a = .str z ∧ b = .int n ∧ 2 ≤ n ∧ n ≤ 1000000 ∧ z.length ≠ 0 ∧ z.length * n.toNat ≤ sizeLine ∧ Q (.str (repS z n)) st
theorem v_mulS {x : Str} {k : Int} {st : Sto} {Q : DK} : dMulS (.str x) (.int k) st Q = (2 ≤ k ∧ k ≤ 1000000 ∧ x.length ≠ 0 ∧ x.length * k.toNat ≤ sizeLine ∧ Q (.str (repS x k)) st) :=
  propext ⟨fun ⟨_, _, e1, e2, h⟩ => by cases e1; cases e2; exact h, fun h => ⟨_, _, rfl, rfl, h⟩⟩
theorem v_rgx1 {n : Int} {P : Int → Prop} : (∃ b, D.int n = .int b ∧ P b) = P n := propext ⟨fun ⟨_, e, h⟩ => by cases e; exact h, fun h => ⟨_, rfl, h⟩⟩
theorem v_rgx2 {m n : Int} {P : Int → Int → Prop} : (∃ a b, D.int m = .int a ∧ D.int n = .int b ∧ P a b) = P m n := propext ⟨fun ⟨_, _, e, e2, h⟩ => by cases e; cases e2; exact h, fun h => ⟨_, _, rfl, rfl, h⟩⟩
def dRev (m : Bool) (a : D) (s : Sto) (Q : DK) : Prop := match rd s a with
  | .lst ds => newL m ds.reverse s Q
  | .tup ds => Q (.tup ds.reverse) s
  | _ => False
def wRevA (m : Bool) (wa : DE) : DE := fun env st Q => wa env st fun a s => dRev m a s Q
theorem v_revT {m : Bool} {ds : List D} {st : Sto} {Q : DK} : dRev m (.tup ds) st Q = Q (.tup ds.reverse) st := rfl
theorem v_revL {m : Bool} {ds : List D} {st : Sto} {Q : DK} : dRev m (.lst ds) st Q = newL m ds.reverse st Q := rfl
end DL
namespace DL
open PySem PySem.Spec PyProof.Rows L2
variable [Bs]
theorem PlainL.isList {h : Heap} {a : Addr} {its : Array Value} (p : PlainL h a its) : h.IsList a its := by
  obtain ⟨o, n, e, h1, h2, h3⟩ := p
  exact ⟨o, e, h1, n, h3⟩
def dEqE (f : Bool → Bool) : R2D := fun a b st Q => ∃ ds, rd st a = .lst ds ∧ rd st b = .lst [] ∧ Q (.bl (f ds.isEmpty)) st
theorem v_eqE {f : Bool → Bool} {ds : List D} {st : Sto} {Q : DK} : dEqE f (.lst ds) (.lst []) st Q = Q (.bl (f ds.isEmpty)) st :=
  propext ⟨fun ⟨_, e1, _, q⟩ => by cases e1; exact q, fun q => ⟨_, rfl, rfl, q⟩⟩
end DL
namespace DL
open PySem PySem.Spec PyProof.Rows L2
variable [Bs]
def IsKey (h : Heap) (v : Value) (x : Int) : Prop := ∃ a o t y n, v = .ref a ∧ h.get? a = some o ∧ o.cls = .type "tuple" ∧ o.data = .seq #[.int x t, y] n
theorem IsKey.keeps {h h' : Heap} {v : Value} {x : Int} (p : IsKey h v x) (k : ∀ b o, h.get? b = some o → o.cls = .type "tuple" → h'.get? b = some o) : IsKey h' v x := by
  obtain ⟨a, o, t, u, n, e, ho, hc, hd⟩ := p
  exact ⟨a, o, t, u, n, e, k _ _ ho hc, hc, hd⟩
end DL
namespace DL
open PySem PySem.Spec PyProof.Rows L2
variable [Bs]
theorem we_gtupE {X : Cx} {pos : Pos} {x : Str} {ds : List D} (hg : Gl X x) (h : ∃ a, X.mg x = some (.ref a) ∧ ∀ io F, Den X.K io F (.ref a) (.tup ds)) (hd : (x == ("__debug__" : Str)) = false := by decide) : WE X (.Name x pos) (wC (.tup ds)) := by
  obtain ⟨a, h1, h2⟩ := h
  exact we_gtup hg h1 h2 hd
theorem gtup_den {K : PySem.W.Frag} {a : Addr} {sl : Array (Option Value)} {its : Array Value} {n : Nat} (xs : List V) (ds : List D) (l : K.lookup a = some ⟨.type "tuple", none, .seq its n, sl⟩) (hv : Vals xs its.toList) (hd : ∀ io F, DenL K io F xs ds) (z : its.size ≤ sizeLine) (z2 : ds.length ≤ sizeLine) :
    ∀ io F, Den K io F (.ref a) (.tup ds) := fun io F => .tup (.inr ⟨_, its, n, l, rfl, rfl, z, hv, rfl⟩) (hd io F) z2
end DL
namespace DL
open PySem PySem.Spec PyProof.Rows L2
variable [Bs]
def bStr : RLD := fun ds st Q => ∃ i : Int, ds = [.int i] ∧ i.natAbs.log2 < 1920 ∧ Q (.str (toString i)) st
theorem z_str {K : PySem.W.Frag} : RzL K (fun xs H Q => ∃ i : Int, xs = [.int i] ∧ i.natAbs.log2 < 1920 ∧ Q (.str (toString i)) H) bStr where
  mo := fun ds s Q Q' h ⟨i, e, z, q⟩ => ⟨i, e, z, h _ _ q⟩
  on := fun R nl ⟨i, e, z, q⟩ => by
    subst e
    obtain ⟨v, rfl, n⟩ := nl.one
    cases n
    exact ⟨i, rfl, z, kE_now R (.str _) q⟩
end DL
namespace PySem.AutoSeq1
end PySem.AutoSeq1
namespace L2
open PySem PySem.Spec PyProof.Rows
end L2
namespace DL
open PySem PySem.Spec PyProof.Rows L2
variable [Bs]
def mJoin : RMD := fun d xs st Q => ∃ a e ys, d = .str a ∧ xs = [e] ∧ (rd st e = .lst (ys.map .str) ∨ rd st e = .tup (ys.map .str)) ∧ (ys.map (·.length)).sum + ys.length * a.length ≤ 16777216 ∧ Q (.str (Txt.join a ys)) st
def wMS (f : RMD) (wo we : DE) : DE := fun env st Q => wo env st fun d s1 => (∃ a, d = .str a) ∧ we env s1 fun e s2 => f d [e] s2 Q
theorem den_strs {K : PySem.W.Frag} {io : List Addr} {F : Hp} : ∀ {ys : List Str} {vs : List V}, DenL K io F vs (ys.map .str) → vs = ys.map V.str
  | [], _, .nil => rfl
  | y :: r, _, .cons a b => by cases a; rw [List.map_cons, den_strs b]
section
variable {X : Cx} {id : String} {name : Str} {r : V → List V → Hp → VK → Prop} {f : RMD} {o e : Expr} {apos pos : Pos} {wo we : DE}
theorem we_mS (z : RzM X.K r f) (slot : Slot "str" name id) (ty : typeOf (.builtin id) = pure (.type "method_descriptor")) (rule : MtR X id r) (ho : WE X o wo) (he : WE X e we)
    (hs : starEach [e] X.env = [(false, eval e X.env)] := by rfl) (hbase : attributeBase o name X.env (eval o X.env) = eval o X.env := by rfl) (hline : (apos.endLine == pos.line) = true := by rfl) :
    WE X (.Call (.Attribute o name apos) [e] [] pos) (wMS f wo we) := by
  refine ⟨fun _ _ _ _ h q => ho.mo _ _ _ _ (fun _ _ ⟨t, q⟩ => ⟨t, he.mo _ _ _ _ (fun _ _ q => z.mo _ _ _ _ _ h q) q⟩) q, PE_imp (pe_m1 slot ty rule ho.pe he.pe hs hbase hline) fun σ H Q ⟨env, io, F, st, R, q⟩ => ?_⟩
  refine tE_use ho.mo R q fun d s1 v io1 F1 H1 ⟨⟨a, ea⟩, q1⟩ t1 R1 n1 => ?_
  subst ea
  have ev : v = .str a := by cases n1; rfl
  refine ⟨⟨a, ev⟩, ?_⟩
  refine tE_use he.mo R1 q1 fun d2 s2 v2 io2 F2 H2 q2 t2 R2 n2 => ?_
  exact z.on R2.toRelH (t2.den n1) (.cons n2 .nil) (z.mo _ _ _ _ _ (fun _ _ => kE_later (t1.trans t2)) q2)
theorem z_join : RzM X.K (fun x xs H Q => ∃ a p, ∃ ys : List Str, x = .str a ∧ xs = [.ref p] ∧ (SqL X.K H p (ys.map V.str) ∨ SqT X.K H p (ys.map V.str)) ∧ (ys.map (·.length)).sum + ys.length * a.length ≤ 16777216 ∧ Q (.str (Txt.join a ys)) H) mJoin where
  mo := fun d xs s Q Q' h ⟨a, e, ys, e1, e2, e3, z, q⟩ => ⟨a, e, ys, e1, e2, e3, z, h _ _ q⟩
  on := fun {H io F st x vs d ds Q} R n1 n2 ⟨a, e, ys, e1, e2, e3, z, q⟩ => by
    subst e1 e2
    cases n1
    obtain ⟨v, rfl, n⟩ := n2.one
    rcases e3 with e3 | e3
    · obtain ⟨p, xs, rfl, h1, h2, _⟩ := rd_lst R n e3
      rw [den_strs h2] at h1
      exact ⟨a, p, ys, rfl, rfl, .inl (SqL.of h1), z, kE_now R (.str _) q⟩
    · cases rd_tup e3
      cases n with
      | @tup p xs _ s r z2 =>
        have := den_strs r
        subst this
        exact ⟨a, p, ys, rfl, rfl, .inr (SqT_mono R.sub s.t), z, kE_now R (.str _) q⟩
def bStrX : RLD := fun ds st Q => (∃ i : Int, ds = [.int i] ∧ i.natAbs.log2 < 1920 ∧ Q (.str (toString i)) st) ∨ ∃ a, ds = [.str a] ∧ Q (.str a) st
theorem call_strX : CallR X (.type "str") (fun xs H Q => (∃ i, xs = [.int i] ∧ i.natAbs.log2 < 1920 ∧ Q (.str (toString i)) H) ∨ ∃ a, xs = [.str a] ∧ Q (.str a) H) := by
  intro pins s σ H vs us Q I r h
  rcases h with h | h
  · exact call_str_int pins s σ H vs us Q I r h
  · exact SkE.call_str_str pins s σ H vs us Q I r h
theorem z_strX {K : PySem.W.Frag} : RzL K (fun xs H Q => (∃ i : Int, xs = [.int i] ∧ i.natAbs.log2 < 1920 ∧ Q (.str (toString i)) H) ∨ ∃ a, xs = [.str a] ∧ Q (.str a) H) bStrX where
  mo := fun ds s Q Q' h q => q.imp (fun ⟨i, e, z, q⟩ => ⟨i, e, z, h _ _ q⟩) fun ⟨a, e, q⟩ => ⟨a, e, h _ _ q⟩
  on := fun R nl q => by
    rcases q with ⟨i, e, z, q⟩ | ⟨a, e, q⟩
    · subst e
      obtain ⟨v, rfl, n⟩ := nl.one
      cases n
      exact .inl ⟨i, rfl, z, kE_now R (.str _) q⟩
    · subst e
      obtain ⟨v, rfl, n⟩ := nl.one
      cases n
      exact .inr ⟨a, rfl, kE_now R (.str _) q⟩
theorem v_strI {i : Int} {st : Sto} {Q : DK} : bStrX [.int i] st Q = (i.natAbs.log2 < 1920 ∧ Q (.str (toString i)) st) := propext ⟨fun h => by
  rcases h with ⟨j, e, z, q⟩ | ⟨a, e, _⟩
  · cases e; exact ⟨z, q⟩
  · exact absurd e (by simp), fun ⟨z, q⟩ => .inl ⟨i, rfl, z, q⟩⟩
theorem v_strS {a : Str} {st : Sto} {Q : DK} : bStrX [.str a] st Q = Q (.str a) st := propext ⟨fun h => by
  rcases h with ⟨j, e, _⟩ | ⟨b, e, q⟩
  · exact absurd e (by simp)
  · cases e; exact q, fun q => .inr ⟨a, rfl, q⟩⟩
end
end DL
namespace DL
open PySem PySem.Spec PyProof.Rows L2
/-- no wish looks on from here -/
instance (priority := low) : Bs := ⟨fun _ => none, [], fun _ => none⟩
def dInts (ns : List Int) : D := .tup (ns.map .int)
structure Wk where
  len : Int
  ahead : List Int
  able : List Int
def Wk.d (w : Wk) : D := .tup [.int w.len, dInts w.ahead, dInts w.able]
structure Ws where
  work : Int
  kind : Int
  day : Int
  weight : Int
  rank : Int
def Ws.d (w : Ws) : D := .tup [.int w.work, .int w.kind, .int w.day, .int w.weight, .int w.rank]
structure Sy where
  days : Int
  hands : List (List Int)
  works : List Wk
  wishes : List Ws
def Sy.d (s : Sy) : D := .tup [.int s.days, .tup (s.hands.map dInts), .tup (s.works.map Wk.d), .tup (s.wishes.map Ws.d)]
section
variable {st : Sto} {Q : DK} {env : En} {s : Sy} {w : Wk} {u : Ws} {ns : List Int}
theorem sy_ix0 : dIx s.d (.int 0) st Q = Q (.int s.days) st := by unfold Sy.d; rw [v_ixT]; simp only [at0, v_some]
theorem sy_ix1 : dIx s.d (.int 1) st Q = Q (.tup (s.hands.map dInts)) st := by unfold Sy.d; rw [v_ixT]; simp only [at1, v_some]
theorem sy_ix2 : dIx s.d (.int 2) st Q = Q (.tup (s.works.map Wk.d)) st := by unfold Sy.d; rw [v_ixT]; simp only [at2, v_some]
theorem sy_ix3 : dIx s.d (.int 3) st Q = Q (.tup (s.wishes.map Ws.d)) st := by unfold Sy.d; rw [v_ixT]; simp only [at3, v_some]
theorem sy_sl3 : dSl false s.d none (some 3) st Q = Q (.tup [.int s.days, .tup (s.hands.map dInts), .tup (s.works.map Wk.d)]) st := rfl
theorem sy_tp {gs : DGs} {Q : En → Sto → Prop} : gTp 4 gs s.d env st Q = gs [.int s.days, .tup (s.hands.map dInts), .tup (s.works.map Wk.d), .tup (s.wishes.map Ws.d)] env st Q := by unfold Sy.d; rw [v_gTp]; simp
theorem wk_ix0 : dIx w.d (.int 0) st Q = Q (.int w.len) st := by unfold Wk.d; rw [v_ixT]; simp only [at0, v_some]
theorem wk_ix1 : dIx w.d (.int 1) st Q = Q (dInts w.ahead) st := by unfold Wk.d; rw [v_ixT]; simp only [at1, v_some]
theorem wk_ix2 : dIx w.d (.int 2) st Q = Q (dInts w.able) st := by unfold Wk.d; rw [v_ixT]; simp only [at2, v_some]
theorem wk_tp {gs : DGs} {Q : En → Sto → Prop} : gTp 3 gs w.d env st Q = gs [.int w.len, dInts w.ahead, dInts w.able] env st Q := by unfold Wk.d; rw [v_gTp]; simp
theorem ws_tp {gs : DGs} {Q : En → Sto → Prop} : gTp 5 gs u.d env st Q = gs [.int u.work, .int u.kind, .int u.day, .int u.weight, .int u.rank] env st Q := by unfold Ws.d; rw [v_gTp]; simp
theorem ns_seq {R : GK} : seqI (dInts ns) st R = R (ns.map .int) (fun _ => True) st := rfl
theorem ns_len : bLen [dInts ns] st Q = Q (.int ns.length) st := by unfold dInts; rw [v_lenT, List.length_map]
theorem ns_ix {i : Int} : dIx (dInts ns) (.int i) st Q = ∃ d, atI (ns.map D.int) i = some d ∧ Q d st := v_ixT
theorem ns_rd : rd st (dInts ns) = dInts ns := rfl
theorem sy_rd : rd st s.d = s.d := rfl
theorem wk_rd : rd st w.d = w.d := rfl
theorem ws_rd : rd st u.d = u.d := rfl
end
section
variable {st : Sto} {Q : DK} {env : En} {ds : List D} {f : Bool → Bool} {c0 c1 : Cel} {i : Int}
theorem seqI_tup {R : GK} : seqI (.tup ds) st R = R ds (fun _ => True) st := rfl
theorem seqI_lst {R : GK} : seqI (.lst ds) st R = R ds (fun _ => True) st := rfl
theorem seqI_scr {R : GK} : seqI (.scr ds) st R = R ds (fun _ => True) st := rfl
theorem seqJ_tup {R : GK} : seqJ (.tup ds) st R = R ds (fun _ => True) st := rfl
theorem seqJ_lst {R : GK} : seqJ (.lst ds) st R = R ds (fun _ => True) st := rfl
theorem okL_ints : ∀ ns : List Int, D.okL (ns.map .int) = true
  | [] => rfl
  | _ :: r => by rw [List.map_cons]; simp only [D.okL, D.ok, okL_ints r, Bool.and_self]
theorem isE_eqvL : ∀ ds : List D, D.eqvL ds [] = ds.isEmpty
  | [] => by simp only [D.eqvL]; rfl
  | _ :: _ => by simp only [D.eqvL]; rfl
theorem v_eqN {a : D} (h : rd st a = .lst ds) : dEqB f a (.lst []) st Q = (D.okL ds = true ∧ Q (.bl (f ds.isEmpty)) st) := by
  rw [v_eqO (fun x e => by subst e; cases h)]
  unfold dEqO
  simp only [h, rd_lst', D.ok, D.okL, D.dep, D.depL, D.eqv, isE_eqvL, true_and]
  apply propext
  constructor
  · exact fun ⟨h1, _, q⟩ => ⟨h1, q⟩
  · exact fun ⟨h1, q⟩ => ⟨h1, by omega, q⟩
theorem v_eqNl : dEqB f (.lst ds) (.lst []) st Q = (D.okL ds = true ∧ Q (.bl (f ds.isEmpty)) st) := v_eqN rfl
theorem v_eqNt : dEqB f (.tup ds) (.tup []) st Q = (D.okL ds = true ∧ Q (.bl (f ds.isEmpty)) st) := by
  rw [v_eqO (a := .tup ds) (fun _ h => nomatch h)]
  unfold dEqO
  simp only [rd_tup', D.ok, D.okL, D.dep, D.depL, D.eqv, isE_eqvL, true_and]
  apply propext
  constructor
  · exact fun ⟨h1, _, q⟩ => ⟨h1, q⟩
  · exact fun ⟨h1, q⟩ => ⟨h1, by omega, q⟩
theorem rd_r0 : rd (.lst ds :: st) (.ref 0) = .lst ds := rfl
theorem rd_r1 : rd (c0 :: .lst ds :: st) (.ref 1) = .lst ds := rfl
theorem rd_r2 : rd (c0 :: c1 :: .lst ds :: st) (.ref 2) = .lst ds := rfl
theorem v_ixR {a : D} (h : rd st a = .lst ds) : dIx a (.int i) st Q = ∃ d, atI ds i = some d ∧ Q d st := propext ⟨fun ⟨_, e, q⟩ => by cases e; rw [h] at q; exact q, fun q => ⟨_, rfl, by rw [h]; exact q⟩⟩
theorem v_lenR {a : D} (h : rd st a = .lst ds) : bLen [a] st Q = Q (.int ds.length) st := v_len (by rw [h]; rfl)
theorem v_ix0 : dIx (.ref 0) (.int i) (.lst ds :: st) Q = ∃ d, atI ds i = some d ∧ Q d (.lst ds :: st) := v_ixR rfl
theorem v_ix1 : dIx (.ref 1) (.int i) (c0 :: .lst ds :: st) Q = ∃ d, atI ds i = some d ∧ Q d (c0 :: .lst ds :: st) := v_ixR rfl
theorem v_ix2 : dIx (.ref 2) (.int i) (c0 :: c1 :: .lst ds :: st) Q = ∃ d, atI ds i = some d ∧ Q d (c0 :: c1 :: .lst ds :: st) := v_ixR rfl
theorem v_eq0 : dEqB f (.ref 0) (.lst []) (.lst ds :: st) Q = (D.okL ds = true ∧ Q (.bl (f ds.isEmpty)) (.lst ds :: st)) := v_eqN rfl
theorem v_len0 : bLen [.ref 0] (.lst ds :: st) Q = Q (.int ds.length) (.lst ds :: st) := v_lenR rfl
theorem v_len1 : bLen [.ref 1] (c0 :: .lst ds :: st) Q = Q (.int ds.length) (c0 :: .lst ds :: st) := v_lenR rfl
theorem v_app0 {d : D} : mAppend (.ref 0) [d] (.lst ds :: st) Q = (ds.length < sizeLine ∧ Q .non (.lst (ds ++ [d]) :: st)) := v_app rfl
theorem v_app1 {d : D} : mAppend (.ref 1) [d] (c0 :: .lst ds :: st) Q = (ds.length < sizeLine ∧ Q .non (c0 :: .lst (ds ++ [d]) :: st)) := v_app rfl
theorem v_ex0 : (∃ x, D.lst ds = .lst x) = True := by simp
end
/-- increasing numbers below n -/
def Row (n : Int) (r : List Int) : Prop := r.Pairwise (· < ·) ∧ ∀ x ∈ r, 0 ≤ x ∧ x < n
structure Wk.Ok (w : Wk) (i hands length : Int) : Prop where
  len : 1 ≤ w.len ∧ w.len ≤ length
  ahead : Row i w.ahead
  able : Row hands w.able
  any : w.able ≠ []
structure Ws.Ok (w : Ws) (works days : Int) : Prop where
  work : 0 ≤ w.work ∧ w.work < works
  kind : 0 ≤ w.kind ∧ w.kind ≤ 1
  day : 0 ≤ w.day ∧ w.day ≤ days
  weight : 1 ≤ w.weight ∧ w.weight ≤ 100
  rank : 0 ≤ w.rank ∧ w.rank ≤ 3
structure Sy.Ok (s : Sy) (days hands works length wishes : Int) : Prop where
  days : 1 ≤ s.days ∧ s.days ≤ days
  hands : 1 ≤ s.hands.length ∧ s.hands.length ≤ hands
  rows : ∀ r ∈ s.hands, Row s.days r
  works : s.works.length ≤ works
  work : ∀ (i : Nat) (w : Wk), s.works[i]? = some w → w.Ok i s.hands.length length
  wishes : s.wishes.length ≤ wishes
  wish : ∀ w ∈ s.wishes, w.Ok s.works.length s.days
theorem Row.len {n : Int} : ∀ {r : List Int}, Row n r → (r.length : Int) ≤ max n 0 := by
  have key : ∀ (r : List Int) (lo : Int), r.Pairwise (· < ·) → (∀ x ∈ r, lo ≤ x ∧ x < n) → (r.length : Int) ≤ max (n - lo) 0 := fun r => by
    induction r with
    | nil => intro lo _ _; simp only [List.length_nil]; omega
    | cons a t ih =>
      intro lo hp hb
      rw [List.pairwise_cons] at hp
      have ha := hb a List.mem_cons_self
      have := ih (a + 1) hp.2 fun x hx => ⟨by have := hp.1 x hx; omega, (hb x (List.mem_cons_of_mem _ hx)).2⟩
      rw [List.length_cons]
      omega
  intro r h
  have := key r 0 h.1 h.2
  omega
structure FitN (k n : Nat) (d : D) : Prop where
  ok : d.ok = true
  sml : d.sml = true
  blk : d.blk ≤ n
  dep : d.dep ≤ k
theorem FitN.fit {k n : Nat} {d : D} (h : FitN k n d) (hk : k ≤ 60) (hn : n ≤ 1000000) : d.Fit := fit_mk h.ok h.sml (Nat.le_trans h.blk hn) (Nat.le_trans h.dep hk)
theorem FitN.mono {k n k' n' : Nat} {d : D} (h : FitN k n d) (hk : k ≤ k') (hn : n ≤ n') : FitN k' n' d := ⟨h.ok, h.sml, Nat.le_trans h.blk hn, Nat.le_trans h.dep hk⟩
structure FitL (k n : Nat) (ds : List D) : Prop where
  ok : D.okL ds = true
  sml : D.smlL ds = true
  blk : D.blkL ds ≤ n
  dep : D.depL ds ≤ k
theorem fitL_nil {k n : Nat} : FitL k n [] := ⟨rfl, rfl, Nat.zero_le _, Nat.zero_le _⟩
theorem fitL_cons {k n m : Nat} {d : D} {ds : List D} (h : FitN k n d) (t : FitL k m ds) : FitL k (n + 1 + m) (d :: ds) := by
  have h1 := h.blk
  have h2 := h.dep
  have h3 := t.blk
  have h4 := t.dep
  refine ⟨?_, ?_, ?_, ?_⟩
  · simp only [D.okL, h.ok, t.ok, Bool.and_self]
  · simp only [D.smlL, h.sml, t.sml, Bool.and_self]
  · simp only [D.blkL]; omega
  · simp only [D.depL]; omega
theorem fitL_map {α : Type} {k n : Nat} {enc : α → D} : ∀ {xs : List α}, (∀ x ∈ xs, FitN k n (enc x)) → FitL k (xs.length * (n + 1)) (xs.map enc)
  | [], _ => ⟨rfl, rfl, Nat.zero_le _, Nat.zero_le _⟩
  | x :: xs, h => by
    have h1 := fitL_cons (h x List.mem_cons_self) (fitL_map fun y hy => h y (List.mem_cons_of_mem _ hy))
    rw [List.map_cons, List.length_cons, Nat.succ_mul, Nat.add_comm]
    exact h1
theorem fit_tup {k n : Nat} {ds : List D} (h : FitL k n ds) : FitN (k + 1) n (.tup ds) := ⟨by simp only [D.ok, h.ok], by simp only [D.sml, h.sml], by simp only [D.blk]; exact h.blk, by simp only [D.dep]; have := h.dep; omega⟩
theorem fit_int {k n : Nat} {i : Int} (h : -1000000000 ≤ i ∧ i ≤ 100000000000) : FitN k n (.int i) := ⟨rfl, by simp only [D.sml, decide_eq_true_eq]; omega, Nat.zero_le _, Nat.zero_le _⟩
theorem fit_ints {k n : Nat} {ns : List Int} (h : ∀ x ∈ ns, -1000000000 ≤ x ∧ x ≤ 100000000000) (hn : ns.length ≤ n) : FitN (k + 1) n (dInts ns) :=
  (fit_tup (fitL_map (n := 0) (k := k) fun x hx => fit_int (h x hx))).mono (Nat.le_refl _) (by omega)
theorem fit_row {k n : Nat} {b : Int} {ns : List Int} (h : Row b ns) (hb : b ≤ n) (hb2 : b ≤ 1000000) (hlen : (ns.length : Int) ≤ max b 0) : FitN (k + 1) n (dInts ns) :=
  fit_ints (fun x hx => by have := h.2 x hx; omega) (by omega)
def Dk (B : Int) (rest st : Sto) : Prop := ∃ (ds cs : List Int) (t : Int), st = .lst (ds.map .int) :: .lst (cs.map .int) :: .lst [.ref 0, .ref 1, .int t] :: rest ∧
  (∀ x ∈ ds, 0 ≤ x ∧ x < 2147483629) ∧ (∀ x ∈ cs, 0 ≤ x ∧ x < 2147483629) ∧ cs ≠ [] ∧ ds.length ≤ 2000 ∧ cs.length ≤ 2000 ∧ 0 ≤ t ∧ t ≤ B
theorem Dk.mono {B B' : Int} {rest st : Sto} (h : Dk B rest st) (hb : B ≤ B') : Dk B' rest st := by
  obtain ⟨ds, cs, t, e, h1, h2, h3, h4, h5, h6, h7⟩ := h
  exact ⟨ds, cs, t, e, h1, h2, h3, h4, h5, h6, by omega⟩
theorem fit_wk {w : Wk} {i h l : Int} (o : w.Ok i h l) (hi : i ≤ 900) (hh : h ≤ 900) (hl : l ≤ 900) : FitN 2 2000 w.d := by
  have h1 := o.ahead.len
  have h2 := o.able.len
  have h3 := o.len
  exact (fit_tup (fitL_cons (n := 0) (fit_int (by omega)) (fitL_cons (fit_row (k := 0) (n := 900) o.ahead hi (by omega) h1) (fitL_cons (fit_row (n := 900) o.able hh (by omega) h2) (fitL_nil (n := 0)))))).mono (Nat.le_refl _) (by omega)
theorem fit_ws {w : Ws} {n h : Int} (o : w.Ok n h) (hn : n ≤ 900) (hh : h ≤ 900) : FitN 1 10 w.d := by
  have h1 := o.work
  have h2 := o.kind
  have h3 := o.day
  have h4 := o.weight
  have h5 := o.rank
  exact (fit_tup (k := 0) (fitL_cons (n := 0) (fit_int (by omega)) (fitL_cons (n := 0) (fit_int (by omega)) (fitL_cons (n := 0) (fit_int (by omega)) (fitL_cons (n := 0) (fit_int (by omega)) (fitL_cons (n := 0) (fit_int (by omega)) (fitL_nil (n := 0)))))))).mono (Nat.le_refl _) (by omega)
theorem fit_sy {s : Sy} {a b c l e : Int} (o : s.Ok a b c l e) (ha : a ≤ 900) (hb : b ≤ 100) (hc : c ≤ 100) (hl : l ≤ 900) (he : e ≤ 100) : FitN 4 300000 s.d := by
  have h1 := o.days
  have h2 := o.hands
  have h3 := o.works
  have h4 := o.wishes
  have r : FitL 1 (s.hands.length * 901) (s.hands.map dInts) := fitL_map fun r hr => fit_row (k := 0) (n := 900) (o.rows r hr) (by omega) (by omega) (o.rows r hr).len
  have w : FitL 2 (s.works.length * 2001) (s.works.map Wk.d) := fitL_map fun x hx => by
    obtain ⟨i, hi, e⟩ := List.getElem_of_mem hx
    have := o.work i x (by rw [List.getElem?_eq_getElem hi, e])
    exact fit_wk this (by omega) (by omega) hl
  have u : FitL 1 (s.wishes.length * 11) (s.wishes.map Ws.d) := fitL_map fun x hx => fit_ws (o.wish x hx) (by omega) (by omega)
  exact (fit_tup (fitL_cons (n := 0) (fit_int (by omega)) (fitL_cons ((fit_tup r).mono (k' := 3) (by omega) (Nat.le_refl _)) (fitL_cons ((fit_tup w).mono (k' := 3) (by omega) (Nat.le_refl _)) (fitL_cons ((fit_tup u).mono (k' := 3) (by omega) (Nat.le_refl _)) (fitL_nil (n := 0))))))).mono (Nat.le_refl _) (by omega)
end DL
namespace DL.M
open PySem PySem.Spec PyProof.Rows L2
local macro_rules
  | `(tactic| simp? only [$as,*] $[$loc]?) => `(tactic| simp only [$as,*, v_eqE, wComp, wipeE, wFor, wIsi, iEnum, iZip, zipI_tup, zipI_lst, zipI_lt, zipI_tl, seqJ_tup, seqJ_lst, v_app0, v_app1, v_eqNl, v_eqNt, rd_r0, rd_r1, rd_r2, v_ix0, v_ix1, v_ix2, v_eq0, v_len0, v_len1, v_ex0, v_mulS, wRevA, v_revT, v_revL, wRgL1, wRgL2, wRgT1, wRgT2, v_rgx1, v_rgx2, sy_ix0, sy_ix1, sy_ix2, sy_ix3, sy_sl3, sy_tp, wk_ix0, wk_ix1, wk_ix2, wk_tp, ws_tp, ns_seq, ns_len, ns_ix, ns_rd, sy_rd, wk_rd, ws_rd, wSeq, wAsg, wRet, wIf, wDrop, wOp, wCons, wNil, wTup, wLst, wCB, wCall, wTest, wAnd, wOr, wNot, wNotV, wAndV, wOrV, wChain, wNeg, wC, wM, wSl, oNo, oPart, iSeq, seqI_tup, seqI_lst, seqI_scr, v_rg1, v_rg2, gNm, v_gTp, v_gCn, v_gNl, v_var0, v_varS, v_sub, v_mod, v_fdiv, v_pow, v_iadd, v_add, v_addT, v_addL, v_mul, v_lt, v_le, v_gt, v_ge, v_eqi, v_ixT, v_ixL, v_ixS, v_lenT, v_lenL, v_lenS, v_abs, v_min2, v_max2, v_intI, v_intB, v_tupl, v_tupT, v_bl, v_in, v_some, v_newT, v_newF, startE, rd_int', rd_bl', rd_str', rd_tup', rd_lst', rd_scr', rd_non', at0, at1, at2, at3, at4, List.map_cons, List.map_nil, List.length_cons, List.length_nil, List.length_map, List.replicate_succ, List.replicate_zero, Nat.reduceSub, Nat.reduceAdd, List.cons_append, List.nil_append, List.set_cons_zero, List.set_cons_succ, List.getElem?_cons_zero, List.getElem?_cons_succ, Bool.not_true, Bool.not_false, if_true, if_false, Bool.false_eq_true, reduceCtorEq, true_and, and_true, bodyEnds, Nat.zero_add, decide_eq_true_eq] $[$loc]?)
  | `(tactic| simp?! only [$as,*] $[$loc]?) => `(tactic| simp only [$as,*, v_eqE, wComp, wipeE, wFor, wIsi, iEnum, iZip, zipI_tup, zipI_lst, zipI_lt, zipI_tl, seqJ_tup, seqJ_lst, v_app0, v_app1, v_eqNl, v_eqNt, rd_r0, rd_r1, rd_r2, v_ix0, v_ix1, v_ix2, v_eq0, v_len0, v_len1, v_ex0, v_mulS, wRevA, v_revT, v_revL, wRgL1, wRgL2, wRgT1, wRgT2, v_rgx1, v_rgx2, sy_ix0, sy_ix1, sy_ix2, sy_ix3, sy_sl3, sy_tp, wk_ix0, wk_ix1, wk_ix2, wk_tp, ws_tp, ns_seq, ns_len, ns_ix, ns_rd, sy_rd, wk_rd, ws_rd, wAsg, wRet, wIf, wDrop, wOp, wCons, wNil, wTup, wLst, wCB, wCall, wTest, wAnd, wOr, wNot, wNotV, wAndV, wOrV, wChain, wNeg, wC, wM, wSl, oNo, oPart, iSeq, seqI_tup, seqI_lst, seqI_scr, v_rg1, v_rg2, gNm, v_gTp, v_gCn, v_gNl, v_var0, v_varS, v_sub, v_mod, v_fdiv, v_pow, v_iadd, v_add, v_addT, v_addL, v_mul, v_lt, v_le, v_gt, v_ge, v_eqi, v_ixT, v_ixL, v_ixS, v_lenT, v_lenL, v_lenS, v_abs, v_min2, v_max2, v_intI, v_intB, v_tupl, v_tupT, v_bl, v_in, v_some, v_newT, v_newF, startE, rd_int', rd_bl', rd_str', rd_tup', rd_lst', rd_scr', rd_non', at0, at1, at2, at3, at4, List.map_cons, List.map_nil, List.length_cons, List.length_nil, List.length_map, List.replicate_succ, List.replicate_zero, Nat.reduceSub, Nat.reduceAdd, List.cons_append, List.nil_append, List.set_cons_zero, List.set_cons_succ, List.getElem?_cons_zero, List.getElem?_cons_succ, Bool.not_true, Bool.not_false, if_true, if_false, Bool.false_eq_true, reduceCtorEq, true_and, and_true, bodyEnds, Nat.zero_add, decide_eq_true_eq] $[$loc]?)
def w_f_law_deck_1 : DT := wAnd (wTest (wOp dGe (wVar 3) (wOp dPow (wC (.int 10)) (wC (.int 18))))) (wTest (wOp dLt (wCB bLen (wCons (wVar 1) (wNil))) (wC (.int 900))))
def w_f_law_deck_2 : DS := wSeq (wDrop (wM mAppend (wVar 1) (wCons (wOp dMod (wVar 3) (wC (.int 2147483629))) (wNil)))) (wAsg (wOp dFdiv (wVar 3) (wC (.int 2147483629))) (gNm 3))
def w_f_law_deck_3 : DS := wSeq (wAsg (wCB bAbs (wCons (wVar 3) (wNil))) (gNm 3)) (wSeq (wDrop (wM mAppend (wVar 2) (wCons (wOp dMod (wVar 3) (wC (.int 2147483629))) (wNil)))) (wWhile w_f_law_deck_1 w_f_law_deck_2))
def w_f_law_deck : DS := wSeq (wAsg (wLst true (wNil)) (gNm 1)) (wSeq (wAsg (wLst true (wCons (wCB bLen (wCons (wVar 0) (wNil))) (wNil))) (gNm 2)) (wSeq (wFor (iSeq (wSl false (wVar 0) oNo (oPart (wC (.int 60))))) (gNm 3) w_f_law_deck_3) (wRet (wLst true (wCons (wVar 1) (wCons (wVar 2) (wCons (wC (.int 0)) (wNil))))))))
def S_f_law_deck : DL.Spec := ⟨1, List Int, fun ns => [.scr (ns.map .int)], fun ns st => ns.length ≤ 63 ∧ st = [], fun _ _ d st' => d = .ref 2 ∧ Dk 0 [] st'⟩
def goodM (ns : List Int) : Prop := ∀ x ∈ ns, 0 ≤ x ∧ x < 2147483629
theorem goodM.snoc {ns : List Int} {x : Int} (h : goodM ns) (h0 : 0 ≤ x) (h1 : x < 2147483629) : goodM (ns ++ [x]) := fun y hy => by
  rcases List.mem_append.mp hy with z | z
  · exact h y z
  · simp at z; subst z; exact ⟨h0, h1⟩
theorem cut60 (ns : List Int) : cutL (ns.map D.int) none (some 60) = (ns.take 60).map D.int := by
  have e1 : HT.sIx (ns.map D.int).length 0 none = 0 := rfl
  have e2 : HT.sIx (ns.map D.int).length (ns.map D.int).length (some 60) = min 60 ns.length := by rw [List.length_map]; exact HT.sIx_nat ns.length ns.length 60
  unfold cutL
  rw [e1, e2, List.drop_zero, Nat.sub_zero, List.map_take]
  rcases Nat.le_total 60 ns.length with h | h
  · rw [Nat.min_eq_left h]
  · rw [Nat.min_eq_right h, List.take_of_length_le (by rw [List.length_map]; omega), List.take_of_length_le (by rw [List.length_map]; omega)]
theorem vc_f_law_deck : ∀ g sto, (S_f_law_deck.args g).length = S_f_law_deck.n → S_f_law_deck.pre g sto → w_f_law_deck (bodyEnds (S_f_law_deck.post g sto)) (startE ["_law_script", "_law_digits", "_law_cells", "_law_cell"] (S_f_law_deck.args g)) sto := by
  rintro (ns : List Int) sto _ ⟨hl, rfl⟩
  have z3 : 3 ≤ sizeLine := by decide
  simp? only [w_f_law_deck, S_f_law_deck, wFor, dSl]
  refine ⟨Nat.zero_le _, by omega, ?_⟩
  have ec : cutL (ns.map D.int) none (some 60) = (ns.take 60).map D.int := cut60 ns
  rw [ec]
  refine forL_inv (fun i e s => ∃ x3 ds cs, e = [some (.scr (ns.map .int)), some (.ref 0), some (.ref 1), x3] ∧ s = [.lst (ds.map .int), .lst (cs.map .int)] ∧ goodM ds ∧ goodM cs ∧ ds.length ≤ 900 ∧ cs.length = i + 1) ?_ ?_ _ _ ?_
  · rintro i env st d ⟨x3, ds, cs, rfl, rfl, gd, gc, ld, lc⟩ hd R hR
    refine ⟨trivial, ?_⟩
    obtain ⟨hi, hd⟩ := List.getElem?_eq_some_iff.mp hd
    rw [List.getElem_map] at hd
    subst hd
    generalize (ns.take 60)[i]'_ = c0
    simp only [w_f_law_deck_3, v_eqE, wComp, wipeE, wFor, wIsi, iEnum, iZip, zipI_tup, zipI_lst, zipI_lt, zipI_tl, seqJ_tup, seqJ_lst, v_app0, v_app1, v_eqNl, v_eqNt, rd_r0, rd_r1, rd_r2, v_ix0, v_ix1, v_ix2, v_eq0, v_len0, v_len1, v_ex0, v_mulS, wRevA, v_revT, v_revL, wRgL1, wRgL2, wRgT1, wRgT2, v_rgx1, v_rgx2, sy_ix0, sy_ix1, sy_ix2, sy_ix3, sy_sl3, sy_tp, wk_ix0, wk_ix1, wk_ix2, wk_tp, ws_tp, ns_seq, ns_len, ns_ix, ns_rd, sy_rd, wk_rd, ws_rd, wSeq, wAsg, wRet, wIf, wDrop, wOp, wCons, wNil, wTup, wLst, wCB, wCall, wTest, wAnd, wOr, wNot, wNotV, wAndV, wOrV, wChain, wNeg, wC, wM, wSl, oNo, oPart, iSeq, seqI_tup, seqI_lst, seqI_scr, v_rg1, v_rg2, gNm, v_gTp, v_gCn, v_gNl, v_var0, v_varS, v_sub, v_mod, v_fdiv, v_pow, v_iadd, v_add, v_addT, v_addL, v_mul, v_lt, v_le, v_gt, v_ge, v_eqi, v_ixT, v_ixL, v_ixS, v_lenT, v_lenL, v_lenS, v_abs, v_min2, v_max2, v_intI, v_intB, v_tupl, v_tupT, v_bl, v_in, v_some, v_newT, v_newF, startE, rd_int', rd_bl', rd_str', rd_tup', rd_lst', rd_scr', rd_non', at0, at1, at2, at3, at4, List.map_cons, List.map_nil, List.length_cons, List.length_nil, List.length_map, List.replicate_succ, List.replicate_zero, Nat.reduceSub, Nat.reduceAdd, List.cons_append, List.nil_append, List.set_cons_zero, List.set_cons_succ, List.getElem?_cons_zero, List.getElem?_cons_succ, Bool.not_true, Bool.not_false, if_true, if_false, Bool.false_eq_true, reduceCtorEq, true_and, and_true, bodyEnds, Nat.zero_add, decide_eq_true_eq, wM, rd_r1, v_ex0, v_abs, v_app1, List.length_map]
    have hi' := hi
    rw [List.length_map, List.length_take] at hi'
    refine ⟨by decide, by rw [lc, sizeLine_eq]; omega, ?_⟩
    have hc : 0 ≤ (if c0 < 0 then -c0 else c0) := by split <;> omega
    generalize (if c0 < 0 then -c0 else c0) = c at hc
    obtain ⟨k, hk⟩ : ∃ k, k = c % 2147483629 := ⟨_, rfl⟩
    rw [← hk]
    have hm : 0 ≤ k ∧ k < 2147483629 := by omega
    refine ⟨fun m e s => ∃ c ds, m = Int.toNat c ∧ 0 ≤ c ∧ e = [some (.scr (ns.map .int)), some (.ref 0), some (.ref 1), some (.int c)] ∧ s = [.lst (ds.map .int), .lst ((cs ++ [k]).map .int)] ∧ goodM ds ∧ ds.length ≤ 900, ?_, ?_⟩
    · exact ⟨_, c, ds, rfl, hc, rfl, by simp, gd, ld⟩
    · rintro m e s ⟨c, ds, rfl, hc, rfl, rfl, gd, ld⟩
      simp? only [w_f_law_deck_1]
      refine ⟨by decide, ?_⟩
      by_cases hg : (10 : Int) ^ (18 : Int).toNat ≤ c
      · by_cases hl : (ds.length : Int) < 900
        · simp only [hg, hl, decide_true, v_eqE, wComp, wipeE, wFor, wIsi, iEnum, iZip, zipI_tup, zipI_lst, zipI_lt, zipI_tl, seqJ_tup, seqJ_lst, v_app0, v_app1, v_eqNl, v_eqNt, rd_r0, rd_r1, rd_r2, v_ix0, v_ix1, v_ix2, v_eq0, v_len0, v_len1, v_ex0, v_mulS, wRevA, v_revT, v_revL, wRgL1, wRgL2, wRgT1, wRgT2, v_rgx1, v_rgx2, sy_ix0, sy_ix1, sy_ix2, sy_ix3, sy_sl3, sy_tp, wk_ix0, wk_ix1, wk_ix2, wk_tp, ws_tp, ns_seq, ns_len, ns_ix, ns_rd, sy_rd, wk_rd, ws_rd, wSeq, wAsg, wRet, wIf, wDrop, wOp, wCons, wNil, wTup, wLst, wCB, wCall, wTest, wAnd, wOr, wNot, wNotV, wAndV, wOrV, wChain, wNeg, wC, wM, wSl, oNo, oPart, iSeq, seqI_tup, seqI_lst, seqI_scr, v_rg1, v_rg2, gNm, v_gTp, v_gCn, v_gNl, v_var0, v_varS, v_sub, v_mod, v_fdiv, v_pow, v_iadd, v_add, v_addT, v_addL, v_mul, v_lt, v_le, v_gt, v_ge, v_eqi, v_ixT, v_ixL, v_ixS, v_lenT, v_lenL, v_lenS, v_abs, v_min2, v_max2, v_intI, v_intB, v_tupl, v_tupT, v_bl, v_in, v_some, v_newT, v_newF, startE, rd_int', rd_bl', rd_str', rd_tup', rd_lst', rd_scr', rd_non', at0, at1, at2, at3, at4, List.map_cons, List.map_nil, List.length_cons, List.length_nil, List.length_map, List.replicate_succ, List.replicate_zero, Nat.reduceSub, Nat.reduceAdd, List.cons_append, List.nil_append, List.set_cons_zero, List.set_cons_succ, List.getElem?_cons_zero, List.getElem?_cons_succ, Bool.not_true, Bool.not_false, if_true, if_false, Bool.false_eq_true, reduceCtorEq, true_and, and_true, bodyEnds, Nat.zero_add, decide_eq_true_eq, w_f_law_deck_2, wM]
          refine ⟨by decide, by rw [sizeLine_eq]; omega, ⟨by decide, by decide⟩, _, ?_, c / 2147483629, ds ++ [c % 2147483629], rfl, by omega, rfl, by simp, gd.snoc (by omega) (by omega), by simp; omega⟩
          have : (10 : Int) ^ (18 : Int).toNat = 1000000000000000000 := by decide
          omega
        · simp? only [hg, hl, decide_true, decide_false]
          exact hR _ _ ⟨_, ds, cs ++ [k], rfl, rfl, gd, gc.snoc hm.1 hm.2, ld, by simp; omega⟩
      · simp? only [hg, decide_false]
        exact hR _ _ ⟨_, ds, cs ++ [k], rfl, rfl, gd, gc.snoc hm.1 hm.2, ld, by simp; omega⟩
  · rintro env st ⟨x3, ds, cs, rfl, rfl, gd, gc, ld, lc⟩
    refine ⟨trivial, ?_⟩
    simp? only [true_and]
    refine ⟨z3, ds, cs, 0, rfl, gd, gc, ?_, by omega, ?_, by decide, by decide⟩
    · intro e; rw [e] at lc; simp at lc
    · rw [List.length_map, List.length_take] at lc; omega
  · refine ⟨none, [], [((ns.length : Nat) : Int)], rfl, rfl, fun _ h => (nomatch h), ?_, by simp, rfl⟩
    intro x hx
    rw [List.mem_singleton] at hx
    rw [hx]
    omega
theorem v_pop0 {rest : Sto} {Q : DK} {x : D} {ds : List D} : mPopAt (.ref 0) [.int 0] (.lst (x :: ds) :: rest) Q = Q x (.lst ds :: rest) := by
  have e0 : ixN (x :: ds).length 0 = some 0 := by simp [ixN]
  apply propext
  constructor
  · rintro ⟨n, es, i, k, y, e1, e2, e3, _, _, e4, e5, q⟩
    cases e1
    cases e2
    cases e3
    rw [e0] at e4
    cases e4
    cases e5
    exact q
  · exact fun q => ⟨0, x :: ds, 0, 0, x, rfl, rfl, rfl, by decide, by decide, e0, rfl, q⟩
theorem v_gset2 {rest : Sto} {c0 c1 : Cel} {x y z d : D} {env : En} {Q : En → Sto → Prop} : gSet (wVar 0) (wC (.int 2)) d (some (.ref 2) :: env) (c0 :: c1 :: .lst [x, y, z] :: rest) Q = Q (some (.ref 2) :: env) (c0 :: c1 :: .lst [x, y, d] :: rest) := by
  apply propext
  constructor
  · rintro ⟨o, e0, n, es, i, k, e1, e2, e3, e4, q⟩
    cases e0
    cases e1
    cases e2
    cases e3
    cases e4
    exact q
  · exact fun q => ⟨_, rfl, 2, _, 2, 2, rfl, rfl, rfl, rfl, q⟩
def w_f_law_next : DS := wSeq (wIf (wTest (wOp dNe (wOp dIx (wVar 0) (wC (.int 0))) (wLst false (wNil)))) (wRet (wM mPopAt (wOp dIx (wVar 0) (wC (.int 0))) (wCons (wC (.int 0)) (wNil)))) ((fun D env st => D.nx env st))) (wSeq (wAsg (wOp dIx (wVar 0) (wC (.int 2))) (gNm 1)) (wSeq (wAsg (wOp dAdd (wVar 1) (wC (.int 1))) (gSet (wVar 0) (wC (.int 2)))) (wSeq (wAsg (wTup (wCons (wC (.int 48271)) (wCons (wC (.int 69621)) (wCons (wC (.int 16807)) (wCons (wC (.int 39373)) (wCons (wC (.int 30323)) (wCons (wC (.int 51749)) (wCons (wC (.int 44417)) (wCons (wC (.int 27449)) (wCons (wC (.int 63073)) (wCons (wC (.int 55001)) (wCons (wC (.int 33791)) (wCons (wC (.int 40009)) (wNil)))))))))))))) (gNm 2)) (wSeq (wAsg (wOp dAdd (wOp dIx (wOp dIx (wVar 0) (wC (.int 1))) (wOp dMod (wOp dAdd (wVar 1) (wC (.int 1))) (wCB bLen (wCons (wOp dIx (wVar 0) (wC (.int 1))) (wNil))))) (wOp dMul (wC (.int 7)) (wVar 1))) (gNm 3)) (wSeq (wAsg (wOp dMod (wOp dPow (wOp dAdd (wVar 3) (wOp dMul (wOp dIx (wVar 2) (wOp dMod (wVar 1) (wC (.int 12)))) (wOp dAdd (wVar 1) (wC (.int 1))))) (wC (.int 5))) (wC (.int 2147483647))) (gNm 4)) (wRet (wOp dMod (wOp dAdd (wVar 4) (wOp dMul (wOp dIx (wVar 2) (wOp dMod (wOp dAdd (wVar 1) (wC (.int 5))) (wC (.int 12)))) (wVar 3))) (wC (.int 2147483629)))))))))
def S_f_law_next : DL.Spec := ⟨1, Sto × Int, fun _ => [.ref 2], fun (r, B) st => Dk B r st ∧ B < 2 ^ 40, fun (r, B) _ d st' => ∃ x, d = .int x ∧ 0 ≤ x ∧ x < 2147483629 ∧ Dk (B + 1) r st'⟩
def primes : List Int := [48271, 69621, 16807, 39373, 30323, 51749, 44417, 27449, 63073, 55001, 33791, 40009]
theorem prime_at {i : Int} (h0 : 0 ≤ i) (h1 : i < 12) : ∃ p, atI (primes.map D.int) i = some (.int p) ∧ 0 ≤ p ∧ p < 100000 := by
  have key : ∀ k : Fin 12, ∃ p, primes[k.val]? = some p ∧ 0 ≤ p ∧ p < 100000 := by
    intro k
    have hk : k.val < primes.length := k.isLt
    have all : ∀ x ∈ primes, 0 ≤ x ∧ x < 100000 := by decide
    exact ⟨_, List.getElem?_eq_getElem hk, all _ (List.getElem_mem hk)⟩
  obtain ⟨p, h2, h3⟩ := key ⟨i.toNat, by omega⟩
  exact ⟨p, atI_map (atI_of h0 h2), h3⟩
theorem vc_f_law_next : ∀ g sto, (S_f_law_next.args g).length = S_f_law_next.n → S_f_law_next.pre g sto → w_f_law_next (bodyEnds (S_f_law_next.post g sto)) (startE ["_law_deck_here", "_law_at", "_law_primes", "_law_cell", "_law_mixed"] (S_f_law_next.args g)) sto := by
  rintro ⟨rest, B⟩ sto _ ⟨⟨ds, cs, t, rfl, gd, gc, ne, l1, l2, t0, t1⟩, hB⟩
  have z12 : 12 ≤ sizeLine := by decide
  simp? only [w_f_law_next, S_f_law_next, v_gset2]
  refine ⟨Nat.zero_le _, okL_ints _, ?_⟩
  cases ds with
  | cons x ds =>
    simp only [v_eqE, wComp, wipeE, wFor, wIsi, iEnum, iZip, zipI_tup, zipI_lst, zipI_lt, zipI_tl, seqJ_tup, seqJ_lst, v_app0, v_app1, v_eqNl, v_eqNt, rd_r0, rd_r1, rd_r2, v_ix0, v_ix1, v_ix2, v_eq0, v_len0, v_len1, v_ex0, v_mulS, wRevA, v_revT, v_revL, wRgL1, wRgL2, wRgT1, wRgT2, v_rgx1, v_rgx2, sy_ix0, sy_ix1, sy_ix2, sy_ix3, sy_sl3, sy_tp, wk_ix0, wk_ix1, wk_ix2, wk_tp, ws_tp, ns_seq, ns_len, ns_ix, ns_rd, sy_rd, wk_rd, ws_rd, wSeq, wAsg, wRet, wIf, wDrop, wOp, wCons, wNil, wTup, wLst, wCB, wCall, wTest, wAnd, wOr, wNot, wNotV, wAndV, wOrV, wChain, wNeg, wC, wM, wSl, oNo, oPart, iSeq, seqI_tup, seqI_lst, seqI_scr, v_rg1, v_rg2, gNm, v_gTp, v_gCn, v_gNl, v_var0, v_varS, v_sub, v_mod, v_fdiv, v_pow, v_iadd, v_add, v_addT, v_addL, v_mul, v_lt, v_le, v_gt, v_ge, v_eqi, v_ixT, v_ixL, v_ixS, v_lenT, v_lenL, v_lenS, v_abs, v_min2, v_max2, v_intI, v_intB, v_tupl, v_tupT, v_bl, v_in, v_some, v_newT, v_newF, startE, rd_int', rd_bl', rd_str', rd_tup', rd_lst', rd_scr', rd_non', at0, at1, at2, at3, at4, List.map_cons, List.map_nil, List.length_cons, List.length_nil, List.length_map, List.replicate_succ, List.replicate_zero, Nat.reduceSub, Nat.reduceAdd, List.cons_append, List.nil_append, List.set_cons_zero, List.set_cons_succ, List.getElem?_cons_zero, List.getElem?_cons_succ, Bool.not_true, Bool.not_false, if_true, if_false, Bool.false_eq_true, reduceCtorEq, true_and, and_true, bodyEnds, Nat.zero_add, decide_eq_true_eq, List.isEmpty, v_pop0]
    have := gd x List.mem_cons_self
    exact ⟨this.1, this.2, ds, cs, t, rfl, fun y hy => gd y (List.mem_cons_of_mem _ hy), gc, ne, by simp at l1; omega, l2, t0, by omega⟩
  | nil =>
    simp only [v_eqE, wComp, wipeE, wFor, wIsi, iEnum, iZip, zipI_tup, zipI_lst, zipI_lt, zipI_tl, seqJ_tup, seqJ_lst, v_app0, v_app1, v_eqNl, v_eqNt, rd_r0, rd_r1, rd_r2, v_ix0, v_ix1, v_ix2, v_eq0, v_len0, v_len1, v_ex0, v_mulS, wRevA, v_revT, v_revL, wRgL1, wRgL2, wRgT1, wRgT2, v_rgx1, v_rgx2, sy_ix0, sy_ix1, sy_ix2, sy_ix3, sy_sl3, sy_tp, wk_ix0, wk_ix1, wk_ix2, wk_tp, ws_tp, ns_seq, ns_len, ns_ix, ns_rd, sy_rd, wk_rd, ws_rd, wSeq, wAsg, wRet, wIf, wDrop, wOp, wCons, wNil, wTup, wLst, wCB, wCall, wTest, wAnd, wOr, wNot, wNotV, wAndV, wOrV, wChain, wNeg, wC, wM, wSl, oNo, oPart, iSeq, seqI_tup, seqI_lst, seqI_scr, v_rg1, v_rg2, gNm, v_gTp, v_gCn, v_gNl, v_var0, v_varS, v_sub, v_mod, v_fdiv, v_pow, v_iadd, v_add, v_addT, v_addL, v_mul, v_lt, v_le, v_gt, v_ge, v_eqi, v_ixT, v_ixL, v_ixS, v_lenT, v_lenL, v_lenS, v_abs, v_min2, v_max2, v_intI, v_intB, v_tupl, v_tupT, v_bl, v_in, v_some, v_newT, v_newF, startE, rd_int', rd_bl', rd_str', rd_tup', rd_lst', rd_scr', rd_non', at0, at1, at2, at3, at4, List.map_cons, List.map_nil, List.length_cons, List.length_nil, List.length_map, List.replicate_succ, List.replicate_zero, Nat.reduceSub, Nat.reduceAdd, List.cons_append, List.nil_append, List.set_cons_zero, List.set_cons_succ, List.getElem?_cons_zero, List.getElem?_cons_succ, Bool.not_true, Bool.not_false, if_true, if_false, Bool.false_eq_true, reduceCtorEq, true_and, and_true, bodyEnds, Nat.zero_add, decide_eq_true_eq, List.isEmpty, v_gset2]
    have hl : 0 < cs.length := List.length_pos_iff.mpr ne
    refine ⟨z12, by omega, ?_⟩
    obtain ⟨c, hc⟩ : ∃ c, cs[((t + 1) % (cs.length : Int)).toNat]? = some c := ⟨_, List.getElem?_eq_getElem (by
      have := Int.emod_lt_of_pos (t + 1) (show (0 : Int) < cs.length by omega)
      have := Int.emod_nonneg (t + 1) (show (cs.length : Int) ≠ 0 by omega)
      omega)⟩
    have hc1 := gc c (List.mem_of_getElem? hc)
    obtain ⟨p1, hp1, q1⟩ := prime_at (i := t % 12) (by omega) (by omega)
    obtain ⟨p2, hp2, q2⟩ := prime_at (i := (t + 5) % 12) (by omega) (by omega)
    simp only [primes, List.map_cons, List.map_nil] at hp1 hp2
    refine ⟨_, atI_map (atI_of (Int.emod_nonneg _ (by omega)) hc), ?_⟩
    simp? only [hp1, hp2]
    have m1 : p1 * (t + 1) ≤ 100000 * (2 ^ 40 + 1) := Int.mul_le_mul (by omega) (by omega) (by omega) (by decide)
    have m2 : 0 ≤ p1 * (t + 1) := Int.mul_nonneg q1.1 (by omega)
    refine ⟨.inl ⟨by decide, by decide⟩, by decide, .inl ⟨by omega, by omega⟩, ⟨by decide, by decide, ?_⟩, by decide, by decide, .inl ⟨by omega, by omega⟩, by decide, Int.emod_nonneg _ (by decide), Int.emod_lt_of_pos _ (by decide), [], cs, t + 1, rfl, gd, gc, ne, l1, l2, by omega, by omega⟩
    generalize p1 * (t + 1) = m at m1 m2
    omega
/-- the next number is asked -/
theorem next_use {B : Int} {rest st : Sto} {Q : DK} (h : Dk B rest st) (hb : B < 2 ^ 40) (q : ∀ x st', 0 ≤ x → x < 2147483629 → Dk (B + 1) rest st' → Q (.int x) st') :
    ∃ g, [D.ref 2] = S_f_law_next.args g ∧ (S_f_law_next.args g).length = S_f_law_next.n ∧ S_f_law_next.pre g st ∧ ∀ d s2, S_f_law_next.post g st d s2 → Q d s2 :=
  ⟨(rest, B), rfl, rfl, ⟨h, hb⟩, fun d s2 ⟨x, e, h0, h1, h2⟩ => by subst e; exact q x s2 h0 h1 h2⟩
def w_f_law_rows_of_1 : DT := wTest (wOp dEq (wOp dMod (wCall S_f_law_next (wCons (wVar 0) (wNil))) (wVar 2)) (wC (.int 0)))
def w_f_law_rows_of : DS := wRet (wCB bTuple (wCons (wComp false (iRange1 (wCons (wOp dAdd (wVar 1) (wC (.int 1))) (wNil))) (.nm 3) w_f_law_rows_of_1 (wVar 3) [3]) (wNil)))
def S_f_law_rows_of : DL.Spec := ⟨3, Sto × Int × Int × Int, fun (_, _, h, s) => [.ref 2, .int h, .int s], fun (r, B, h, s) st => Dk B r st ∧ B < 2 ^ 39 ∧ -1 ≤ h ∧ h ≤ 900 ∧ 0 < s, fun (r, B, h, _) _ d st' => ∃ row, d = dInts row ∧ Row (h + 1) row ∧ Dk (B + 1000) r st'⟩
theorem vc_f_law_rows_of : ∀ g sto, (S_f_law_rows_of.args g).length = S_f_law_rows_of.n → S_f_law_rows_of.pre g sto → w_f_law_rows_of (bodyEnds (S_f_law_rows_of.post g sto)) (startE ["_law_deck_here", "_law_high", "_law_some", "_law_one"] (S_f_law_rows_of.args g)) sto := by
  rintro ⟨rest, B, h, s⟩ sto _ ⟨hD, hB, h0, h1, hs⟩
  simp? only [w_f_law_rows_of, S_f_law_rows_of, wComp, wipeE, rangeD_len]
  refine ⟨⟨by omega, by omega⟩, by rw [sizeLine_eq]; omega, ?_⟩
  refine compL_inv (fun i st acc => ∃ row, acc = row.map D.int ∧ Row i row ∧ Dk (B + i) rest st) ?_ ?_ _ _ ⟨[], rfl, ⟨.nil, fun _ h => (nomatch h)⟩, by simpa using hD⟩
  · rintro i st acc d ⟨row, rfl, hr, hd⟩ he R hR
    obtain ⟨hi, rfl⟩ := rangeD_at he
    simp? only [Tg.dg, w_f_law_rows_of_1]
    refine next_use hd (by omega) fun x st' x0 x1 hd' => ?_
    simp? only [true_and]
    refine ⟨hs, ?_⟩
    have e1 : B + (i : Int) + 1 = B + ((i + 1 : Nat) : Int) := by omega
    rw [e1] at hd'
    by_cases hx : (x % s == 0) = true
    · rw [if_pos hx]
      refine hR _ _ ⟨row ++ [(i : Int)], by simp, ⟨?_, ?_⟩, hd'⟩
      · rw [List.pairwise_append]
        refine ⟨hr.1, List.pairwise_singleton .., fun a ha b hb => ?_⟩
        rw [List.mem_singleton] at hb
        have := (hr.2 a ha).2
        omega
      · intro y hy
        rcases List.mem_append.mp hy with z | z
        · have := hr.2 y z; omega
        · rw [List.mem_singleton] at z; omega
    · rw [if_neg hx]
      exact hR _ _ ⟨row, rfl, ⟨hr.1, fun y hy => by have := hr.2 y hy; omega⟩, hd'⟩
  · rintro st acc ⟨row, rfl, hr, hd⟩
    rw [rangeD_len] at hr hd
    exact ⟨trivial, row, rfl, ⟨hr.1, fun y hy => by have := hr.2 y hy; omega⟩, hd.mono (by omega)⟩
theorem rows_use {B h s : Int} {rest st : Sto} {Q : DK} (hD : Dk B rest st) (hb : B < 2 ^ 39) (h0 : -1 ≤ h) (h1 : h ≤ 900) (hs : 0 < s) (q : ∀ row st', Row (h + 1) row → Dk (B + 1000) rest st' → Q (dInts row) st') :
    ∃ g, [D.ref 2, .int h, .int s] = S_f_law_rows_of.args g ∧ (S_f_law_rows_of.args g).length = S_f_law_rows_of.n ∧ S_f_law_rows_of.pre g st ∧ ∀ d s2, S_f_law_rows_of.post g st d s2 → Q d s2 :=
  ⟨(rest, B, h, s), rfl, rfl, ⟨hD, hb, h0, h1, hs⟩, fun d s2 ⟨x, e, h0, h1⟩ => by subst e; exact q x s2 h0 h1⟩
theorem pick {α : Type} {xs : List α} {i : Int} (h0 : 0 ≤ i) (h1 : i < xs.length) : ∃ v, atI xs i = some v ∧ v ∈ xs := by
  have hl : i.toNat < xs.length := by omega
  exact ⟨_, atI_of h0 (List.getElem?_eq_getElem hl), List.getElem_mem hl⟩
theorem pickI {ns : List Int} {i : Int} (h0 : 0 ≤ i) (h1 : i < ns.length) : ∃ v, atI (ns.map D.int) i = some (.int v) ∧ v ∈ ns := by
  obtain ⟨v, h2, h3⟩ := pick h0 h1
  exact ⟨v, atI_map h2, h3⟩
def w_f_law_work_1 : DT := wOr (wTest (wOp dEq (wVar 6) (wC (.int 0)))) (wTest (wOp dEq (wOp dMod (wCall S_f_law_next (wCons (wVar 0) (wNil))) (wC (.int 2))) (wC (.int 0))))
def w_f_law_work : DS := wSeq (wAsg (wOp dAdd (wC (.int 1)) (wOp dMod (wCall S_f_law_next (wCons (wVar 0) (wNil))) (wVar 3))) (gNm 4)) (wSeq (wAsg (wCall S_f_law_rows_of (wCons (wVar 0) (wCons (wOp dSub (wVar 1) (wC (.int 1))) (wCons (wOp dIx (wLst false (wCons (wC (.int 3)) (wCons (wC (.int 5)) (wCons (wC (.int 100)) (wNil))))) (wOp dMod (wCall S_f_law_next (wCons (wVar 0) (wNil))) (wC (.int 3)))) (wNil))))) (gNm 5)) (wSeq (wAsg (wOp dMod (wCall S_f_law_next (wCons (wVar 0) (wNil))) (wC (.int 3))) (gNm 6)) (wSeq (wAsg (wCB bTuple (wCons (wComp false (iRange1 (wCons (wVar 2) (wNil))) (.nm 8) w_f_law_work_1 (wVar 8) [8]) (wNil))) (gNm 7)) (wSeq (wIf (wTest (wOp dEq (wVar 7) (wTup (wNil)))) (wAsg (wTup (wCons (wOp dMod (wCall S_f_law_next (wCons (wVar 0) (wNil))) (wVar 2)) (wNil))) (gNm 7)) ((fun D env st => D.nx env st))) (wRet (wTup (wCons (wVar 4) (wCons (wVar 5) (wCons (wVar 7) (wNil))))))))))
def S_f_law_work : DL.Spec := ⟨4, Sto × Int × Int × Int × Int, fun (_, _, n, h, l) => [.ref 2, .int n, .int h, .int l], fun (r, B, n, h, l) st => Dk B r st ∧ B < 2 ^ 38 ∧ 0 ≤ n ∧ n ≤ 900 ∧ 1 ≤ h ∧ h ≤ 900 ∧ 1 ≤ l,
  fun (r, B, n, h, l) _ d st' => ∃ w : Wk, d = w.d ∧ w.Ok n h l ∧ Dk (B + 10000) r st'⟩
theorem vc_f_law_work : ∀ g sto, (S_f_law_work.args g).length = S_f_law_work.n → S_f_law_work.pre g sto → w_f_law_work (bodyEnds (S_f_law_work.post g sto)) (startE ["_law_deck_here", "_law_number", "_law_hands", "_law_length", "_law_much", "_law_ahead", "_law_way", "_law_able", "_law_hand"] (S_f_law_work.args g)) sto := by
  rintro ⟨rest, B, n, h, l⟩ sto _ ⟨hD, hB, n0, n1, h0, h1, hl⟩
  have z3 : 3 ≤ sizeLine := by decide
  have z1 : 1 ≤ sizeLine := by decide
  simp? only [w_f_law_work, S_f_law_work]
  refine next_use hD (by omega) fun x1 st1 a1 b1 hD => ?_
  (try simp? only [true_and])
  refine ⟨by omega, z3, ?_⟩
  refine next_use hD (by omega) fun x2 st2 a2 b2 hD => ?_
  obtain ⟨p, hp, hp2⟩ := pickI (ns := [3, 5, 100]) (i := x2 % 3) (by omega) (by simp; omega)
  have hp0 : 0 < p := by simp at hp2; omega
  simp only [List.map_cons, List.map_nil] at hp
  simp? only [hp]
  refine ⟨by decide, ?_⟩
  refine rows_use hD (by omega) (by omega) (by omega) hp0 fun ahead st3 hA hD => ?_
  (try simp? only [true_and])
  refine next_use hD (by omega) fun x3 st4 a3 b3 hD => ?_
  simp? only [wComp, wipeE, rangeD_len]
  refine ⟨by decide, ⟨by omega, by omega⟩, by rw [sizeLine_eq]; omega, ?_⟩
  refine compL_inv (fun i st acc => ∃ row, acc = row.map D.int ∧ Row i row ∧ Dk (B + 1003 + i) rest st) ?_ ?_ _ _ ⟨[], rfl, ⟨.nil, fun _ h => (nomatch h)⟩, hD.mono (by omega)⟩
  · rintro i st acc d ⟨row, rfl, hr, hd⟩ he R hR
    obtain ⟨hi, rfl⟩ := rangeD_at he
    have yes : ∀ s, Dk (B + 1003 + ((i + 1 : Nat) : Int)) rest s → R s (row.map D.int ++ [.int (0 + i)]) := fun s hd' => by
      refine hR _ _ ⟨row ++ [(i : Int)], by simp, ⟨?_, ?_⟩, hd'⟩
      · rw [List.pairwise_append]
        refine ⟨hr.1, List.pairwise_singleton .., fun a ha b hb => ?_⟩
        rw [List.mem_singleton] at hb
        have := (hr.2 a ha).2
        omega
      · intro y hy
        rcases List.mem_append.mp hy with z | z
        · have := hr.2 y z; omega
        · rw [List.mem_singleton] at z; omega
    have no : ∀ s, Dk (B + 1003 + ((i + 1 : Nat) : Int)) rest s → R s (row.map D.int) := fun s hd' => hR _ _ ⟨row, rfl, ⟨hr.1, fun y hy => by have := hr.2 y hy; omega⟩, hd'⟩
    simp? only [Tg.dg, w_f_law_work_1]
    by_cases hx : (x3 % 3 == 0) = true
    · rw [if_pos hx]
      exact yes _ (hd.mono (by omega))
    · rw [if_neg hx]
      refine next_use hd (by omega) fun x st' x0 x1 hd' => ?_
      have e1 : B + 1003 + (i : Int) + 1 = B + 1003 + ((i + 1 : Nat) : Int) := by omega
      rw [e1] at hd'
      (try simp? only [true_and])
      refine ⟨by decide, ?_⟩
      by_cases hx : (x % 2 == 0) = true
      · rw [if_pos hx]; exact yes _ hd'
      · rw [if_neg hx]; exact no _ hd'
  · rintro st acc ⟨row, rfl, hr, hd⟩
    rw [rangeD_len] at hr hd
    have hr' : Row h row := ⟨hr.1, fun y hy => by have := hr.2 y hy; omega⟩
    have hA' : Row n ahead := ⟨hA.1, fun y hy => by have := hA.2 y hy; omega⟩
    have hm : 1 ≤ 1 + x1 % l ∧ 1 + x1 % l ≤ l := by
      have := Int.emod_nonneg x1 (show l ≠ 0 by omega)
      have := Int.emod_lt_of_pos x1 (show 0 < l by omega)
      omega
    refine ⟨trivial, Nat.zero_le _, okL_ints _, ?_⟩
    cases row with
    | cons y row =>
      rw [if_neg (by simp)]
      exact ⟨z3, ⟨_, ahead, y :: row⟩, rfl, ⟨hm, hA', hr', by simp⟩, hd.mono (by omega)⟩
    | nil =>
      rw [if_pos (show (List.map D.int []).isEmpty = true from rfl)]
      refine next_use hd (by omega) fun x st' y0 y1 hd' => ?_
      (try simp? only [true_and])
      have hq := Int.emod_nonneg x (show h ≠ 0 by omega)
      have hq2 := Int.emod_lt_of_pos x (show 0 < h by omega)
      refine ⟨by omega, z1, z3, ⟨_, ahead, [x % h]⟩, rfl, ⟨hm, hA', ⟨List.pairwise_singleton .., fun y hy => ?_⟩, by simp⟩, hd'.mono (by omega)⟩
      rw [List.mem_singleton] at hy
      omega
theorem work_use {B n h l : Int} {rest st : Sto} {Q : DK} (hD : Dk B rest st) (hb : B < 2 ^ 38) (n0 : 0 ≤ n) (n1 : n ≤ 900) (h0 : 1 ≤ h) (h1 : h ≤ 900) (hl : 1 ≤ l) (q : ∀ (w : Wk) st', w.Ok n h l → Dk (B + 10000) rest st' → Q w.d st') :
    ∃ g, [D.ref 2, .int n, .int h, .int l] = S_f_law_work.args g ∧ (S_f_law_work.args g).length = S_f_law_work.n ∧ S_f_law_work.pre g st ∧ ∀ d s2, S_f_law_work.post g st d s2 → Q d s2 :=
  ⟨(rest, B, n, h, l), rfl, rfl, ⟨hD, hb, n0, n1, h0, h1, hl⟩, fun d s2 ⟨w, e, h0, h1⟩ => by subst e; exact q w s2 h0 h1⟩
def w_f_law_wish : DS := wSeq (wAsg (wOp dIx (wLst false (wCons (wC (.int 1)) (wCons (wC (.int 2)) (wCons (wC (.int 4)) (wNil))))) (wOp dMod (wCall S_f_law_next (wCons (wVar 0) (wNil))) (wC (.int 3)))) (gNm 3)) (wSeq (wAsg (wOp dIx (wLst false (wCons (wOp dAdd (wC (.int 1)) (wOp dMod (wCall S_f_law_next (wCons (wVar 0) (wNil))) (wC (.int 3)))) (wCons (wOp dAdd (wC (.int 1)) (wOp dMod (wCall S_f_law_next (wCons (wVar 0) (wNil))) (wC (.int 100)))) (wNil)))) (wOp dMod (wCall S_f_law_next (wCons (wVar 0) (wNil))) (wC (.int 2)))) (gNm 4)) (wRet (wTup (wCons (wOp dMod (wCall S_f_law_next (wCons (wVar 0) (wNil))) (wVar 1)) (wCons (wOp dMod (wCall S_f_law_next (wCons (wVar 0) (wNil))) (wC (.int 2))) (wCons (wOp dMod (wCall S_f_law_next (wCons (wVar 0) (wNil))) (wOp dAdd (wVar 2) (wC (.int 1)))) (wCons (wVar 4) (wCons (wOp dMod (wCall S_f_law_next (wCons (wVar 0) (wNil))) (wVar 3)) (wNil)))))))))
def S_f_law_wish : DL.Spec := ⟨3, Sto × Int × Int × Int, fun (_, _, n, h) => [.ref 2, .int n, .int h], fun (r, B, n, h) st => Dk B r st ∧ B < 2 ^ 38 ∧ 1 ≤ n ∧ 0 ≤ h,
  fun (r, B, n, h) _ d st' => ∃ w : Ws, d = w.d ∧ w.Ok n h ∧ Dk (B + 100) r st'⟩
theorem vc_f_law_wish : ∀ g sto, (S_f_law_wish.args g).length = S_f_law_wish.n → S_f_law_wish.pre g sto → w_f_law_wish (bodyEnds (S_f_law_wish.post g sto)) (startE ["_law_deck_here", "_law_works", "_law_days", "_law_ranks", "_law_weight"] (S_f_law_wish.args g)) sto := by
  rintro ⟨rest, B, n, h⟩ sto _ ⟨hD, hB, n1, h0⟩
  have z3 : 3 ≤ sizeLine := by decide
  have z2 : 2 ≤ sizeLine := by decide
  have z5 : 5 ≤ sizeLine := by decide
  simp? only [w_f_law_wish, S_f_law_wish]
  refine ⟨z3, next_use hD (by omega) fun x1 st1 a1 b1 hD => ?_⟩
  obtain ⟨p, hp, hp2⟩ := pickI (ns := [1, 2, 4]) (i := x1 % 3) (by omega) (by simp; omega)
  have hp0 : 0 < p ∧ p ≤ 4 := by simp at hp2; omega
  simp only [List.map_cons, List.map_nil] at hp
  simp? only [hp]
  refine ⟨by decide, next_use hD (by omega) fun x2 st2 a2 b2 hD => ?_⟩
  (try simp? only [true_and])
  refine ⟨by decide, next_use hD (by omega) fun x3 st3 a3 b3 hD => ?_⟩
  (try simp? only [true_and])
  refine ⟨by decide, z2, next_use hD (by omega) fun x4 st4 a4 b4 hD => ?_⟩
  (try simp? only [true_and])
  obtain ⟨q, hq, hq2⟩ := pickI (ns := [1 + x2 % 3, 1 + x3 % 100]) (i := x4 % 2) (by omega) (by simp; omega)
  have hq0 : 0 < q ∧ q ≤ 100 := by simp at hq2; omega
  simp only [List.map_cons, List.map_nil] at hq
  simp? only [hq]
  refine ⟨by decide, next_use hD (by omega) fun x5 st5 a5 b5 hD => ?_⟩
  (try simp? only [true_and])
  refine ⟨by omega, next_use hD (by omega) fun x6 st6 a6 b6 hD => ?_⟩
  (try simp? only [true_and])
  refine ⟨by decide, next_use hD (by omega) fun x7 st7 a7 b7 hD => ?_⟩
  (try simp? only [true_and])
  refine ⟨by omega, next_use hD (by omega) fun x8 st8 a8 b8 hD => ?_⟩
  (try simp? only [true_and])
  have := Int.emod_nonneg x5 (show n ≠ 0 by omega)
  have := Int.emod_lt_of_pos x5 (show 0 < n by omega)
  have := Int.emod_nonneg x7 (show h + 1 ≠ 0 by omega)
  have := Int.emod_lt_of_pos x7 (show 0 < h + 1 by omega)
  have := Int.emod_nonneg x8 (show p ≠ 0 by omega)
  have := Int.emod_lt_of_pos x8 (show 0 < p by omega)
  exact ⟨hp0.1, z5, ⟨_, _, _, q, _⟩, rfl, ⟨⟨by dsimp only; omega, by dsimp only; omega⟩, ⟨by dsimp only; omega, by dsimp only; omega⟩, ⟨by dsimp only; omega, by dsimp only; omega⟩, hq0, ⟨by dsimp only; omega, by dsimp only; omega⟩⟩, hD.mono (by omega)⟩
theorem wish_use {B n h : Int} {rest st : Sto} {Q : DK} (hD : Dk B rest st) (hb : B < 2 ^ 38) (n0 : 1 ≤ n) (h0 : 0 ≤ h) (q : ∀ (w : Ws) st', w.Ok n h → Dk (B + 100) rest st' → Q w.d st') :
    ∃ g, [D.ref 2, .int n, .int h] = S_f_law_wish.args g ∧ (S_f_law_wish.args g).length = S_f_law_wish.n ∧ S_f_law_wish.pre g st ∧ ∀ d s2, S_f_law_wish.post g st d s2 → Q d s2 :=
  ⟨(rest, B, n, h), rfl, rfl, ⟨hD, hb, n0, h0⟩, fun d s2 ⟨w, e, h0, h1⟩ => by subst e; exact q w s2 h0 h1⟩
def w_f_law_system_1 : DE := wCall S_f_law_rows_of (wCons (wVar 0) (wCons (wOp dSub (wVar 6) (wC (.int 1))) (wCons (wVar 7) (wNil))))
def w_f_law_system_2 : DE := wCall S_f_law_work (wCons (wVar 0) (wCons (wVar 14) (wCons (wCB bLen (wCons (wVar 8) (wNil))) (wCons (wVar 10) (wNil)))))
def w_f_law_system_3 : DE := wCall S_f_law_wish (wCons (wVar 0) (wCons (wVar 9) (wCons (wVar 6) (wNil))))
def w_f_law_system : DS := wSeq (wAsg (wOp dAdd (wC (.int 1)) (wOp dMod (wCall S_f_law_next (wCons (wVar 0) (wNil))) (wVar 1))) (gNm 6)) (wSeq (wAsg (wOp dIx (wLst false (wCons (wC (.int 100)) (wCons (wC (.int 6)) (wCons (wC (.int 3)) (wNil))))) (wOp dMod (wCall S_f_law_next (wCons (wVar 0) (wNil))) (wC (.int 3)))) (gNm 7)) (wSeq (wAsg (wCB bTuple (wCons (wComp false (iRange1 (wCons (wOp dAdd (wC (.int 1)) (wOp dMod (wCall S_f_law_next (wCons (wVar 0) (wNil))) (wVar 2))) (wNil))) (.nm 13) wYes w_f_law_system_1 [13]) (wNil))) (gNm 8)) (wSeq (wAsg (wOp dMod (wCall S_f_law_next (wCons (wVar 0) (wNil))) (wOp dAdd (wVar 3) (wC (.int 1)))) (gNm 9)) (wSeq (wAsg (wOp dIx (wLst false (wCons (wCB bMin2 (wCons (wVar 4) (wCons (wVar 6) (wNil)))) (wCons (wVar 4) (wNil)))) (wCB bInt (wCons (wOp dEq (wOp dMod (wCall S_f_law_next (wCons (wVar 0) (wNil))) (wC (.int 9))) (wC (.int 4))) (wNil)))) (gNm 10)) (wSeq (wAsg (wCB bTuple (wCons (wComp false (iRange1 (wCons (wVar 9) (wNil))) (.nm 14) wYes w_f_law_system_2 [14]) (wNil))) (gNm 11)) (wSeq (wAsg (wOp dMul (wOp dMod (wCall S_f_law_next (wCons (wVar 0) (wNil))) (wOp dAdd (wVar 5) (wC (.int 1)))) (wCB bInt (wCons (wOp dGt (wVar 9) (wC (.int 0))) (wNil)))) (gNm 12)) (wRet (wTup (wCons (wVar 6) (wCons (wVar 8) (wCons (wVar 11) (wCons (wCB bTuple (wCons (wComp false (iRange1 (wCons (wVar 12) (wNil))) (.nm 15) wYes w_f_law_system_3 [15]) (wNil))) (wNil)))))))))))))
def S_f_law_system : DL.Spec := ⟨6, Sto × Int × Int × Int × Int × Int × Int, fun (_, _, a, b, c, d, e) => [.ref 2, .int a, .int b, .int c, .int d, .int e],
  fun (r, B, a, b, c, d, e) st => Dk B r st ∧ B < 2 ^ 37 ∧ (1 ≤ a ∧ a ≤ 900) ∧ (1 ≤ b ∧ b ≤ 100) ∧ (0 ≤ c ∧ c ≤ 100) ∧ (1 ≤ d ∧ d ≤ 900) ∧ (0 ≤ e ∧ e ≤ 100),
  fun (r, B, a, b, c, d, e) _ x st' => ∃ s : Sy, x = s.d ∧ s.Ok a b c d e ∧ Dk (B + 10000000) r st'⟩
theorem vc_f_law_system : ∀ g sto, (S_f_law_system.args g).length = S_f_law_system.n → S_f_law_system.pre g sto → w_f_law_system (bodyEnds (S_f_law_system.post g sto)) (startE ["_law_deck_here", "_law_days", "_law_hands", "_law_works", "_law_length", "_law_wishes", "_law_many", "_law_some", "_law_rows", "_law_count", "_law_longest", "_law_works_drawn", "_law_wished", "_law_hand", "_law_work_here", "_law_k"] (S_f_law_system.args g)) sto := by
  rintro ⟨rest, B, a, b, c, l, e⟩ sto _ ⟨hD, hB, ha, hb, hc, hl, he⟩
  have z3 : 3 ≤ sizeLine := by decide
  have z2 : 2 ≤ sizeLine := by decide
  have z4 : 4 ≤ sizeLine := by decide
  simp? only [w_f_law_system, S_f_law_system, wComp, wipeE]
  refine next_use hD (by omega) fun x1 st1 a1 b1 hD => ?_
  (try simp? only [true_and])
  have hx1 := Int.emod_nonneg x1 (show a ≠ 0 by omega)
  have hx2 := Int.emod_lt_of_pos x1 (show 0 < a by omega)
  obtain ⟨D, eD⟩ : ∃ D, D = 1 + x1 % a := ⟨_, rfl⟩
  simp only [← eD]
  refine ⟨by omega, z3, next_use hD (by omega) fun x2 st2 a2 b2 hD => ?_⟩
  (try simp? only [true_and])
  obtain ⟨p, hp, hp2⟩ := pickI (ns := [100, 6, 3]) (i := x2 % 3) (by omega) (by simp; omega)
  have hp0 : 0 < p := by simp at hp2; omega
  simp only [List.map_cons, List.map_nil] at hp
  simp? only [hp]
  refine ⟨by decide, next_use hD (by omega) fun x3 st3 a3 b3 hD => ?_⟩
  (try simp? only [true_and])
  have hx3 := Int.emod_nonneg x3 (show b ≠ 0 by omega)
  have hx4 := Int.emod_lt_of_pos x3 (show 0 < b by omega)
  obtain ⟨h, eh⟩ : ∃ h, h = 1 + x3 % b := ⟨_, rfl⟩
  simp only [← eh, rangeD_len]
  refine ⟨by omega, ⟨by omega, by omega⟩, by rw [sizeLine_eq]; omega, ?_⟩
  refine compL_inv (fun i st acc => ∃ rows : List (List Int), acc = rows.map dInts ∧ rows.length = i ∧ (∀ r ∈ rows, Row D r) ∧ Dk (B + 3 + i * 1000) rest st) ?_ ?_ _ _ ⟨[], rfl, rfl, fun _ h => (nomatch h), hD.mono (by omega)⟩
  · rintro i st acc d ⟨rows, rfl, hn, hr, hd⟩ he R hR
    obtain ⟨hi, rfl⟩ := rangeD_at he
    simp? only [Tg.dg, wYes, w_f_law_system_1]
    refine rows_use hd (by omega) (by omega) (by omega) hp0 fun row st' hrow hd' => ?_
    refine hR _ _ ⟨rows ++ [row], by simp, by simp; omega, fun r hm => ?_, hd'.mono (by omega)⟩
    rcases List.mem_append.mp hm with z | z
    · exact hr r z
    · rw [List.mem_singleton] at z
      subst z
      rwa [show D - 1 + 1 = D by omega] at hrow
  · rintro st acc ⟨rows, rfl, hn, hr, hd⟩
    rw [rangeD_len] at hn hd
    refine ⟨trivial, ?_⟩
    (try simp? only [true_and])
    refine next_use hd (by omega) fun x4 st4 a4 b4 hD => ?_
    (try simp? only [true_and])
    have hx5 := Int.emod_nonneg x4 (show c + 1 ≠ 0 by omega)
    have hx6 := Int.emod_lt_of_pos x4 (show 0 < c + 1 by omega)
    obtain ⟨k, ek⟩ : ∃ k, k = x4 % (c + 1) := ⟨_, rfl⟩
    simp only [← ek]
    refine ⟨by omega, z2, next_use hD (by omega) fun x5 st5 a5 b5 hD => ?_⟩
    (try simp? only [true_and])
    refine ⟨by decide, ?_⟩
    obtain ⟨m, hm, hm2⟩ := pickI (ns := [if D < l then D else l, l]) (i := if (x5 % 9 == 4) = true then 1 else 0) (by split <;> decide) (by simp only [List.length_cons, List.length_nil]; split <;> decide)
    have hm0 : 1 ≤ m ∧ m ≤ l := by
      simp only [List.mem_cons, List.not_mem_nil, or_false] at hm2
      rcases hm2 with z | z
      · subst z; split <;> omega
      · omega
    simp only [List.map_cons, List.map_nil] at hm
    simp? only [hm]
    refine ⟨⟨by omega, by omega⟩, by (try rw [rangeD_len]); rw [sizeLine_eq]; omega, ?_⟩
    refine compL_inv (fun i st acc => ∃ ws : List Wk, acc = ws.map Wk.d ∧ ws.length = i ∧ (∀ (j : Nat) (w : Wk), ws[j]? = some w → w.Ok j rows.length l) ∧ Dk (B + 100100 + i * 10000) rest st) ?_ ?_ _ _ ⟨[], rfl, rfl, fun _ _ h => (nomatch h), hD.mono (by omega)⟩
    · rintro i st acc d ⟨ws, rfl, hn2, hr2, hd⟩ he R hR
      obtain ⟨hi, rfl⟩ := rangeD_at he
      simp? only [Tg.dg, wYes, w_f_law_system_2]
      refine work_use hd (by omega) (by omega) (by omega) (by omega) (by omega) (by omega) fun w st' hw hd' => ?_
      refine hR _ _ ⟨ws ++ [w], by simp, by simp; omega, fun j w' hm => ?_, hd'.mono (by omega)⟩
      by_cases hj : j < ws.length
      · rw [List.getElem?_append_left hj] at hm
        exact hr2 j w' hm
      · rw [List.getElem?_append_right (by omega)] at hm
        have e0 : j = ws.length := by
          have := (List.getElem?_eq_some_iff.mp hm).1
          rw [List.length_singleton] at this
          omega
        subst e0
        rw [Nat.sub_self] at hm
        cases hm
        have e1 : (0 : Int) + (i : Int) = (ws.length : Nat) := by omega
        rw [e1] at hw
        exact ⟨⟨hw.len.1, by have := hw.len.2; omega⟩, hw.ahead, hw.able, hw.any⟩
    · rintro st acc ⟨ws, rfl, hn2, hr2, hd⟩
      rw [rangeD_len] at hn2 hd
      refine ⟨trivial, ?_⟩
      (try simp? only [true_and])
      refine next_use hd (by omega) fun x6 st6 a6 b6 hD => ?_
      (try simp? only [true_and])
      have hx7 := Int.emod_nonneg x6 (show e + 1 ≠ 0 by omega)
      have hx8 := Int.emod_lt_of_pos x6 (show 0 < e + 1 by omega)
      obtain ⟨u, eu⟩ : ∃ u, u = x6 % (e + 1) := ⟨_, rfl⟩
      simp only [← eu]
      have hw : 0 ≤ u * (if 0 < k then 1 else 0) ∧ u * (if 0 < k then 1 else 0) ≤ e ∧ (0 < u * (if 0 < k then 1 else 0) → 0 < k) := by
        by_cases hk : 0 < k
        · rw [if_pos hk]; omega
        · rw [if_neg hk]; omega
      obtain ⟨v, ev⟩ : ∃ v, v = u * (if 0 < k then 1 else 0) := ⟨_, rfl⟩
      rw [← ev] at hw
      refine ⟨by omega, .inl ⟨by omega, by omega⟩, ?_⟩
      (try simp only [← ev])
      refine ⟨⟨by omega, by omega⟩, by (try rw [rangeD_len]); rw [sizeLine_eq]; omega, ?_⟩
      refine compL_inv (fun i st acc => ∃ us : List Ws, acc = us.map Ws.d ∧ us.length = i ∧ (∀ u ∈ us, u.Ok ws.length D) ∧ Dk (B + 2000000 + i * 100) rest st) ?_ ?_ _ _ ⟨[], rfl, rfl, fun _ h => (nomatch h), hD.mono (by omega)⟩
      · rintro i st acc d ⟨us, rfl, hn3, hr3, hd⟩ he R hR
        obtain ⟨hi, rfl⟩ := rangeD_at he
        simp? only [Tg.dg, wYes, w_f_law_system_3]
        refine wish_use hd (by omega) (by omega) (by omega) fun w st' hw hd' => ?_
        refine hR _ _ ⟨us ++ [w], by simp, by simp; omega, fun r hm => ?_, hd'.mono (by omega)⟩
        rcases List.mem_append.mp hm with z | z
        · exact hr3 r z
        · rw [List.mem_singleton] at z
          subst z
          rwa [show k = (ws.length : Int) by omega] at hw
      · rintro st acc ⟨us, rfl, hn3, hr3, hd⟩
        rw [rangeD_len] at hn3 hd
        refine ⟨trivial, ?_⟩
        (try simp? only [true_and])
        exact ⟨z4, ⟨D, rows, ws, us⟩, rfl, ⟨⟨by dsimp only; omega, by dsimp only; omega⟩, ⟨by dsimp only; omega, by dsimp only; omega⟩, hr, by dsimp only; omega, hr2, by dsimp only; omega, hr3⟩, hd.mono (by omega)⟩
theorem deck_use {ns : List Int} {Q : DK} (h : ns.length ≤ 63) (q : ∀ st', Dk 0 [] st' → Q (.ref 2) st') :
    ∃ g, [D.scr (ns.map .int)] = S_f_law_deck.args g ∧ (S_f_law_deck.args g).length = S_f_law_deck.n ∧ S_f_law_deck.pre g [] ∧ ∀ d s2, S_f_law_deck.post g [] d s2 → Q d s2 :=
  ⟨ns, rfl, rfl, ⟨h, rfl⟩, fun d s2 ⟨e1, e2⟩ => by subst e1; exact q s2 e2⟩
theorem sys_use {B a b c l e : Int} {rest st : Sto} {Q : DK} (hD : Dk B rest st) (hb : B < 2 ^ 37) (ha : 1 ≤ a ∧ a ≤ 900) (hb' : 1 ≤ b ∧ b ≤ 100) (hc : 0 ≤ c ∧ c ≤ 100) (hl : 1 ≤ l ∧ l ≤ 900) (he : 0 ≤ e ∧ e ≤ 100) (q : ∀ (s : Sy) st', s.Ok a b c l e → Dk (B + 10000000) rest st' → Q s.d st') :
    ∃ g, [D.ref 2, .int a, .int b, .int c, .int l, .int e] = S_f_law_system.args g ∧ (S_f_law_system.args g).length = S_f_law_system.n ∧ S_f_law_system.pre g st ∧ ∀ d s2, S_f_law_system.post g st d s2 → Q d s2 :=
  ⟨(rest, B, a, b, c, l, e), rfl, rfl, ⟨hD, hb, ha, hb', hc, hl, he⟩, fun d s2 ⟨w, e, h0, h1⟩ => by subst e; exact q w s2 h0 h1⟩
def pureS (n : Nat) {G : Type} (args : G → List D) (pre : G → Prop) (val : G → D) : DL.Spec := ⟨n, G, args, fun g _ => pre g, fun g st d st' => st' = st ∧ d = val g⟩
theorem use_pure {n : Nat} {G : Type} {args : G → List D} {pre : G → Prop} {val : G → D} {a : List D} {st : Sto} {Q : DK} (g : G) (e : a = args g) (hl : (args g).length = n) (hp : pre g) (q : Q (val g) st) :
    ∃ g, a = (pureS n args pre val).args g ∧ ((pureS n args pre val).args g).length = (pureS n args pre val).n ∧ (pureS n args pre val).pre g st ∧ ∀ d s2, (pureS n args pre val).post g st d s2 → Q d s2 :=
  ⟨g, e, hl, hp, fun d s2 ⟨e1, e2⟩ => by subst e1; subst e2; exact q⟩
/-- a def that draws from the deck, at most c times -/
def deckS (n : Nat) (c : Int) {G : Type} (args : G → List D) (pre : G → Prop) (post : G → D → Prop) : DL.Spec :=
  ⟨n, Sto × Int × G, fun x => .ref 2 :: args x.2.2, fun x st => Dk x.2.1 x.1 st ∧ x.2.1 + c < 2 ^ 36 ∧ pre x.2.2, fun x _ d st' => post x.2.2 d ∧ Dk (x.2.1 + c) x.1 st'⟩
theorem use_deck {n : Nat} {c : Int} {G : Type} {args : G → List D} {pre : G → Prop} {post : G → D → Prop} {a : List D} {B : Int} {r st : Sto} {Q : DK} (g : G) (e : a = .ref 2 :: args g) (hl : (args g).length + 1 = n)
    (hD : Dk B r st) (hB : B + c < 2 ^ 36) (hp : pre g) (q : ∀ d st', post g d → Dk (B + c) r st' → Q d st') :
    ∃ g, a = (deckS n c args pre post).args g ∧ ((deckS n c args pre post).args g).length = (deckS n c args pre post).n ∧ (deckS n c args pre post).pre g st ∧ ∀ d s2, (deckS n c args pre post).post g st d s2 → Q d s2 :=
  ⟨(r, B, g), e, hl, ⟨hD, hB, hp⟩, fun d s2 ⟨e1, e2⟩ => q d s2 e1 e2⟩
section
variable {B B0 : Int} {rest ex st st' sto : Sto} {c c' : Cel}
theorem _root_.DL.Dk.len (h : Dk B rest st) : st.length = rest.length + 3 := by
  obtain ⟨ds, cs, t, rfl, _⟩ := h
  rfl
theorem _root_.DL.Dk.push (h : Dk B rest st) : Dk B (rest ++ [c]) (st ++ [c]) := by
  obtain ⟨ds, cs, t, rfl, r⟩ := h
  exact ⟨ds, cs, t, rfl, r⟩
theorem _root_.DL.Dk.top (h : Dk B (rest ++ [c]) st) : st[rest.length + 3]? = some c := by
  obtain ⟨ds, cs, t, rfl, r⟩ := h
  simp only [List.getElem?_cons_succ]
  exact get_last _ _
theorem _root_.DL.Dk.put (h : Dk B (rest ++ [c]) st) : Dk B (rest ++ [c']) (st.set (rest.length + 3) c') := by
  obtain ⟨ds, cs, t, rfl, r⟩ := h
  refine ⟨ds, cs, t, ?_, r⟩
  simp only [List.set_cons_succ, set_last]
theorem _root_.DL.Dk.pop (h : Dk B (rest ++ ex) st') : ∃ st1, st' = st1 ++ ex ∧ Dk B rest st1 := by
  obtain ⟨ds, cs, t, rfl, r⟩ := h
  exact ⟨_, rfl, ds, cs, t, rfl, r⟩
theorem blwL_ints (n : Nat) : ∀ ns : List Int, D.blwL n (ns.map .int) = true
  | [] => rfl
  | _ :: r => by rw [List.map_cons]; simp only [D.blwL, D.blw, Bool.true_and]; exact blwL_ints n r
theorem dk_pop {post : D → Sto → Prop} {d : D} (h0 : Dk B0 rest sto) (h : Dk B (rest ++ ex) st') (hb : d.blw sto.length = true) (q : ∀ st1, Dk B rest st1 → post d st1) : popEnds sto.length sto post d st' := by
  obtain ⟨st1, rfl, h1⟩ := h.pop
  refine ⟨st1, ex, rfl, by rw [h1.len, h0.len], hb, fun i c hc => ?_, q _ h1⟩
  have hlen := h0.len
  obtain ⟨ds, cs, t, rfl, _⟩ := h1
  obtain ⟨ds0, cs0, t0, rfl, _⟩ := h0
  match i, hc with
  | 0, hc => cases hc; exact .inr (by simp only [Cel.blw]; exact blwL_ints _ _)
  | 1, hc => cases hc; exact .inr (by simp only [Cel.blw]; exact blwL_ints _ _)
  | 2, hc => cases hc; refine .inr ?_; rw [hlen]; simp [Cel.blw, D.blwL, D.blw]
  | i + 3, hc => exact .inl hc
end
theorem compL_all {α β : Type} {G : Sto → Prop} {t : Tg} {c : DT} {w : DE} {env : En} {Q : LK} {st : Sto} (enc : α → D) (f : α → β) (enc' : β → D) (hG : G st) (xs : List α)
    (step : ∀ x ∈ xs, ∀ R : Option D → Sto → Prop, R (some (enc' (f x))) st → t.dg (enc x) env st fun e s => c e s fun b s1 => if b = true then w e s1 fun y s2 => R (some y) s2 else R none s1)
    (q : Q ((xs.map f).map enc') st) : wCompL G t c w env (xs.map enc) st [] Q := by
  refine compL_map enc (fun x => some (enc' (f x))) hG xs [] (fun x hx R hR => step x hx R hR) ?_
  rw [List.nil_append]
  have e : xs.filterMap (fun x => some (enc' (f x))) = (xs.map f).map enc' := by
    rw [List.map_map]; exact congrFun (List.filterMap_eq_map (f := enc' ∘ f)) xs
  rw [e]; exact q
/-- a comprehension whose items are drawn -/
theorem compL_deck {α : Type} {t : Tg} {c : DT} {w : DE} {env : En} {Q : LK} {rest st : Sto} (enc : α → D) (P : Nat → α → Prop) (f : Nat → Int) (ds : List D) (hD : Dk (f 0) rest st)
    (step : ∀ (i : Nat) d st, ds[i]? = some d → i < ds.length → Dk (f i) rest st → ∀ R : Option D → Sto → Prop, (∀ x st', P i x → Dk (f (i + 1)) rest st' → R (some (enc x)) st') → t.dg d env st fun e s => c e s fun b s1 => if b = true then w e s1 fun y s2 => R (some y) s2 else R none s1)
    (q : ∀ xs : List α, xs.length = ds.length → (∀ (j : Nat) x, xs[j]? = some x → P j x) → ∀ st', Dk (f ds.length) rest st' → Q (xs.map enc) st') : wCompL (fun _ => True) t c w env ds st [] Q := by
  refine compL_inv (fun i st acc => ∃ xs : List α, acc = xs.map enc ∧ xs.length = i ∧ (∀ (j : Nat) x, xs[j]? = some x → P j x) ∧ Dk (f i) rest st) ?_ ?_ _ _ ⟨[], rfl, rfl, fun j x h => by simp at h, hD⟩
  · rintro i st acc d ⟨xs, rfl, hn, hP, hd⟩ he R hR
    have hi := (List.getElem?_eq_some_iff.mp he).1
    refine ⟨trivial, step i d st he hi hd (fun o s => match o with | some y => R s (xs.map enc ++ [y]) | none => R s (xs.map enc)) fun x st' hx hd' => ?_⟩
    refine hR _ _ ⟨xs ++ [x], by simp, by simp; omega, fun j y hy => ?_, hd'⟩
    by_cases hj : j < xs.length
    · rw [List.getElem?_append_left hj] at hy; exact hP j y hy
    · rw [List.getElem?_append_right (by omega)] at hy
      have e0 : j - xs.length = 0 := by have := (List.getElem?_eq_some_iff.mp hy).1; rw [List.length_singleton] at this; omega
      rw [e0] at hy
      cases hy
      rw [show j = i by omega]
      exact hx
  · rintro st acc ⟨xs, rfl, hn, hP, hd⟩
    exact ⟨trivial, q xs hn hP st hd⟩
theorem isE_map {α β : Type} (f : α → β) (xs : List α) : (xs.map f).isEmpty = xs.isEmpty := by cases xs <;> rfl
theorem pk2 {a b x : Int} : ∃ v : Int, atI [D.int a, .int b] (x % 2) = some (.int v) ∧ (v = a ∨ v = b) := by
  have h : x % 2 = 0 ∨ x % 2 = 1 := by omega
  rcases h with h | h
  · exact ⟨a, by rw [h]; rfl, .inl rfl⟩
  · exact ⟨b, by rw [h]; rfl, .inr rfl⟩
theorem pk3 {a b c x : Int} : ∃ v : Int, atI [D.int a, .int b, .int c] (x % 3) = some (.int v) ∧ (v = a ∨ v = b ∨ v = c) := by
  have h : x % 3 = 0 ∨ x % 3 = 1 ∨ x % 3 = 2 := by omega
  rcases h with h | h | h
  · exact ⟨a, by rw [h]; rfl, .inl rfl⟩
  · exact ⟨b, by rw [h]; rfl, .inr (.inl rfl)⟩
  · exact ⟨c, by rw [h]; rfl, .inr (.inr rfl)⟩
theorem modb (x : Int) {n : Int} (h : 0 < n) : 0 ≤ x % n ∧ x % n < n := ⟨Int.emod_nonneg _ (by omega), Int.emod_lt_of_pos _ h⟩
theorem seq_go {a k : DS} {A : DEnds} {env : En} {st : Sto} (h : a { nx := fun e s => k A e s, rt := A.rt, bk := A.bk, ct := A.ct } env st) : wSeq a k A env st := h
/-- what holds behind a statement, whichever way -/
theorem seq_cut {a k : DS} {A : DEnds} {env : En} {st : Sto} (J : En → Sto → Prop) (h : ∀ K : En → Sto → Prop, (∀ e s, J e s → K e s) → a { nx := K, rt := A.rt, bk := A.bk, ct := A.ct } env st) (hk : ∀ e s, J e s → k A e s) : wSeq a k A env st := h _ hk
@[simp] theorem enum_len (ds : List D) : (enumD ds).length = ds.length := by unfold enumD; rw [List.length_map, List.length_zipIdx]
theorem v_mulT {x : List D} {k : Int} {st : Sto} {Q : DK} : dMul (.tup x) (.int k) st Q = (-(2 ^ 63) ≤ k ∧ k ≤ 1000 ∧ x.length ≤ 1000 ∧ Q (.tup (List.replicate k.toNat x).flatten) st) := rfl
abbrev S30 (s : Sy) : Prop := s.Ok 30 5 100 900 100
theorem s30_of {s : Sy} {a b c l e : Int} (o : s.Ok a b c l e) (ha : a ≤ 30) (hb : b ≤ 5) (hc : c ≤ 100) (hl : l ≤ 900) (he : e ≤ 100) : S30 s :=
  ⟨by have := o.days; omega, by have := o.hands; omega, o.rows, by have := o.works; omega, fun i w h => by have := o.work i w h; exact ⟨by have := this.len; omega, this.ahead, this.able, this.any⟩, by have := o.wishes; omega, o.wish⟩
structure SubF (f g : List (List (Int × Int))) : Prop where
  len : f.length = g.length
  sub : ∀ (i : Nat) r, f[i]? = some r → ∃ r', g[i]? = some r' ∧ r.Sublist r'
theorem SubF.trans {f g h : List (List (Int × Int))} (a : SubF f g) (b : SubF g h) : SubF f h :=
  ⟨a.len.trans b.len, fun i r e => by obtain ⟨r1, e1, s1⟩ := a.sub i r e; obtain ⟨r2, e2, s2⟩ := b.sub i r1 e1; exact ⟨r2, e2, s1.trans s2⟩⟩
theorem SubF.nil : SubF [] [] := ⟨rfl, fun _ _ h => by simp at h⟩
theorem SubF.snoc {f g : List (List (Int × Int))} {r r' : List (Int × Int)} (a : SubF f g) (b : r.Sublist r') : SubF (f ++ [r]) (g ++ [r']) := by
  refine ⟨by rw [List.length_append, List.length_append, a.len]; rfl, fun i x h => ?_⟩
  by_cases hi : i < f.length
  · rw [List.getElem?_append_left hi] at h
    rw [List.getElem?_append_left (by rw [← a.len]; exact hi)]
    exact a.sub i x h
  · rw [List.getElem?_append_right (by omega)] at h
    rw [List.getElem?_append_right (by rw [← a.len]; omega), ← a.len]
    have e0 : i - f.length = 0 := by
      have := (List.getElem?_eq_some_iff.mp h).1
      rw [List.length_singleton] at this
      omega
    rw [e0] at h ⊢
    cases h
    exact ⟨r', rfl, b⟩
def S_f_law_same : DL.Spec := ⟨2, D × D, fun (a, b) => [a, b], fun (a, b) st => (rd st a).Fit ∧ (rd st b).Fit, fun (a, b) st d st' => st' = st ∧ d = .bl ((rd st a).rep == (rd st b).rep)⟩
def w_f_law_same : DS := wRet (wOp dEq (wCB bRepr (wCons (wVar 0) (wNil))) (wCB bRepr (wCons (wVar 1) (wNil))))
theorem vc_f_law_same : ∀ g sto, (S_f_law_same.args g).length = S_f_law_same.n → S_f_law_same.pre g sto → w_f_law_same (bodyEnds (S_f_law_same.post g sto)) (startE ["_law_found", "_law_due"] (S_f_law_same.args g)) sto := by
  rintro ⟨a, b⟩ sto _ ⟨h1, h2⟩
  simp? only [w_f_law_same, S_f_law_same, v_repr]
  exact ⟨h1, h2, v_eqs ⟨rfl, rfl⟩⟩
theorem same_use {a b : D} {st : Sto} {Q : DK} (ha : (rd st a).Fit) (hb : (rd st b).Fit) (q : Q (.bl ((rd st a).rep == (rd st b).rep)) st) :
    ∃ g, [a, b] = S_f_law_same.args g ∧ (S_f_law_same.args g).length = S_f_law_same.n ∧ S_f_law_same.pre g st ∧ ∀ d s2, S_f_law_same.post g st d s2 → Q d s2 :=
  ⟨(a, b), rfl, rfl, ⟨ha, hb⟩, fun d s2 ⟨e1, e2⟩ => by subst e1; subst e2; exact q⟩
theorem noRef_of {d : D} (h : d.blw 0 = true) : d.noRef := by
  cases d with
  | ref n => simp [D.blw] at h
  | fn => simp [D.blw] at h
  | exc => simp [D.blw] at h
  | _ => trivial
open TL (join_eq tl tl_append tl_join joinL len_tl ext_tl)
/-- a word of a line: a number or a text -/
abbrev Wd := Int ⊕ Str
def Wd.d : Wd → D
  | .inl i => .int i
  | .inr x => .str x
def wdT : Wd → Str
  | .inl i => toString i
  | .inr x => x
def lineT (ws : List Wd) : Str := Txt.join " " (ws.map wdT) ++ "\n"
def numW (ns : List Int) : List Wd := ns.map .inl
def handW (r : List Int) : List Wd := .inr "hand" :: numW r
def workW (w : Wk) : List Wd := [.inr "work", .inl w.len, .inr "ahead"] ++ numW w.ahead ++ [.inr "able"] ++ numW w.able
def sortT (k : Int) : Str := if k = 0 then "from" else "by"
def wishW (u : Ws) : List Wd := [.inr "wish", .inl u.work, .inr (sortT u.kind), .inl u.day, .inr "weight", .inl u.weight, .inr "rank", .inl u.rank]
def sysW (s : Sy) : List (List Wd) := [[.inr "days", .inl s.days]] ++ s.hands.map handW ++ s.works.map workW ++ s.wishes.map wishW
def textT (s : Sy) : Str := Txt.join "" ((sysW s).map lineT)
/-- a short word -/
structure WdOk (w : Wd) : Prop where
  len : (wdT w).length ≤ 10
  num : ∀ i, w = .inl i → i.natAbs.log2 < 1920
theorem int_len {i : Int} (h : 0 ≤ i ∧ i ≤ 100000) : (toString i : Str).length ≤ 10 := by
  have e := int_text_length_le10 (k := 9) (by decide) (show i.natAbs < 10 ^ 9 by omega)
  show (Str.ofString (toString i)).length ≤ 10
  rw [PySem.ofString_length]
  omega
theorem int_log {i : Int} (h : 0 ≤ i ∧ i ≤ 100000) : i.natAbs.log2 < 1920 := by
  by_cases h0 : i.natAbs = 0
  · rw [h0]; decide
  · have : i.natAbs.log2 < 17 := (Nat.log2_lt h0).mpr (by omega)
    omega
theorem wdOk_i {i : Int} (h : 0 ≤ i ∧ i ≤ 100000) : WdOk (.inl i) := ⟨int_len h, fun j e => by cases e; exact int_log h⟩
theorem wdOk_s {x : Str} (h : x.length ≤ 10) : WdOk (.inr x) := ⟨h, fun j e => nomatch e⟩
theorem words_sum : ∀ {ws : List Wd}, (∀ w ∈ ws, WdOk w) → ((ws.map wdT).map (·.length)).sum ≤ 10 * ws.length
  | [], _ => by simp
  | w :: r, h => by
    have h1 := (h w List.mem_cons_self).len
    have h2 := words_sum (ws := r) fun x hx => h x (List.mem_cons_of_mem _ hx)
    simp only [List.map_cons, List.sum_cons, List.length_cons]
    omega
theorem line_len {ws : List Wd} (h : ∀ w ∈ ws, WdOk w) : (Txt.join " " (ws.map wdT)).length ≤ 11 * ws.length := by
  rw [join_eq]
  have h1 := PySem.StrLaws.join_length_le " " (ws.map wdT)
  have h2 := words_sum h
  rw [List.length_map] at h1
  rw [show (" " : Str).length = 1 from rfl] at h1
  omega
theorem v_addS {a b : Str} {st : Sto} {Q : DK} : dAdd (.str a) (.str b) st Q = (a.length + b.length ≤ sizeLine ∧ Q (.str (a ++ b)) st) := rfl
def w_p_line_of_1 : DE := wCB bStrX (wCons (wVar 1) (wNil))
def w_p_line_of : DS := wRet (wOp dAdd (wMS mJoin (wC (.str " ")) (wComp false (iSeq (wVar 0)) (.nm 1) wYes w_p_line_of_1 [1])) (wC (.str "\n")))
def S_p_line_of : DL.Spec := pureS 1 (fun ws : List Wd => [.lst (ws.map Wd.d)]) (fun ws => ws.length ≤ 100 ∧ ∀ w ∈ ws, WdOk w) (fun ws => .str (lineT ws))
theorem vc_p_line_of : ∀ g sto, (S_p_line_of.args g).length = S_p_line_of.n → S_p_line_of.pre g sto → w_p_line_of (bodyEnds (S_p_line_of.post g sto)) (startE ["words", "word"] (S_p_line_of.args g)) sto := by
  rintro (ws : List Wd) sto _ ⟨hl, hw⟩
  simp? only [w_p_line_of, S_p_line_of, pureS, wComp, wipeE, wMS]
  refine ⟨⟨_, rfl⟩, (by (try simp only [List.length_map, List.length_append, List.length_cons, List.length_nil, List.length_zipIdx, List.length_zip, List.length_range, Int.toNat_natCast, rangeD_len]); rw [sizeLine_eq]; omega), ?_⟩
  refine compL_all Wd.d wdT D.str trivial _ (fun w hm R hR => ?_) ?_
  · cases w with
    | inl i =>
      simp? only [Tg.dg, wYes, w_p_line_of_1, Wd.d, v_strI]
      exact ⟨(hw _ hm).num i rfl, hR⟩
    | inr x =>
      simp? only [Tg.dg, wYes, w_p_line_of_1, Wd.d, v_strS]
      exact hR
  have hll := line_len hw
  have hsum := words_sum hw
  refine ⟨" ", _, ws.map wdT, rfl, rfl, .inl rfl, ?_, ?_⟩
  · rw [List.length_map]
    rw [show (" " : Str).length = 1 from rfl]
    omega
  · simp? only [v_addS]
    refine ⟨?_, rfl⟩
    rw [show ("\n" : Str).length = 1 from rfl]
    rw [sizeLine_eq]
    omega
structure LineOk (ws : List Wd) : Prop where
  len : ws.length ≤ 50
  wd : ∀ w ∈ ws, WdOk w
theorem strLen_append' (a b : Str) : (a ++ b).length = a.length + b.length := by rw [len_tl, tl_append, List.length_append, ← len_tl, ← len_tl]
theorem LineOk.line {ws : List Wd} (h : LineOk ws) : (lineT ws).length ≤ 600 := by
  have h1 := line_len h.wd
  have h2 := h.len
  unfold lineT
  rw [strLen_append', show ("\n" : Str).length = 1 from rfl]
  omega
theorem num_ok {n : Int} {ns : List Int} (h : Row n ns) (hn : n ≤ 100) : ns.length ≤ 100 ∧ ∀ w ∈ numW ns, WdOk w := by
  refine ⟨by have := h.len; omega, fun w hw => ?_⟩
  obtain ⟨i, hi, rfl⟩ := List.mem_map.mp hw
  have := h.2 i hi
  exact wdOk_i (by omega)
abbrev SyT (s : Sy) : Prop := s.Ok 30 5 12 10 24
theorem hand_ok {s : Sy} (hs : SyT s) {r : List Int} (hr : r ∈ s.hands) : LineOk (handW r) := by
  have h1 := hs.rows r hr
  have h2 := hs.days
  have h3 := h1.len
  obtain ⟨_, h4⟩ := num_ok h1 (by omega)
  refine ⟨by unfold handW numW; rw [List.length_cons, List.length_map]; omega, fun w hw => ?_⟩
  rcases List.mem_cons.mp hw with rfl | hw
  · exact wdOk_s (by decide)
  · exact h4 w hw
theorem work_ok {s : Sy} (hs : SyT s) {w : Wk} (hw : w ∈ s.works) : LineOk (workW w) := by
  obtain ⟨i, hi⟩ := List.getElem?_of_mem hw
  have h1 := hs.work i w hi
  have h2 := hs.works
  have h3 := hs.hands
  have h4 := (List.getElem?_eq_some_iff.mp hi).1
  have a1 := h1.ahead.len
  have a2 := h1.able.len
  have hl := h1.len
  obtain ⟨_, b1⟩ := num_ok h1.ahead (by omega)
  obtain ⟨_, b2⟩ := num_ok h1.able (by omega)
  refine ⟨by unfold workW numW; simp only [List.length_append, List.length_cons, List.length_nil, List.length_map]; omega, fun x hx => ?_⟩
  unfold workW at hx
  simp only [List.mem_append, List.mem_cons, List.not_mem_nil, or_false] at hx
  rcases hx with ((hx | hx) | hx) | hx
  · rcases hx with rfl | rfl | rfl
    · exact wdOk_s (by decide)
    · exact wdOk_i (by omega)
    · exact wdOk_s (by decide)
  · exact b1 x hx
  · rw [hx]; exact wdOk_s (by decide)
  · exact b2 x hx
theorem wish_ok {s : Sy} (hs : SyT s) {u : Ws} (hu : u ∈ s.wishes) : LineOk (wishW u) := by
  have h := hs.wish u hu
  have h1 := h.work
  have h2 := h.day
  have h3 := h.weight
  have h4 := h.rank
  have h5 := hs.works
  have h6 := hs.days
  refine ⟨by unfold wishW; simp, fun x hx => ?_⟩
  unfold wishW at hx
  simp only [List.mem_cons, List.not_mem_nil, or_false] at hx
  rcases hx with rfl | rfl | rfl | rfl | rfl | rfl | rfl | rfl
  · exact wdOk_s (by decide)
  · exact wdOk_i (by omega)
  · exact wdOk_s (by unfold sortT; split <;> decide)
  · exact wdOk_i (by omega)
  · exact wdOk_s (by decide)
  · exact wdOk_i (by omega)
  · exact wdOk_s (by decide)
  · exact wdOk_i (by omega)
theorem days_ok {s : Sy} (hs : SyT s) : LineOk [.inr "days", .inl s.days] := by
  have h := hs.days
  refine ⟨by simp, fun x hx => ?_⟩
  simp only [List.mem_cons, List.not_mem_nil, or_false] at hx
  rcases hx with rfl | rfl
  · exact wdOk_s (by decide)
  · exact wdOk_i (by omega)
theorem sys_ok {s : Sy} (hs : SyT s) : (sysW s).length ≤ 50 ∧ ∀ ws ∈ sysW s, LineOk ws := by
  have h1 := hs.hands
  have h2 := hs.works
  have h3 := hs.wishes
  refine ⟨by unfold sysW; simp only [List.length_append, List.length_map, List.length_cons, List.length_nil]; omega, fun ws hw => ?_⟩
  unfold sysW at hw
  simp only [List.mem_append, List.mem_cons, List.not_mem_nil, or_false, List.mem_map] at hw
  rcases hw with ((rfl | ⟨r, hr, rfl⟩) | ⟨w, hw, rfl⟩) | ⟨u, hu, rfl⟩
  · exact days_ok hs
  · exact hand_ok hs hr
  · exact work_ok hs hw
  · exact wish_ok hs hu
theorem sum_le {xs : List Str} {m : Nat} (h : ∀ x ∈ xs, x.length ≤ m) : (xs.map (·.length)).sum ≤ m * xs.length := by
  induction xs with
  | nil => simp
  | cons x r ih =>
    have h1 := h x List.mem_cons_self
    have h2 := ih fun y hy => h y (List.mem_cons_of_mem _ hy)
    rw [List.map_cons, List.sum_cons, List.length_cons, Nat.mul_succ]
    omega
theorem sys_sum {s : Sy} (hs : SyT s) : (((sysW s).map lineT).map (·.length)).sum ≤ 30000 := by
  obtain ⟨h1, h2⟩ := sys_ok hs
  have := sum_le (xs := (sysW s).map lineT) (m := 600) fun x hx => by
    obtain ⟨ws, hw, rfl⟩ := List.mem_map.mp hx
    exact (h2 ws hw).line
  rw [List.length_map] at this
  omega
theorem sort_at {k : Int} (h : 0 ≤ k ∧ k ≤ 1) : atI [D.str "from", D.str "by"] k = some (.str (sortT k)) := by
  have : k = 0 ∨ k = 1 := by omega
  rcases this with rfl | rfl <;> rfl
theorem numW_d (ns : List Int) : (numW ns).map Wd.d = ns.map D.int := by unfold numW; rw [List.map_map]; rfl
theorem v_listTx {ds : List D} {st : Sto} {Q : DK} : bList false [.tup ds] st Q = Q (.lst ds) st :=
  propext ⟨fun ⟨_, _, e, h, q⟩ => by cases e; rcases h with h | h | h <;> cases h; exact q, fun q => ⟨_, _, rfl, .inr (.inl rfl), q⟩⟩
theorem foldl_snoc {α β : Type} (g : α → β) : ∀ (xs : List α) (acc : List β), xs.foldl (fun a x => a ++ [g x]) acc = acc ++ xs.map g
  | [], acc => by simp
  | x :: xs, acc => by
    rw [List.foldl_cons, foldl_snoc g xs, List.append_assoc]
    rfl
theorem v_joinR {a : Str} {ys : List Str} {n : Nat} {st : Sto} {Q : DK} (hc : st[n]? = some (.lst (ys.map D.str))) (hz : (ys.map (·.length)).sum + ys.length * a.length ≤ 16777216) (q : Q (.str (Txt.join a ys)) st) : mJoin (.str a) [.ref n] st Q := ⟨a, _, ys, rfl, rfl, .inl (rd_ref' hc), hz, q⟩
theorem v_joinL {a : Str} {ys : List Str} {st : Sto} {Q : DK} (hz : (ys.map (·.length)).sum + ys.length * a.length ≤ 16777216) (q : Q (.str (Txt.join a ys)) st) : mJoin (.str a) [.lst (ys.map D.str)] st Q := ⟨a, _, ys, rfl, rfl, .inl rfl, hz, q⟩
def w_p_told_1 : DS := wDrop (wM mAppend (wVar 5) (wCons (wCall S_p_line_of (wCons (wOp dAdd (wLst false (wCons (wC (.str "hand")) (wNil))) (wCB (bList false) (wCons (wVar 6) (wNil)))) (wNil))) (wNil)))
def w_p_told_2 : DS := wDrop (wM mAppend (wVar 5) (wCons (wCall S_p_line_of (wCons (wOp dAdd (wOp dAdd (wOp dAdd (wLst false (wCons (wC (.str "work")) (wCons (wVar 7) (wCons (wC (.str "ahead")) (wNil))))) (wCB (bList false) (wCons (wVar 8) (wNil)))) (wLst false (wCons (wC (.str "able")) (wNil)))) (wCB (bList false) (wCons (wVar 9) (wNil)))) (wNil))) (wNil)))
def w_p_told_3 : DS := wDrop (wM mAppend (wVar 5) (wCons (wCall S_p_line_of (wCons (wLst false (wCons (wC (.str "wish")) (wCons (wVar 10) (wCons (wOp dIx (wC (.tup [(.str "from"), (.str "by")])) (wVar 11)) (wCons (wVar 12) (wCons (wC (.str "weight")) (wCons (wVar 13) (wCons (wC (.str "rank")) (wCons (wVar 14) (wNil)))))))))) (wNil))) (wNil)))
def w_p_told : DS := wSeq (wAsg (wVar 0) (gTp 4 (gCn (gNm 1) (gCn (gNm 2) (gCn (gNm 3) (gCn (gNm 4) gNl)))))) (wSeq (wAsg (wLst true (wCons (wCall S_p_line_of (wCons (wLst false (wCons (wC (.str "days")) (wCons (wVar 1) (wNil)))) (wNil))) (wNil))) (gNm 5)) (wSeq (wFor (iSeq (wVar 2)) (gNm 6) w_p_told_1) (wSeq (wFor (iSeq (wVar 3)) (gTp 3 (gCn (gNm 7) (gCn (gNm 8) (gCn (gNm 9) gNl)))) w_p_told_2) (wSeq (wFor (iSeq (wVar 4)) (gTp 5 (gCn (gNm 10) (gCn (gNm 11) (gCn (gNm 12) (gCn (gNm 13) (gCn (gNm 14) gNl)))))) w_p_told_3) (wRet (wMS mJoin (wC (.str "")) (wVar 5)))))))
def S_p_told : DL.Spec := pureS 1 (fun s : Sy => [s.d]) SyT (fun s => .str (textT s))
theorem vc_p_told : ∀ g sto, (S_p_told.args g).length = S_p_told.n → S_p_told.pre g sto → w_p_told (bodyEnds (popEnds sto.length sto (S_p_told.post g sto))) (startE ["system", "days", "hands", "works", "wishes", "lines", "gone", "length", "ahead", "able", "work", "sort", "day", "weight", "rank"] (S_p_told.args g)) sto := by
  rintro (s : Sy) sto _ (hs : SyT s)
  simp?! only [w_p_told, S_p_told, pureS, wFor]
  refine seq_go ?_
  (try simp?! only [true_and])
  have z1 : 1 ≤ sizeLine := by decide
  have z2 : 2 ≤ sizeLine := by decide
  have z3 : 3 ≤ sizeLine := by decide
  have z8 : 8 ≤ sizeLine := by decide
  have hh := hs.hands
  have hw := hs.works
  have hu := hs.wishes
  refine seq_go ?_
  (try simp?! only [true_and])
  refine ⟨z2, ?_⟩
  refine use_pure ([.inr "days", .inl s.days] : List Wd) rfl rfl ⟨by simp, (days_ok hs).wd⟩ ?_
  refine ⟨z1, ?_⟩
  refine seq_cut (fun e st => ∃ x6, e = [some s.d, some (.int s.days), some (.tup (s.hands.map dInts)), some (.tup (s.works.map Wk.d)), some (.tup (s.wishes.map Ws.d)), some (.ref sto.length), x6, none, none, none, none, none, none, none, none] ∧ st = sto ++ [.lst (([lineT [.inr "days", .inl s.days]] ++ s.hands.map fun r => lineT (handW r)).map D.str)]) (fun K hK => ?_) ?_
  · (try simp?! only [true_and])
    refine forL_fold dInts (fun acc r => acc ++ [lineT (handW r)]) (fun i acc e st => ∃ x6, e = [some s.d, some (.int s.days), some (.tup (s.hands.map dInts)), some (.tup (s.works.map Wk.d)), some (.tup (s.wishes.map Ws.d)), some (.ref sto.length), x6, none, none, none, none, none, none, none, none] ∧ st = sto ++ [.lst (acc.map D.str)] ∧ acc.length = i + 1) s.hands [lineT [.inr "days", .inl s.days]] _ _ ?_ ?_ ⟨_, rfl, rfl, rfl⟩
    · rintro i acc r e st hi hr ⟨x6, rfl, rfl, hal⟩ R hR
      refine ⟨trivial, ?_⟩
      have hL := hand_ok hs hr
      have e1 : D.lst (D.str "hand" :: r.map D.int) = D.lst ((handW r).map Wd.d) := by unfold handW; rw [List.map_cons, numW_d]; rfl
      have hrl : r.length ≤ 50 := by have := hL.len; unfold handW numW at this; rw [List.length_cons, List.length_map] at this; omega
      simp? only [w_p_told_1, dInts, v_listTx, v_app (get_last _ _)]
      rw [e1]
      refine ⟨⟨_, rd_ref' (get_last _ _)⟩, z1, (by (try simp only [List.length_map, List.length_append, List.length_cons, List.length_nil, List.length_zipIdx, List.length_zip, List.length_range, Int.toNat_natCast, rangeD_len]); rw [sizeLine_eq]; omega), ?_⟩
      refine use_pure (handW r) rfl rfl ⟨Nat.le_trans hL.len (by decide), hL.wd⟩ ?_
      simp? only [v_app (get_last _ _)]
      refine ⟨by rw [hal, sizeLine_eq]; omega, ?_⟩
      rw [set_last]
      exact hR _ _ ⟨_, rfl, by rw [List.map_append]; rfl, by rw [List.length_append, hal]; rfl⟩
    · rintro e st ⟨x6, rfl, rfl, _⟩
      refine ⟨trivial, hK _ _ ⟨_, rfl, ?_⟩⟩
      rw [foldl_snoc]
  rintro e st ⟨x6, rfl, rfl⟩
  obtain ⟨L1, eL1⟩ : ∃ L1 : List Str, L1 = [lineT [.inr "days", .inl s.days]] ++ s.hands.map fun r => lineT (handW r) := ⟨_, rfl⟩
  have hL1 : L1.length = 1 + s.hands.length := by rw [eL1, List.length_append, List.length_map]; rfl
  rw [← eL1]
  refine seq_cut (fun e st => ∃ x7 x8 x9, e = [some s.d, some (.int s.days), some (.tup (s.hands.map dInts)), some (.tup (s.works.map Wk.d)), some (.tup (s.wishes.map Ws.d)), some (.ref sto.length), x6, x7, x8, x9, none, none, none, none, none] ∧ st = sto ++ [.lst ((L1 ++ s.works.map fun w => lineT (workW w)).map D.str)]) (fun K hK => ?_) ?_
  · (try simp?! only [true_and])
    refine forL_fold Wk.d (fun acc w => acc ++ [lineT (workW w)]) (fun i acc e st => ∃ x7 x8 x9, e = [some s.d, some (.int s.days), some (.tup (s.hands.map dInts)), some (.tup (s.works.map Wk.d)), some (.tup (s.wishes.map Ws.d)), some (.ref sto.length), x6, x7, x8, x9, none, none, none, none, none] ∧ st = sto ++ [.lst (acc.map D.str)] ∧ acc.length = i + (1 + s.hands.length)) s.works L1 _ _ ?_ ?_ ⟨_, _, _, rfl, rfl, by rw [hL1]; omega⟩
    · rintro i acc w e st hi hw ⟨x7, x8, x9, rfl, rfl, hal⟩ R hR
      refine ⟨trivial, ?_⟩
      have hL := work_ok hs hw
      have e1 : D.lst (D.str "work" :: .int w.len :: .str "ahead" :: (w.ahead.map D.int ++ [D.str "able"] ++ w.able.map D.int)) = D.lst ((workW w).map Wd.d) := by
        unfold workW
        simp only [List.map_append, numW_d, List.map_cons, List.map_nil]
        rfl
      have hll : w.ahead.length + w.able.length ≤ 50 := by
        have := hL.len
        unfold workW numW at this
        simp only [List.length_append, List.length_cons, List.length_nil, List.length_map] at this
        omega
      simp? only [w_p_told_2, dInts, v_listTx, v_app (get_last _ _)]
      rw [e1]
      refine ⟨⟨_, rd_ref' (get_last _ _)⟩, z3, (by (try simp only [List.length_map, List.length_append, List.length_cons, List.length_nil, List.length_zipIdx, List.length_zip, List.length_range, Int.toNat_natCast, rangeD_len]); rw [sizeLine_eq]; omega), z1, (by (try simp only [List.length_map, List.length_append, List.length_cons, List.length_nil, List.length_zipIdx, List.length_zip, List.length_range, Int.toNat_natCast, rangeD_len]); rw [sizeLine_eq]; omega), (by (try simp only [List.length_map, List.length_append, List.length_cons, List.length_nil, List.length_zipIdx, List.length_zip, List.length_range, Int.toNat_natCast, rangeD_len]); rw [sizeLine_eq]; omega), ?_⟩
      refine use_pure (workW w) rfl rfl ⟨Nat.le_trans hL.len (by decide), hL.wd⟩ ?_
      simp? only [v_app (get_last _ _)]
      refine ⟨by rw [hal, sizeLine_eq]; omega, ?_⟩
      rw [set_last]
      exact hR _ _ ⟨_, _, _, rfl, by rw [List.map_append]; rfl, by rw [List.length_append, hal]; simp; omega⟩
    · rintro e st ⟨x7, x8, x9, rfl, rfl, _⟩
      refine ⟨trivial, hK _ _ ⟨_, _, _, rfl, ?_⟩⟩
      rw [foldl_snoc]
  rintro e st ⟨x7, x8, x9, rfl, rfl⟩
  obtain ⟨L2, eL2⟩ : ∃ L2 : List Str, L2 = L1 ++ s.works.map fun w => lineT (workW w) := ⟨_, rfl⟩
  have hL2 : L2.length = 1 + s.hands.length + s.works.length := by rw [eL2, List.length_append, List.length_map, hL1]
  rw [← eL2]
  refine seq_cut (fun e st => st = sto ++ [.lst ((L2 ++ s.wishes.map fun u => lineT (wishW u)).map D.str)] ∧ ∃ x10 x11 x12 x13 x14, e = [some s.d, some (.int s.days), some (.tup (s.hands.map dInts)), some (.tup (s.works.map Wk.d)), some (.tup (s.wishes.map Ws.d)), some (.ref sto.length), x6, x7, x8, x9, x10, x11, x12, x13, x14]) (fun K hK => ?_) ?_
  · (try simp?! only [true_and])
    refine forL_fold Ws.d (fun acc u => acc ++ [lineT (wishW u)]) (fun i acc e st => ∃ x10 x11 x12 x13 x14, e = [some s.d, some (.int s.days), some (.tup (s.hands.map dInts)), some (.tup (s.works.map Wk.d)), some (.tup (s.wishes.map Ws.d)), some (.ref sto.length), x6, x7, x8, x9, x10, x11, x12, x13, x14] ∧ st = sto ++ [.lst (acc.map D.str)] ∧ acc.length = i + (1 + s.hands.length + s.works.length)) s.wishes L2 _ _ ?_ ?_ ⟨_, _, _, _, _, rfl, rfl, by rw [hL2]; omega⟩
    · rintro i acc u e st hi hu ⟨x10, x11, x12, x13, x14, rfl, rfl, hal⟩ R hR
      refine ⟨trivial, ?_⟩
      have hL := wish_ok hs hu
      have hk := (hs.wish u hu).kind
      have e1 : D.lst [D.str "wish", .int u.work, .str (sortT u.kind), .int u.day, .str "weight", .int u.weight, .str "rank", .int u.rank] = D.lst ((wishW u).map Wd.d) := rfl
      simp? only [w_p_told_3, Ws.d, sort_at hk, v_app (get_last _ _)]
      rw [e1]
      refine ⟨⟨_, rd_ref' (get_last _ _)⟩, z8, ?_⟩
      refine use_pure (wishW u) rfl rfl ⟨Nat.le_trans hL.len (by decide), hL.wd⟩ ?_
      simp? only [v_app (get_last _ _)]
      refine ⟨by rw [hal, sizeLine_eq]; omega, ?_⟩
      rw [set_last]
      exact hR _ _ ⟨_, _, _, _, _, rfl, by rw [List.map_append]; rfl, by rw [List.length_append, hal]; simp; omega⟩
    · rintro e st ⟨x10, x11, x12, x13, x14, rfl, rfl, _⟩
      refine ⟨trivial, hK _ _ ⟨?_, _, _, _, _, _, rfl⟩⟩
      rw [foldl_snoc]
  rintro e st ⟨rfl, x10, x11, x12, x13, x14, rfl⟩
  have eS : L2 ++ s.wishes.map (fun u => lineT (wishW u)) = (sysW s).map lineT := by
    rw [eL2, eL1]
    unfold sysW
    simp only [List.map_append, List.map_map, List.map_cons, List.map_nil]
    rfl
  rw [eS]
  simp?! only [wMS]
  refine ⟨⟨_, rfl⟩, v_joinR (get_last _ _) ?_ ⟨sto, _, rfl, rfl, rfl, fun i c h => .inl h, rfl, rfl⟩⟩
  rw [show ("" : Str).length = 0 from rfl]
  have := sys_sum hs
  omega
def rowT (ws : List Wd) : Str := Txt.join " " (ws.map wdT)
theorem rowT_days (i : Int) : ("days " : Str) ++ (toString i : Str) = rowT [.inr "days", .inl i] := by
  unfold rowT
  rw [join_eq]
  apply ext_tl
  rw [tl_append, tl_join]
  show tl "days " ++ tl _ = tl "days" ++ (tl " " ++ tl _)
  rw [← List.append_assoc]
  rfl
theorem row_sum {ws : List Wd} (h : LineOk ws) : ((ws.map wdT).map (·.length)).sum + (ws.map wdT).length * (" " : Str).length ≤ 16777216 := by
  have h1 := words_sum h.wd
  have h2 := h.len
  rw [List.length_map, show (" " : Str).length = 1 from rfl]
  omega
theorem v_strN {i : Int} {st : Sto} {Q : DK} : bStr [.int i] st Q = (i.natAbs.log2 < 1920 ∧ Q (.str (toString i)) st) := propext ⟨fun ⟨j, e, z, q⟩ => by cases e; exact ⟨z, q⟩, fun ⟨z, q⟩ => ⟨i, rfl, z, q⟩⟩
def numT (ns : List Int) : List Str := ns.map fun i => (toString i : Str)
theorem numW_T (ns : List Int) : (numW ns).map wdT = numT ns := by unfold numW numT; rw [List.map_map]; rfl
def w_f_law_text_1 : DE := wCB bStr (wCons (wVar 13) (wNil))
def w_f_law_text_2 : DS := wDrop (wM mAppend (wVar 5) (wCons (wMS mJoin (wC (.str " ")) (wOp dAdd (wLst false (wCons (wC (.str "hand")) (wNil))) (wComp false (iSeq (wVar 6)) (.nm 13) wYes w_f_law_text_1 [13]))) (wNil)))
def w_f_law_text_3 : DE := wCB bStr (wCons (wVar 16) (wNil))
def w_f_law_text_4 : DE := wCB bStr (wCons (wVar 16) (wNil))
def w_f_law_text_5 : DS := wSeq (wAsg (wOp dAdd (wLst false (wCons (wC (.str "work")) (wCons (wCB bStr (wCons (wVar 7) (wNil))) (wCons (wC (.str "ahead")) (wNil))))) (wComp false (iSeq (wVar 8)) (.nm 16) wYes w_f_law_text_3 [16])) (gNm 10)) (wDrop (wM mAppend (wVar 5) (wCons (wMS mJoin (wC (.str " ")) (wOp dAdd (wOp dAdd (wVar 10) (wLst false (wCons (wC (.str "able")) (wNil)))) (wComp false (iSeq (wVar 9)) (.nm 16) wYes w_f_law_text_4 [16]))) (wNil))))
def w_f_law_text_6 : DS := wSeq (wAsg (wLst false (wCons (wC (.str "wish")) (wCons (wCB bStr (wCons (wVar 11) (wNil))) (wCons (wOp dIx (wLst false (wCons (wC (.str "from")) (wCons (wC (.str "by")) (wNil)))) (wVar 12)) (wCons (wCB bStr (wCons (wVar 13) (wNil))) (wCons (wC (.str "weight")) (wCons (wCB bStr (wCons (wVar 14) (wNil))) (wCons (wC (.str "rank")) (wCons (wCB bStr (wCons (wVar 15) (wNil))) (wNil)))))))))) (gNm 10)) (wDrop (wM mAppend (wVar 5) (wCons (wMS mJoin (wC (.str " ")) (wVar 10)) (wNil))))
def w_f_law_text_7 : DE := wOp dAdd (wVar 10) (wC (.str "\n"))
def w_f_law_text : DS := wSeq (wAsg (wVar 0) (gTp 4 (gCn (gNm 1) (gCn (gNm 2) (gCn (gNm 3) (gCn (gNm 4) gNl)))))) (wSeq (wAsg (wLst true (wCons (wOp dAdd (wC (.str "days ")) (wCB bStr (wCons (wVar 1) (wNil)))) (wNil))) (gNm 5)) (wSeq (wFor (iSeq (wVar 2)) (gNm 6) w_f_law_text_2) (wSeq (wFor (iSeq (wVar 3)) (gTp 3 (gCn (gNm 7) (gCn (gNm 8) (gCn (gNm 9) gNl)))) w_f_law_text_5) (wSeq (wFor (iSeq (wVar 4)) (gTp 5 (gCn (gNm 11) (gCn (gNm 12) (gCn (gNm 13) (gCn (gNm 14) (gCn (gNm 15) gNl)))))) w_f_law_text_6) (wRet (wMS mJoin (wC (.str "")) (wComp false (iSeq (wVar 5)) (.nm 10) wYes w_f_law_text_7 [10])))))))
def S_f_law_text : DL.Spec := pureS 1 (fun s : Sy => [s.d]) SyT (fun s => .str (textT s))
theorem vc_f_law_text : ∀ g sto, (S_f_law_text.args g).length = S_f_law_text.n → S_f_law_text.pre g sto → w_f_law_text (bodyEnds (popEnds sto.length sto (S_f_law_text.post g sto))) (startE ["_law_system_here", "_law_days_here", "_law_hands", "_law_works", "_law_wishes", "_law_rows", "_law_gone", "_law_length", "_law_ahead", "_law_able", "_law_row", "_law_work_here", "_law_sort", "_law_day", "_law_weight", "_law_rank", "_law_one"] (S_f_law_text.args g)) sto := by
  rintro (s : Sy) sto _ (hs : SyT s)
  have z1 : 1 ≤ sizeLine := by decide
  have z2 : 2 ≤ sizeLine := by decide
  have z3 : 3 ≤ sizeLine := by decide
  have z8 : 8 ≤ sizeLine := by decide
  have hh := hs.hands
  have hw := hs.works
  have hu := hs.wishes
  have hd := hs.days
  simp?! only [w_f_law_text, S_f_law_text, pureS, wFor, wMS]
  refine seq_go ?_
  (try simp?! only [true_and])
  refine seq_go ?_
  (try simp?! only [true_and])
  rw [v_strN]
  simp?! only [v_addS]
  refine ⟨int_log (by omega), by rw [show ("days " : Str).length = 5 from rfl, sizeLine_eq]; have := int_len (i := s.days) (by omega); omega, z1, ?_⟩
  rw [rowT_days]
  refine seq_cut (fun e st => ∃ x6, e = [some s.d, some (.int s.days), some (.tup (s.hands.map dInts)), some (.tup (s.works.map Wk.d)), some (.tup (s.wishes.map Ws.d)), some (.ref sto.length), x6, none, none, none, none, none, none, none, none, none, none] ∧ st = sto ++ [.lst (([rowT [.inr "days", .inl s.days]] ++ s.hands.map fun r => rowT (handW r)).map D.str)]) (fun K hK => ?_) ?_
  · (try simp?! only [true_and])
    refine forL_fold dInts (fun acc r => acc ++ [rowT (handW r)]) (fun i acc e st => ∃ x6, e = [some s.d, some (.int s.days), some (.tup (s.hands.map dInts)), some (.tup (s.works.map Wk.d)), some (.tup (s.wishes.map Ws.d)), some (.ref sto.length), x6, none, none, none, none, none, none, none, none, none, none] ∧ st = sto ++ [.lst (acc.map D.str)] ∧ acc.length = i + 1) s.hands [rowT [.inr "days", .inl s.days]] _ _ ?_ ?_ ⟨_, rfl, rfl, rfl⟩
    · rintro i acc r e st hi hr ⟨x6, rfl, rfl, hal⟩ R hR
      refine ⟨trivial, ?_⟩
      have hL := hand_ok hs hr
      have hrow := hs.rows r hr
      have e1 : D.lst (D.str "hand" :: (numT r).map D.str) = D.lst (((handW r).map wdT).map D.str) := by unfold handW; rw [List.map_cons, numW_T]; rfl
      have hrl : r.length ≤ 50 := by have := hL.len; unfold handW numW at this; rw [List.length_cons, List.length_map] at this; omega
      simp? only [w_f_law_text_2, dInts, wComp, wipeE, wMS, v_app (get_last _ _)]
      refine ⟨⟨_, rd_ref' (get_last _ _)⟩, ⟨_, rfl⟩, z1, (by (try simp only [List.length_map, List.length_append, List.length_cons, List.length_nil, List.length_zipIdx, List.length_zip, List.length_range, Int.toNat_natCast, rangeD_len]); rw [sizeLine_eq]; omega), ?_⟩
      refine compL_all D.int (fun i => (toString i : Str)) D.str trivial _ (fun k hk R2 hR2 => ?_) ?_
      · simp? only [Tg.dg, wYes, w_f_law_text_1]
        rw [v_strN]
        exact ⟨int_log (by have := hrow.2 k hk; omega), hR2⟩
      (try simp? only [true_and])
      refine ⟨(by (try simp only [List.length_map, List.length_append, List.length_cons, List.length_nil, List.length_zipIdx, List.length_zip, List.length_range, Int.toNat_natCast, rangeD_len]); rw [sizeLine_eq]; omega), ?_⟩
      rw [show List.map (fun i => (toString i : Str)) r = numT r from rfl, e1]
      refine v_joinL (row_sum hL) ?_
      simp? only [v_app (get_last _ _)]
      refine ⟨by rw [hal, sizeLine_eq]; omega, ?_⟩
      rw [set_last]
      exact hR _ _ ⟨_, rfl, by rw [List.map_append]; rfl, by rw [List.length_append, hal]; rfl⟩
    · rintro e st ⟨x6, rfl, rfl, _⟩
      refine ⟨trivial, hK _ _ ⟨_, rfl, ?_⟩⟩
      rw [foldl_snoc]
  rintro e st ⟨x6, rfl, rfl⟩
  obtain ⟨L1, eL1⟩ : ∃ L1 : List Str, L1 = [rowT [.inr "days", .inl s.days]] ++ s.hands.map fun r => rowT (handW r) := ⟨_, rfl⟩
  have hL1 : L1.length = 1 + s.hands.length := by rw [eL1, List.length_append, List.length_map]; rfl
  rw [← eL1]
  refine seq_cut (fun e st => ∃ x7 x8 x9 x10, e = [some s.d, some (.int s.days), some (.tup (s.hands.map dInts)), some (.tup (s.works.map Wk.d)), some (.tup (s.wishes.map Ws.d)), some (.ref sto.length), x6, x7, x8, x9, x10, none, none, none, none, none, none] ∧ st = sto ++ [.lst ((L1 ++ s.works.map fun w => rowT (workW w)).map D.str)]) (fun K hK => ?_) ?_
  · (try simp?! only [true_and])
    refine forL_fold Wk.d (fun acc w => acc ++ [rowT (workW w)]) (fun i acc e st => ∃ x7 x8 x9 x10, e = [some s.d, some (.int s.days), some (.tup (s.hands.map dInts)), some (.tup (s.works.map Wk.d)), some (.tup (s.wishes.map Ws.d)), some (.ref sto.length), x6, x7, x8, x9, x10, none, none, none, none, none, none] ∧ st = sto ++ [.lst (acc.map D.str)] ∧ acc.length = i + (1 + s.hands.length)) s.works L1 _ _ ?_ ?_ ⟨_, _, _, _, rfl, rfl, by rw [hL1]; omega⟩
    · rintro i acc w e st hi hwm ⟨x7, x8, x9, x10, rfl, rfl, hal⟩ R hR
      refine ⟨trivial, ?_⟩
      have hL := work_ok hs hwm
      obtain ⟨wi, hwi⟩ := List.getElem?_of_mem hwm
      have hwk := hs.work wi w hwi
      have hwil := (List.getElem?_eq_some_iff.mp hwi).1
      have hwl := hwk.len
      have e1 : D.lst (D.str "work" :: .str (toString w.len) :: .str "ahead" :: ((numT w.ahead).map D.str ++ [D.str "able"] ++ (numT w.able).map D.str)) = D.lst (((workW w).map wdT).map D.str) := by
        unfold workW
        simp only [List.map_append, numW_T, List.map_cons, List.map_nil]
        rfl
      have hll : w.ahead.length + w.able.length ≤ 50 := by
        have := hL.len
        unfold workW numW at this
        simp only [List.length_append, List.length_cons, List.length_nil, List.length_map] at this
        omega
      simp?! only [w_f_law_text_5, dInts, wComp, wipeE, wMS]
      refine seq_go ?_
      (try simp?! only [true_and])
      rw [v_strN]
      refine ⟨int_log (by omega), z3, (by (try simp only [List.length_map, List.length_append, List.length_cons, List.length_nil, List.length_zipIdx, List.length_zip, List.length_range, Int.toNat_natCast, rangeD_len]); rw [sizeLine_eq]; omega), ?_⟩
      refine compL_all D.int (fun i => (toString i : Str)) D.str trivial _ (fun k hk R2 hR2 => ?_) ?_
      · simp? only [Tg.dg, wYes, w_f_law_text_3]
        rw [v_strN]
        exact ⟨int_log (by have := hwk.ahead.2 k hk; omega), hR2⟩
      simp?! only [wMS]
      refine ⟨(by (try simp only [List.length_map, List.length_append, List.length_cons, List.length_nil, List.length_zipIdx, List.length_zip, List.length_range, Int.toNat_natCast, rangeD_len]); rw [sizeLine_eq]; omega), ?_⟩
      refine ⟨⟨_, rd_ref' (get_last _ _)⟩, ⟨_, rfl⟩, z1, (by (try simp only [List.length_map, List.length_append, List.length_cons, List.length_nil, List.length_zipIdx, List.length_zip, List.length_range, Int.toNat_natCast, rangeD_len]); rw [sizeLine_eq]; omega), (by (try simp only [List.length_map, List.length_append, List.length_cons, List.length_nil, List.length_zipIdx, List.length_zip, List.length_range, Int.toNat_natCast, rangeD_len]); rw [sizeLine_eq]; omega), ?_⟩
      refine compL_all D.int (fun i => (toString i : Str)) D.str trivial _ (fun k hk R2 hR2 => ?_) ?_
      · simp? only [Tg.dg, wYes, w_f_law_text_4]
        rw [v_strN]
        exact ⟨int_log (by have := hwk.able.2 k hk; omega), hR2⟩
      (try simp? only [true_and])
      refine ⟨(by (try simp only [List.length_map, List.length_append, List.length_cons, List.length_nil, List.length_zipIdx, List.length_zip, List.length_range, Int.toNat_natCast, rangeD_len]); rw [sizeLine_eq]; omega), ?_⟩
      rw [show List.map (fun i => (toString i : Str)) w.ahead = numT w.ahead from rfl, show List.map (fun i => (toString i : Str)) w.able = numT w.able from rfl, e1]
      refine v_joinL (row_sum hL) ?_
      simp? only [v_app (get_last _ _)]
      refine ⟨by rw [hal, sizeLine_eq]; omega, ?_⟩
      rw [set_last]
      exact hR _ _ ⟨_, _, _, _, rfl, by rw [List.map_append]; rfl, by rw [List.length_append, hal]; simp; omega⟩
    · rintro e st ⟨x7, x8, x9, x10, rfl, rfl, _⟩
      refine ⟨trivial, hK _ _ ⟨_, _, _, _, rfl, ?_⟩⟩
      rw [foldl_snoc]
  rintro e st ⟨x7, x8, x9, x10, rfl, rfl⟩
  obtain ⟨L2, eL2⟩ : ∃ L2 : List Str, L2 = L1 ++ s.works.map fun w => rowT (workW w) := ⟨_, rfl⟩
  have hL2 : L2.length = 1 + s.hands.length + s.works.length := by rw [eL2, List.length_append, List.length_map, hL1]
  rw [← eL2]
  refine seq_cut (fun e st => st = sto ++ [.lst ((L2 ++ s.wishes.map fun u => rowT (wishW u)).map D.str)] ∧ ∃ x10 x11 x12 x13 x14 x15, e = [some s.d, some (.int s.days), some (.tup (s.hands.map dInts)), some (.tup (s.works.map Wk.d)), some (.tup (s.wishes.map Ws.d)), some (.ref sto.length), x6, x7, x8, x9, x10, x11, x12, x13, x14, x15, none]) (fun K hK => ?_) ?_
  · (try simp?! only [true_and])
    refine forL_fold Ws.d (fun acc u => acc ++ [rowT (wishW u)]) (fun i acc e st => ∃ x10 x11 x12 x13 x14 x15, e = [some s.d, some (.int s.days), some (.tup (s.hands.map dInts)), some (.tup (s.works.map Wk.d)), some (.tup (s.wishes.map Ws.d)), some (.ref sto.length), x6, x7, x8, x9, x10, x11, x12, x13, x14, x15, none] ∧ st = sto ++ [.lst (acc.map D.str)] ∧ acc.length = i + (1 + s.hands.length + s.works.length)) s.wishes L2 _ _ ?_ ?_ ⟨_, _, _, _, _, _, rfl, rfl, by rw [hL2]; omega⟩
    · rintro i acc u e st hi hum ⟨x10, x11, x12, x13, x14, x15, rfl, rfl, hal⟩ R hR
      refine ⟨trivial, ?_⟩
      have hL := wish_ok hs hum
      have hui := hs.wish u hum
      have hk := hui.kind
      have h1 := hui.work
      have h2 := hui.day
      have h3 := hui.weight
      have h4 := hui.rank
      have e1 : D.lst [D.str "wish", .str (toString u.work), .str (sortT u.kind), .str (toString u.day), .str "weight", .str (toString u.weight), .str "rank", .str (toString u.rank)] = D.lst (((wishW u).map wdT).map D.str) := rfl
      simp?! only [w_f_law_text_6, Ws.d, wMS]
      refine seq_go ?_
      simp?! only [sort_at hk, v_strN, wMS]
      rw [e1]
      refine ⟨int_log (by omega), z2, int_log (by omega), int_log (by omega), int_log (by omega), z8, ⟨_, rd_ref' (get_last _ _)⟩, ⟨_, rfl⟩, v_joinL (row_sum hL) ?_⟩
      simp? only [v_app (get_last _ _)]
      refine ⟨by rw [hal, sizeLine_eq]; omega, ?_⟩
      rw [set_last]
      exact hR _ _ ⟨_, _, _, _, _, _, rfl, by rw [List.map_append]; rfl, by rw [List.length_append, hal]; simp; omega⟩
    · rintro e st ⟨x10, x11, x12, x13, x14, x15, rfl, rfl, _⟩
      refine ⟨trivial, hK _ _ ⟨?_, _, _, _, _, _, _, rfl⟩⟩
      rw [foldl_snoc]
  rintro e st ⟨rfl, x10, x11, x12, x13, x14, x15, rfl⟩
  have eS : L2 ++ s.wishes.map (fun u => rowT (wishW u)) = (sysW s).map rowT := by
    rw [eL2, eL1]
    unfold sysW
    simp only [List.map_append, List.map_map, List.map_cons, List.map_nil]
    rfl
  rw [eS]
  obtain ⟨hsl, hsl2⟩ := sys_ok hs
  simp?! only [wComp, wipeE, wMS]
  refine ⟨⟨_, rfl⟩, ?_⟩
  refine ⟨_, get_last _ _, (by (try simp only [List.length_map, List.length_append, List.length_cons, List.length_nil, List.length_zipIdx, List.length_zip, List.length_range, Int.toNat_natCast, rangeD_len]); rw [sizeLine_eq]; omega), ?_⟩
  refine compL_all D.str (fun x => x ++ "\n") D.str (get_last _ _) _ (fun x hx R hR => ?_) ?_
  · obtain ⟨ws, hws, rfl⟩ := List.mem_map.mp hx
    have h1 := line_len (hsl2 ws hws).wd
    have h2 := (hsl2 ws hws).len
    simp? only [Tg.dg, wYes, w_f_law_text_7, v_addS]
    refine ⟨?_, hR⟩
    unfold rowT
    rw [show ("\n" : Str).length = 1 from rfl, sizeLine_eq]
    omega
  have eL : ((sysW s).map rowT).map (fun x : Str => x ++ ("\n" : Str)) = (sysW s).map lineT := by rw [List.map_map]; rfl
  rw [eL]
  refine v_joinL ?_ ⟨sto, _, rfl, rfl, rfl, fun i c h => .inl h, rfl, rfl⟩
  rw [show ("" : Str).length = 0 from rfl]
  have := sys_sum hs
  omega
def Sm (x : Str) : Prop := ∀ c ∈ tl x, c < 16 ^ 8
instance sm_dec (x : Str) : Decidable (Sm x) := inferInstanceAs (Decidable (∀ c ∈ tl x, c < 16 ^ 8))
theorem sm_app {a b : Str} (ha : Sm a) (hb : Sm b) : Sm (a ++ b) := fun c hc => by
  rw [tl_append, List.mem_append] at hc
  exact hc.elim (ha c) (hb c)
theorem sm_joinL {S : List Nat} (hS : ∀ c ∈ S, c < 16 ^ 8) : ∀ {ps : List (List Nat)}, (∀ p ∈ ps, ∀ c ∈ p, c < 16 ^ 8) → ∀ c ∈ joinL S ps, c < 16 ^ 8
  | [], _, c, hc => by cases hc
  | [p], h, c, hc => h p List.mem_cons_self c hc
  | p :: q :: r, h, c, hc => by
    rcases List.mem_append.mp (show c ∈ p ++ (S ++ joinL S (q :: r)) from hc) with hc | hc
    · exact h p List.mem_cons_self c hc
    · rcases List.mem_append.mp hc with hc | hc
      · exact hS c hc
      · exact sm_joinL hS (fun x hx => h x (List.mem_cons_of_mem _ hx)) c hc
theorem sm_join {a : Str} {ys : List Str} (ha : Sm a) (h : ∀ y ∈ ys, Sm y) : Sm (Txt.join a ys) := fun c hc => by
  rw [join_eq, tl_join] at hc
  refine sm_joinL ha (fun p hp => ?_) c hc
  obtain ⟨y, hy, rfl⟩ := List.mem_map.mp hp
  exact h y hy
theorem sm_int {i : Int} (h : 0 ≤ i) : Sm (toString i : Str) := fun c hc => by
  obtain ⟨n, rfl⟩ := Int.eq_ofNat_of_zero_le h
  have hc : c ∈ tl (Str.ofString (toString ((n : Nat) : Int))) := hc
  rw [TL.tl_num] at hc
  have := TL.numL_digits n c hc
  omega
structure WdSm (w : Wd) : Prop where
  sm : Sm (wdT w)
theorem wdSm_i {i : Int} (h : 0 ≤ i) : WdSm (.inl i) := ⟨sm_int h⟩
theorem sm_line {ws : List Wd} (h : ∀ w ∈ ws, WdSm w) : Sm (lineT ws) := by
  refine sm_app (sm_join (by decide +kernel) fun y hy => ?_) (by decide +kernel)
  obtain ⟨w, hw, rfl⟩ := List.mem_map.mp hy
  exact (h w hw).sm
theorem numSm {n : Int} {ns : List Int} (h : Row n ns) : ∀ w ∈ numW ns, WdSm w := fun w hw => by
  obtain ⟨i, hi, rfl⟩ := List.mem_map.mp hw
  exact wdSm_i (h.2 i hi).1
theorem sys_sm {s : Sy} (hs : SyT s) : ∀ ws ∈ sysW s, ∀ w ∈ ws, WdSm w := fun ws hw x hx => by
  unfold sysW at hw
  simp only [List.mem_append, List.mem_cons, List.not_mem_nil, or_false, List.mem_map] at hw
  rcases hw with ((rfl | ⟨r, hr, rfl⟩) | ⟨w, hw, rfl⟩) | ⟨u, hu, rfl⟩
  · simp only [List.mem_cons, List.not_mem_nil, or_false] at hx
    rcases hx with rfl | rfl
    · exact ⟨by show Sm _; decide +kernel⟩
    · exact wdSm_i (by have := hs.days; omega)
  · rcases List.mem_cons.mp hx with rfl | hx
    · exact ⟨by show Sm _; decide +kernel⟩
    · exact numSm (hs.rows r hr) x hx
  · obtain ⟨i, hi⟩ := List.getElem?_of_mem hw
    have h1 := hs.work i w hi
    unfold workW at hx
    simp only [List.mem_append, List.mem_cons, List.not_mem_nil, or_false] at hx
    rcases hx with ((hx | hx) | hx) | hx
    · rcases hx with rfl | rfl | rfl
      · exact ⟨by show Sm _; decide +kernel⟩
      · exact wdSm_i (by have := h1.len; omega)
      · exact ⟨by show Sm _; decide +kernel⟩
    · exact numSm h1.ahead x hx
    · rw [hx]; exact ⟨by show Sm _; decide +kernel⟩
    · exact numSm h1.able x hx
  · have h := hs.wish u hu
    have h1 := h.work
    have h2 := h.day
    have h3 := h.weight
    have h4 := h.rank
    unfold wishW at hx
    simp only [List.mem_cons, List.not_mem_nil, or_false] at hx
    rcases hx with rfl | rfl | rfl | rfl | rfl | rfl | rfl | rfl
    · exact ⟨by show Sm _; decide +kernel⟩
    · exact wdSm_i h1.1
    · exact ⟨by unfold wdT sortT; dsimp only; split <;> decide +kernel⟩
    · exact wdSm_i h2.1
    · exact ⟨by show Sm _; decide +kernel⟩
    · exact wdSm_i (by omega)
    · exact ⟨by show Sm _; decide +kernel⟩
    · exact wdSm_i h4.1
theorem text_sm {s : Sy} (hs : SyT s) : Sm (textT s) := by
  refine sm_join (by decide +kernel) fun y hy => ?_
  obtain ⟨ws, hw, rfl⟩ := List.mem_map.mp hy
  exact sm_line (sys_sm hs ws hw)
theorem text_len {s : Sy} (hs : SyT s) : (textT s).length ≤ 30000 := by
  unfold textT
  rw [join_eq]
  have h1 := PySem.StrLaws.join_length_le "" ((sysW s).map lineT)
  have h2 := sys_sum hs
  rw [show ("" : Str).length = 0 from rfl] at h1
  omega
theorem fit_txt {x : Str} (h : Sm x) (hl : x.length ≤ 1000000) : (D.str x).Fit := by
  refine fit_mk' (.inr rfl) ?_ ?_ (Nat.zero_le _)
  · show PyData.leavesShort 13 (.str x) = true
    simp only [PyData.leavesShort]
    rw [List.all_eq_true]
    intro c hc
    exact decide_eq_true (h c hc)
  · exact hl
theorem fit_text {s : Sy} (hs : SyT s) : (D.str (textT s)).Fit := fit_txt (text_sm hs) (Nat.le_trans (text_len hs) (by decide))
def w_f_law_days_1 : DT := wTest (wOp dEq (wOp dMod (wCall S_f_law_next (wCons (wVar 0) (wNil))) (wVar 2)) (wC (.int 0)))
def w_f_law_days : DS := wRet (wCB bTuple (wCons (wComp false (iRange1 (wCons (wVar 1) (wNil))) (.nm 3) w_f_law_days_1 (wVar 3) [3]) (wNil)))
def S_f_law_days : DL.Spec := ⟨3, Sto × Int × Int × Int, fun (_, _, h, s) => [.ref 2, .int h, .int s], fun (r, B, h, s) st => Dk B r st ∧ B < 2 ^ 39 ∧ 0 ≤ h ∧ h ≤ 900 ∧ 0 < s, fun (r, B, h, _) _ d st' => ∃ row, d = dInts row ∧ Row h row ∧ Dk (B + 1000) r st'⟩
theorem vc_f_law_days : ∀ g sto, (S_f_law_days.args g).length = S_f_law_days.n → S_f_law_days.pre g sto → w_f_law_days (bodyEnds (S_f_law_days.post g sto)) (startE ["_law_deck_here", "_law_days_here", "_law_some", "_law_day"] (S_f_law_days.args g)) sto := by
  rintro ⟨rest, B, h, s⟩ sto _ ⟨hD, hB, h0, h1, hs⟩
  simp? only [w_f_law_days, S_f_law_days, wComp, wipeE, rangeD_len]
  refine ⟨⟨by omega, by omega⟩, by rw [sizeLine_eq]; omega, ?_⟩
  refine compL_inv (fun i st acc => ∃ row, acc = row.map D.int ∧ Row i row ∧ Dk (B + i) rest st) ?_ ?_ _ _ ⟨[], rfl, ⟨.nil, fun _ h => (nomatch h)⟩, by simpa using hD⟩
  · rintro i st acc d ⟨row, rfl, hr, hd⟩ he R hR
    obtain ⟨hi, rfl⟩ := rangeD_at he
    simp? only [Tg.dg, w_f_law_days_1]
    refine next_use hd (by omega) fun x st' x0 x1 hd' => ?_
    simp? only [true_and]
    refine ⟨hs, ?_⟩
    have e1 : B + (i : Int) + 1 = B + ((i + 1 : Nat) : Int) := by omega
    rw [e1] at hd'
    by_cases hx : (x % s == 0) = true
    · rw [if_pos hx]
      refine hR _ _ ⟨row ++ [(i : Int)], by simp, ⟨?_, ?_⟩, hd'⟩
      · rw [List.pairwise_append]
        refine ⟨hr.1, List.pairwise_singleton .., fun a ha b hb => ?_⟩
        rw [List.mem_singleton] at hb
        have := (hr.2 a ha).2
        omega
      · intro y hy
        rcases List.mem_append.mp hy with z | z
        · have := hr.2 y z; omega
        · rw [List.mem_singleton] at z; omega
    · rw [if_neg hx]
      exact hR _ _ ⟨row, rfl, ⟨hr.1, fun y hy => by have := hr.2 y hy; omega⟩, hd'⟩
  · rintro st acc ⟨row, rfl, hr, hd⟩
    rw [rangeD_len] at hr hd
    exact ⟨trivial, row, rfl, ⟨hr.1, fun y hy => by have := hr.2 y hy; omega⟩, hd.mono (by omega)⟩
theorem days_use {B h s : Int} {rest st : Sto} {Q : DK} (hD : Dk B rest st) (hb : B < 2 ^ 39) (h0 : 0 ≤ h) (h1 : h ≤ 900) (hs : 0 < s) (q : ∀ row st', Row h row → Dk (B + 1000) rest st' → Q (dInts row) st') :
    ∃ g, [D.ref 2, .int h, .int s] = S_f_law_days.args g ∧ (S_f_law_days.args g).length = S_f_law_days.n ∧ S_f_law_days.pre g st ∧ ∀ d s2, S_f_law_days.post g st d s2 → Q d s2 :=
  ⟨(rest, B, h, s), rfl, rfl, ⟨hD, hb, h0, h1, hs⟩, fun d s2 ⟨x, e, h0, h1⟩ => by subst e; exact q x s2 h0 h1⟩
theorem len_blk : ∀ ds : List D, ds.length ≤ D.blkL ds
  | [] => Nat.zero_le _
  | d :: r => by simp only [D.blkL, List.length_cons]; have := len_blk r; omega
structure Any (d : D) : Prop where
  blw : d.blw 0 = true
  blk : d.blk ≤ 1000000
theorem Any.noRef {d : D} (h : Any d) : d.noRef := noRef_of h.blw
theorem Any.len {ds : List D} (h : Any (.tup ds)) : ds.length ≤ 1000000 := by have := len_blk ds; have h2 := h.blk; simp only [D.blk] at h2; omega
theorem blwL_rows (n : Nat) : ∀ rs : List (List Int), D.blwL n (rs.map dInts) = true
  | [] => rfl
  | r :: rs => by rw [List.map_cons]; simp only [D.blwL, dInts, D.blw, blwL_ints, blwL_rows n rs, Bool.and_self]
theorem blw_wk (n : Nat) (w : Wk) : w.d.blw n = true := by simp only [Wk.d, dInts, D.blw, D.blwL, blwL_ints, Bool.and_self]
theorem blw_ws (n : Nat) (w : Ws) : w.d.blw n = true := by simp only [Ws.d, D.blw, D.blwL, Bool.and_self]
theorem blwL_of {n : Nat} : ∀ {ds : List D}, (∀ d ∈ ds, d.blw n = true) → D.blwL n ds = true
  | [], _ => rfl
  | d :: r, h => by simp only [D.blwL, h d List.mem_cons_self, blwL_of fun x hx => h x (List.mem_cons_of_mem _ hx), Bool.and_self]
theorem blwL_works (n : Nat) (ws : List Wk) : D.blwL n (ws.map Wk.d) = true := blwL_of fun d hd => by
  obtain ⟨w, _, rfl⟩ := List.mem_map.mp hd; exact blw_wk n w
theorem blwL_wishes (n : Nat) (ws : List Ws) : D.blwL n (ws.map Ws.d) = true := blwL_of fun d hd => by
  obtain ⟨w, _, rfl⟩ := List.mem_map.mp hd; exact blw_ws n w
theorem blw_sy (n : Nat) (s : Sy) : s.d.blw n = true := by simp only [Sy.d, D.blw, D.blwL, blwL_rows, blwL_works, blwL_wishes, Bool.and_self]
def w_f_law_little_1 : DE := wCall S_f_law_days (wCons (wVar 0) (wCons (wVar 1) (wCons (wVar 2) (wNil))))
def w_f_law_little_2 : DT := wTest (wOp dEq (wOp dMod (wCall S_f_law_next (wCons (wVar 0) (wNil))) (wC (.int 4))) (wC (.int 0)))
def w_f_law_little_3 : DT := wTest (wOp dGt (wOp dMod (wCall S_f_law_next (wCons (wVar 0) (wNil))) (wC (.int 3))) (wC (.int 0)))
def w_f_law_little_4 : DS := wSeq (wAsg (wCB bTuple (wCons (wComp false (iRange1 (wCons (wVar 5) (wNil))) (.nm 12) w_f_law_little_2 (wVar 12) [12]) (wNil))) (gNm 6)) (wSeq (wAsg (wCB bTuple (wCons (wComp false (iRange1 (wCons (wCB bLen (wCons (wVar 3) (wNil))) (wNil))) (.nm 11) w_f_law_little_3 (wVar 11) [11]) (wNil))) (gNm 7)) (wDrop (wM mAppend (wVar 4) (wCons (wTup (wCons (wOp dAdd (wC (.int 1)) (wOp dMod (wCall S_f_law_next (wCons (wVar 0) (wNil))) (wC (.int 3)))) (wCons (wVar 6) (wCons (wOp dAdd (wVar 7) (wOp dMul (wTup (wCons (wC (.int 0)) (wNil))) (wCB bInt (wCons (wOp dEq (wVar 7) (wTup (wNil))) (wNil))))) (wNil))))) (wNil)))))
def w_f_law_little_5 : DS := wSeq (wAsg (wOp dMod (wCall S_f_law_next (wCons (wVar 0) (wNil))) (wCB bLen (wCons (wVar 4) (wNil)))) (gNm 5)) (wSeq (wAsg (wOp dMod (wCall S_f_law_next (wCons (wVar 0) (wNil))) (wOp dAdd (wVar 1) (wC (.int 1)))) (gNm 10)) (wDrop (wM mAppend (wVar 8) (wCons (wTup (wCons (wVar 5) (wCons (wOp dMod (wCall S_f_law_next (wCons (wVar 0) (wNil))) (wC (.int 2))) (wCons (wVar 10) (wCons (wOp dAdd (wC (.int 1)) (wOp dMod (wCall S_f_law_next (wCons (wVar 0) (wNil))) (wOp dIx (wLst false (wCons (wC (.int 3)) (wCons (wC (.int 100)) (wNil)))) (wOp dMod (wVar 9) (wC (.int 2)))))) (wCons (wOp dMod (wCall S_f_law_next (wCons (wVar 0) (wNil))) (wC (.int 4))) (wNil))))))) (wNil)))))
def w_f_law_little : DS := wSeq (wAsg (wOp dAdd (wC (.int 1)) (wOp dMod (wCall S_f_law_next (wCons (wVar 0) (wNil))) (wC (.int 9)))) (gNm 1)) (wSeq (wAsg (wOp dIx (wLst false (wCons (wC (.int 100)) (wCons (wC (.int 7)) (wCons (wC (.int 4)) (wNil))))) (wOp dMod (wCall S_f_law_next (wCons (wVar 0) (wNil))) (wC (.int 3)))) (gNm 2)) (wSeq (wAsg (wCB bTuple (wCons (wComp false (iRange1 (wCons (wOp dAdd (wC (.int 1)) (wOp dMod (wCall S_f_law_next (wCons (wVar 0) (wNil))) (wC (.int 3)))) (wNil))) (.nm 11) wYes w_f_law_little_1 [11]) (wNil))) (gNm 3)) (wSeq (wAsg (wLst true (wNil)) (gNm 4)) (wSeq (wFor (iRange1 (wCons (wOp dMod (wCall S_f_law_next (wCons (wVar 0) (wNil))) (wC (.int 6))) (wNil))) (gNm 5) w_f_law_little_4) (wSeq (wAsg (wLst true (wNil)) (gNm 8)) (wSeq (wFor (iRange1 (wCons (wOp dMul (wOp dMod (wCall S_f_law_next (wCons (wVar 0) (wNil))) (wC (.int 9))) (wCB bInt (wCons (wOp dNe (wVar 4) (wLst false (wNil))) (wNil)))) (wNil))) (gNm 9) w_f_law_little_5) (wRet (wTup (wCons (wVar 1) (wCons (wVar 3) (wCons (wCB bTuple (wCons (wVar 4) (wNil))) (wCons (wCB bTuple (wCons (wVar 8) (wNil))) (wNil)))))))))))))
theorem _root_.DL.Dk.at3 {B : Int} {rest st : Sto} (h : Dk B rest st) (i : Nat) : st[i + 3]? = rest[i]? := by
  obtain ⟨ds, cs, t, rfl, r⟩ := h
  simp only [List.getElem?_cons_succ]
/-- drawn ones of the numbers below n, rising -/
theorem row_comp {v : Nat} {c : DT} {w : DE} {env : En} {Q : LK} {rest st : Sto} {B : Int} {n : Nat} (hD : Dk B rest st)
    (step : ∀ (j : Nat) st, j < n → Dk (B + j) rest st → ∀ R : Option D → Sto → Prop, (∀ st', Dk (B + j + 1) rest st' → R (some (.int (0 + (j : Int)))) st' ∧ R none st') → (Tg.nm v).dg (.int (0 + (j : Int))) env st fun e s => c e s fun b s1 => if b = true then w e s1 fun y s2 => R (some y) s2 else R none s1)
    (q : ∀ row st', Row n row → Dk (B + n) rest st' → Q (row.map D.int) st') : wCompL (fun _ => True) (.nm v) c w env (rangeD 0 n) st [] Q := by
  refine compL_inv (fun i st acc => ∃ row, acc = row.map D.int ∧ Row i row ∧ Dk (B + i) rest st) ?_ ?_ _ _ ⟨[], rfl, ⟨.nil, fun _ h => (nomatch h)⟩, by simpa using hD⟩
  · rintro i st acc d ⟨row, rfl, hr, hd⟩ he R hR
    obtain ⟨hi, rfl⟩ := rangeD_at he
    refine ⟨trivial, step i st hi hd (fun o s => match o with | some y => R s (row.map D.int ++ [y]) | none => R s (row.map D.int)) fun st' hd' => ?_⟩
    have e1 : B + (i : Int) + 1 = B + ((i + 1 : Nat) : Int) := by omega
    rw [e1] at hd'
    constructor
    · refine hR _ _ ⟨row ++ [(i : Int)], by simp, ⟨?_, ?_⟩, hd'⟩
      · rw [List.pairwise_append]
        refine ⟨hr.1, List.pairwise_singleton .., fun a ha b hb => ?_⟩
        rw [List.mem_singleton] at hb
        have := (hr.2 a ha).2
        omega
      · intro y hy
        rcases List.mem_append.mp hy with z | z
        · have := hr.2 y z; omega
        · rw [List.mem_singleton] at z; omega
    · exact hR _ _ ⟨row, rfl, ⟨hr.1, fun y hy => by have := hr.2 y hy; omega⟩, hd'⟩
  · rintro st acc ⟨row, rfl, hr, hd⟩
    rw [rangeD_len] at hr hd
    exact ⟨trivial, q row st hr hd⟩
theorem okL_of : ∀ ws : List Wk, D.okL (ws.map Wk.d) = true
  | [] => rfl
  | w :: r => by rw [List.map_cons]; simp only [D.okL, Wk.d, dInts, D.ok, okL_ints, okL_of r, Bool.and_self]
theorem _root_.DL.Dk.low {B : Int} {rest st : Sto} {c c' : Cel} (h : Dk B (rest ++ [c] ++ [c']) st) : st[rest.length + 3]? = some c := by
  rw [h.at3, List.getElem?_append_left (by simp)]
  exact get_last _ _
def S_f_law_little : DL.Spec := deckS 1 100000 (fun _ : Unit => []) (fun _ => True) fun _ d => ∃ s : Sy, d = s.d ∧ s.Ok 9 3 5 3 8
theorem vc_f_law_little : ∀ g sto, (S_f_law_little.args g).length = S_f_law_little.n → S_f_law_little.pre g sto → w_f_law_little (bodyEnds (popEnds sto.length sto (S_f_law_little.post g sto))) (startE ["_law_deck_here", "_law_days_here", "_law_gone", "_law_hands", "_law_works", "_law_work", "_law_ahead", "_law_able", "_law_wishes", "_law_k", "_law_day", "_law_hand", "_law_one"] (S_f_law_little.args g)) sto := by
  rintro ⟨rest, B, _⟩ sto _ ⟨hD, hB, _⟩
  have hD0 := hD
  dsimp only at hD0 hD hB
  have z2 : 2 ≤ sizeLine := by decide
  have z3 : 3 ≤ sizeLine := by decide
  have z4 : 4 ≤ sizeLine := by decide
  have z5 : 5 ≤ sizeLine := by decide
  have z1 : 1 ≤ sizeLine := by decide
  simp? only [w_f_law_little, S_f_law_little, deckS, wFor, wComp, wipeE]
  refine next_use hD (by omega) fun x1 st_x1 x1_0 x1_1 hD => ?_
  (try simp? only [true_and])
  have x1_m := modb x1 (show 0 < 9 by omega)
  obtain ⟨dd, eD⟩ : ∃ dd, dd = 1 + x1 % 9 := ⟨_, rfl⟩
  simp only [← eD]
  refine ⟨by omega, z3, ?_⟩
  refine next_use hD (by omega) fun x2 st_x2 x2_0 x2_1 hD => ?_
  (try simp? only [true_and])
  obtain ⟨p, hp, hp2⟩ := pk3 (a := 100) (b := 7) (c := 4) (x := x2)
  have hp0 : 0 < p := by omega
  simp? only [hp]
  refine ⟨by decide, ?_⟩
  refine next_use hD (by omega) fun x3 st_x3 x3_0 x3_1 hD => ?_
  (try simp? only [true_and])
  have x3_m := modb x3 (show 0 < 3 by omega)
  obtain ⟨h, eh⟩ : ∃ h, h = 1 + x3 % 3 := ⟨_, rfl⟩
  simp only [← eh, rangeD_len]
  refine ⟨by omega, ⟨by omega, by omega⟩, by rw [sizeLine_eq]; omega, ?_⟩
  refine compL_inv (fun i st acc => ∃ rows : List (List Int), acc = rows.map dInts ∧ rows.length = i ∧ (∀ r ∈ rows, Row dd r) ∧ Dk (B + 3 + i * 1000) rest st) ?_ ?_ _ _ ⟨[], rfl, rfl, fun _ h => (nomatch h), hD.mono (by omega)⟩
  · rintro i st acc d ⟨rows, rfl, hn, hr, hd⟩ he R hR
    obtain ⟨hi, rfl⟩ := rangeD_at he
    simp? only [Tg.dg, wYes, w_f_law_little_1]
    refine days_use hd (by omega) (by omega) (by omega) hp0 fun row st' hrow hd' => ?_
    refine hR _ _ ⟨rows ++ [row], by simp, by simp; omega, fun r hm => ?_, hd'.mono (by omega)⟩
    rcases List.mem_append.mp hm with z | z
    · exact hr r z
    · rw [List.mem_singleton] at z
      subst z
      exact hrow
  · rintro st acc ⟨rows, rfl, hn, hr, hd⟩
    rw [rangeD_len] at hn hd
    have hn3 : 1 ≤ rows.length ∧ rows.length ≤ 3 := by omega
    refine ⟨trivial, ?_⟩
    (try simp? only [true_and])
    refine ⟨Nat.zero_le _, ?_⟩
    refine next_use hd.push (by omega) fun x4 st4 a4 b4 hD => ?_
    have hlen := hd.len
    simp? only [hlen]
    have b4m := modb x4 (show (0 : Int) < 6 by decide)
    refine ⟨by decide, ⟨by omega, by omega⟩, ?_⟩
    refine forL_inv (fun i e st => ∃ x5 x6 x7 ws, e = [some (.ref 2), some (.int dd), some (.int p), some (.tup (rows.map dInts)), some (.ref (rest.length + 3)), x5, x6, x7, none, none, none, none, none] ∧ List.length ws = i ∧ (∀ (j : Nat) (w : Wk), ws[j]? = some w → w.Ok j rows.length 3) ∧ Dk (B + 4000 + i * 1000) (rest ++ [.lst (ws.map Wk.d)]) st) ?_ ?_ _ _ ⟨_, _, _, [], rfl, rfl, fun _ _ h => (nomatch h), hD.mono (by omega)⟩
    · rintro i e st d ⟨x5, x6, x7, ws, rfl, hwl, hws, hD⟩ he R hR
      obtain ⟨hi, rfl⟩ := rangeD_at he
      have hi5 : i < 5 := by omega
      refine ⟨trivial, ?_⟩
      simp? only [w_f_law_little_4, wComp, wipeE, rangeD_len]
      refine ⟨⟨by omega, by omega⟩, by rw [sizeLine_eq]; omega, ?_⟩
      rw [show (0 + (i : Int)).toNat = i by omega]
      refine row_comp hD (fun j st hj hD R2 hR2 => ?_) fun ahead st hah hD => ?_
      · simp? only [Tg.dg, w_f_law_little_2]
        refine next_use hD (by omega) fun x st' x0 x1 hd' => ?_
        (try simp? only [true_and])
        refine ⟨by decide, ?_⟩
        split
        · exact (hR2 _ hd').1
        · exact (hR2 _ hd').2
      · (try simp? only [true_and])
        refine ⟨⟨by omega, by omega⟩, by rw [sizeLine_eq]; omega, ?_⟩
        rw [Int.toNat_natCast]
        refine row_comp hD (fun j st hj hD R2 hR2 => ?_) fun able st hab hD => ?_
        · simp? only [Tg.dg, w_f_law_little_3]
          refine next_use hD (by omega) fun x st' x0 x1 hd' => ?_
          (try simp? only [true_and])
          refine ⟨by decide, ?_⟩
          split
          · exact (hR2 _ hd').1
          · exact (hR2 _ hd').2
        · (try simp? only [true_and])
          refine ⟨⟨_, rd_ref' hD.top⟩, ?_⟩
          refine next_use hD (by omega) fun x st' x0 x1 hd' => ?_
          (try simp? only [true_and])
          have hxm := modb x (show (0 : Int) < 3 by decide)
          refine ⟨by decide, z1, Nat.zero_le _, okL_ints _, ?_⟩
          have hmul : ∀ Q : DK, Q (dInts (if (able.map DL.D.int).isEmpty = true then [0] else [])) st' → dMul (DL.D.tup [DL.D.int 0]) (DL.D.int (if (able.map DL.D.int).isEmpty = true then 1 else 0)) st' Q := fun Q q => by
            rw [v_mulT]
            by_cases hc : (able.map DL.D.int).isEmpty = true
            · rw [if_pos hc] at q ⊢
              exact ⟨by decide, by decide, by decide, q⟩
            · rw [if_neg hc] at q ⊢
              exact ⟨by decide, by decide, by decide, q⟩
          refine hmul _ ?_
          have hok : ∃ able', Row rows.length able' ∧ able' ≠ [] ∧ able.map DL.D.int ++ (if (able.map DL.D.int).isEmpty = true then [0] else []).map DL.D.int = able'.map DL.D.int := by
            cases able with
            | nil => exact ⟨[0], ⟨List.pairwise_singleton .., fun y hy => by rw [List.mem_singleton] at hy; omega⟩, by simp, rfl⟩
            | cons a r => exact ⟨a :: r, hab, by simp, by simp⟩
          obtain ⟨able', ho1, ho2, ho3⟩ := hok
          have hal := hab.len
          simp? only [dInts, v_addT, ho3]
          refine ⟨by rw [sizeLine_eq]; split <;> simp <;> omega, z3, ?_⟩
          simp? only [v_app hd'.top]
          refine ⟨by rw [sizeLine_eq]; omega, ?_⟩
          refine hR _ _ ⟨_, _, _, ws ++ [⟨1 + x % 3, ahead, able'⟩], rfl, by rw [List.length_append, List.length_singleton]; omega, fun j w hj => ?_, ?_⟩
          · by_cases hjl : j < ws.length
            · rw [List.getElem?_append_left hjl] at hj
              exact hws j w hj
            · rw [List.getElem?_append_right (by omega)] at hj
              have e0 : j = ws.length := by
                have := (List.getElem?_eq_some_iff.mp hj).1
                rw [List.length_singleton] at this
                omega
              subst e0
              rw [Nat.sub_self] at hj
              cases hj
              exact ⟨⟨by dsimp only; omega, by dsimp only; omega⟩, by rw [hwl]; exact hah, ho1, ho2⟩
          · rw [List.map_append]
            exact hd'.put.mono (by omega)
    · rintro e st ⟨x5, x6, x7, ws, rfl, hwl, hws, hD⟩
      rw [rangeD_len] at hwl hD
      refine ⟨trivial, ?_⟩
      (try simp? only [true_and])
      refine ⟨Nat.zero_le _, ?_⟩
      have hl0 := hD.len
      refine next_use hD.push (by omega) fun x st' x0 x1 hD => ?_
      (try simp? only [true_and])
      have hxm := modb x (show (0 : Int) < 9 by decide)
      have hok : D.okL (ws.map Wk.d) = true := okL_of ws
      have h4 : st'[rest.length + 3]? = some (.lst (ws.map Wk.d)) := by rw [hD.at3, List.getElem?_append_left (by simp)]; simp
      refine ⟨by decide, Nat.zero_le _, ?_⟩
      refine (v_eqN (rd_ref' h4)).mpr ⟨hok, ?_⟩
      (try simp? only [true_and])
      have hlen2 := hD.len
      have hem : (ws.map Wk.d).isEmpty = ws.isEmpty := isE_map _ _
      rw [hem]
      have hw : ∃ u : Nat, (x % 9 * if (!ws.isEmpty) = true then 1 else 0) = (u : Int) ∧ u ≤ 8 ∧ (0 < u → ws ≠ []) := by
        cases ws with
        | nil => exact ⟨0, by simp, by omega, fun h => by omega⟩
        | cons a r => exact ⟨(x % 9).toNat, by simp; omega, by omega, fun _ => by simp⟩
      obtain ⟨u, eu, u8, une⟩ := hw
      refine ⟨by split <;> exact .inl ⟨by omega, by omega⟩, ?_⟩
      rw [eu]
      refine ⟨⟨by omega, by omega⟩, ?_⟩
      have eix : st.length = (rest ++ [Cel.lst (ws.map Wk.d)]).length + 3 := hl0
      rw [eix]
      have hwn : ws.length ≤ 5 := by omega
      refine forL_inv (fun i e st => ∃ x5 x9 x10 us, e = [some (.ref 2), some (.int dd), some (.int p), some (.tup (rows.map dInts)), some (.ref (rest.length + 3)), x5, x6, x7, some (.ref ((rest ++ [Cel.lst (ws.map Wk.d)]).length + 3)), x9, x10, none, none] ∧ List.length us = i ∧ (∀ u ∈ us, Ws.Ok u ws.length dd) ∧ Dk (B + 10000 + i * 10) (rest ++ [.lst (ws.map Wk.d)] ++ [.lst (us.map Ws.d)]) st) ?_ ?_ _ _ ⟨_, _, _, [], rfl, rfl, fun _ h => (nomatch h), hD.mono (by omega)⟩
      · rintro i e st d ⟨x5, x9, x10, us, rfl, hul, hus, hD⟩ he R hR
        obtain ⟨hi, rfl⟩ := rangeD_at he
        rw [Int.toNat_natCast] at hi
        have hne := une (by omega)
        have hwp := List.length_pos_iff.mpr hne
        refine ⟨trivial, ?_⟩
        simp? only [w_f_law_little_5]
        refine next_use hD (by omega) fun y1 st y10 y11 hD => ?_
        have m1 := modb y1 (show (0 : Int) < ws.length by omega)
        simp? only [v_lenR (rd_ref' hD.low), List.length_map]
        refine ⟨by omega, ?_⟩
        refine next_use hD (by omega) fun y2 st y20 y21 hD => ?_
        have m2 := modb y2 (show (0 : Int) < dd + 1 by omega)
        (try simp? only [true_and])
        refine ⟨by omega, ⟨_, rd_ref' hD.top⟩, ?_⟩
        refine next_use hD (by omega) fun y3 st y30 y31 hD => ?_
        have m3 := modb y3 (show (0 : Int) < 2 by omega)
        (try simp? only [true_and])
        refine ⟨by omega, ?_⟩
        refine next_use hD (by omega) fun y4 st y40 y41 hD => ?_
        obtain ⟨v, hv, hv2⟩ := pk2 (a := 3) (b := 100) (x := 0 + (i : Int))
        have m4 := modb y4 (show (0 : Int) < v by omega)
        simp? only [hv]
        refine ⟨z2, by omega, by omega, ?_⟩
        refine next_use hD (by omega) fun y5 st y50 y51 hD => ?_
        have m5 := modb y5 (show (0 : Int) < 4 by omega)
        (try simp? only [true_and])
        refine ⟨by omega, z5, ?_⟩
        simp? only [v_app hD.top]
        refine ⟨by rw [sizeLine_eq]; omega, ?_⟩
        refine hR _ _ ⟨_, _, _, us ++ [⟨y1 % ws.length, y3 % 2, y2 % (dd + 1), 1 + y4 % v, y5 % 4⟩], rfl, by rw [List.length_append, List.length_singleton]; omega, fun w hw => ?_, ?_⟩
        · rcases List.mem_append.mp hw with hw | hw
          · exact hus w hw
          · rw [List.mem_singleton] at hw
            subst hw
            exact ⟨by dsimp only; omega, by dsimp only; omega, by dsimp only; omega, by dsimp only; omega, by dsimp only; omega⟩
        · rw [List.map_append]
          exact hD.put.mono (by omega)
      · rintro e st ⟨x5, x9, x10, us, rfl, hul, hus, hD⟩
        rw [rangeD_len, Int.toNat_natCast] at hul hD
        have h4 : st[rest.length + 3]? = some (.lst (ws.map Wk.d)) := by rw [hD.at3, List.getElem?_append_left (by simp)]; simp
        refine ⟨trivial, ?_⟩
        simp? only [v_tupL (rd_ref' h4), v_tupL (rd_ref' hD.top)]
        refine ⟨z4, ?_⟩
        rw [List.append_assoc] at hD
        let S : Sy := ⟨dd, rows, ws, us⟩
        have hS : S.Ok 9 3 5 3 8 := ⟨⟨by show 1 ≤ dd; omega, by show dd ≤ 9; omega⟩, ⟨by show 1 ≤ rows.length; omega, by show (rows.length : Int) ≤ 3; omega⟩, hr, by show (ws.length : Int) ≤ 5; omega, hws, by show (us.length : Int) ≤ 8; omega, hus⟩
        refine dk_pop hD0 hD (blw_sy _ S) fun st1 h1 => ⟨⟨S, rfl, hS⟩, h1.mono (by omega)⟩
open TL (join_eq tl tl_append tl_join joinL len_tl ext_tl)
def w_f_law_greatest_1 : DE := wCall S_f_law_days (wCons (wVar 0) (wCons (wC (.int 30)) (wCons (wOp dIx (wLst false (wCons (wC (.int 1)) (wCons (wC (.int 2)) (wCons (wC (.int 30)) (wNil))))) (wOp dMod (wCall S_f_law_next (wCons (wVar 0) (wNil))) (wC (.int 3)))) (wNil))))
def w_f_law_greatest_2 : DE := wTup (wCons (wOp dAdd (wC (.int 1)) (wOp dMod (wCall S_f_law_next (wCons (wVar 0) (wNil))) (wC (.int 10)))) (wCons (wRgT1 (wVar 7)) (wCons (wTup (wCons (wC (.int 0)) (wCons (wC (.int 1)) (wCons (wC (.int 2)) (wCons (wC (.int 3)) (wCons (wC (.int 4)) (wNil))))))) (wNil))))
def w_f_law_greatest_3 : DS := wSeq (wAsg (wOp dIx (wLst false (wCons (wC (.int 0)) (wCons (wC (.int 30)) (wCons (wOp dMod (wCall S_f_law_next (wCons (wVar 0) (wNil))) (wC (.int 31))) (wNil))))) (wOp dMod (wVar 4) (wC (.int 3)))) (gNm 5)) (wDrop (wM mAppend (wVar 3) (wCons (wTup (wCons (wOp dSub (wC (.int 11)) (wOp dMod (wVar 4) (wC (.int 12)))) (wCons (wOp dMod (wCall S_f_law_next (wCons (wVar 0) (wNil))) (wC (.int 2))) (wCons (wVar 5) (wCons (wOp dIx (wLst false (wCons (wC (.int 1)) (wCons (wC (.int 100)) (wCons (wC (.int 10)) (wNil))))) (wOp dMod (wVar 4) (wC (.int 3)))) (wCons (wOp dMod (wCall S_f_law_next (wCons (wVar 0) (wNil))) (wC (.int 4))) (wNil))))))) (wNil))))
def w_f_law_greatest : DS := wSeq (wAsg (wCB bTuple (wCons (wComp false (iRange1 (wCons (wC (.int 5)) (wNil))) (.nm 6) wYes w_f_law_greatest_1 [6]) (wNil))) (gNm 1)) (wSeq (wAsg (wCB bTuple (wCons (wComp false (iRange1 (wCons (wC (.int 12)) (wNil))) (.nm 7) wYes w_f_law_greatest_2 [7]) (wNil))) (gNm 2)) (wSeq (wAsg (wLst true (wNil)) (gNm 3)) (wSeq (wFor (iRange1 (wCons (wC (.int 24)) (wNil))) (gNm 4) w_f_law_greatest_3) (wRet (wTup (wCons (wC (.int 30)) (wCons (wVar 1) (wCons (wVar 2) (wCons (wCB bTuple (wCons (wVar 3) (wNil))) (wNil))))))))))
def S_f_law_greatest : DL.Spec := deckS 1 100000 (fun _ : Unit => []) (fun _ => True) fun _ d => ∃ s : Sy, d = s.d ∧ SyT s
theorem row_to (n : Nat) : Row n (rangeI 0 n) := by
  unfold rangeI Row
  refine ⟨?_, fun x hx => ?_⟩
  · rw [List.pairwise_map]
    exact List.pairwise_lt_range.imp fun h => by omega
  · obtain ⟨i, hi, rfl⟩ := List.mem_map.mp hx
    rw [List.mem_range] at hi
    omega
theorem vc_f_law_greatest : ∀ g sto, (S_f_law_greatest.args g).length = S_f_law_greatest.n → S_f_law_greatest.pre g sto → w_f_law_greatest (bodyEnds (popEnds sto.length sto (S_f_law_greatest.post g sto))) (startE ["_law_deck_here", "_law_hands", "_law_works", "_law_wishes", "_law_k", "_law_day", "_law_hand", "_law_work_here"] (S_f_law_greatest.args g)) sto := by
  rintro ⟨rest, B, _⟩ sto _ ⟨hD, hB, _⟩
  have hD0 := hD
  dsimp only at hD0 hD hB
  have z3 : 3 ≤ sizeLine := by decide
  have z4 : 4 ≤ sizeLine := by decide
  have z5 : 5 ≤ sizeLine := by decide
  have hab : Row 5 [0, 1, 2, 3, 4] := ⟨by decide, by decide⟩
  simp?! only [w_f_law_greatest, S_f_law_greatest, deckS, wFor, wComp, wipeE]
  refine seq_go ?_
  (try simp?! only [true_and])
  refine ⟨by decide, by rw [rangeD_len]; exact z5, ?_⟩
  refine compL_deck dInts (fun _ r => Row 30 r) (fun i => B + i * 1001) _ (hD.mono (by omega)) (fun i d st he hi hD R hR => ?_) fun rows hrl hrows st hD => ?_
  · obtain ⟨hi, rfl⟩ := rangeD_at he
    simp? only [Tg.dg, wYes, w_f_law_greatest_1]
    refine ⟨z3, next_use hD (by omega) fun x st x0 x1 hD => ?_⟩
    obtain ⟨v, hv, hv2⟩ := pk3 (a := 1) (b := 2) (c := 30) (x := x)
    simp? only [hv]
    refine ⟨by decide, days_use hD (by omega) (by omega) (by omega) (by omega) fun row st' hrow hD => hR row st' hrow (hD.mono (by omega))⟩
  rw [rangeD_len] at hrl hD
  have hrl5 : rows.length = 5 := hrl
  (try simp?! only [true_and])
  refine seq_go ?_
  (try simp?! only [true_and])
  refine ⟨by decide, by rw [rangeD_len]; decide, ?_⟩
  refine compL_deck Wk.d (fun i w => w.Ok i 5 10) (fun i => B + 5005 + i * 2) _ (hD.mono (by show B + ((5 : Nat) : Int) * 1001 ≤ _; omega)) (fun i d st he hi hD R hR => ?_) fun ws hwl hws st hD => ?_
  · obtain ⟨hi, rfl⟩ := rangeD_at he
    have hi12 : i < 12 := by simpa using hi
    simp? only [Tg.dg, wYes, w_f_law_greatest_2]
    refine next_use hD (by omega) fun x st x0 x1 hD => ?_
    have hm := modb x (show (0 : Int) < 10 by decide)
    (try simp? only [true_and])
    have er : rgD 0 (0 + (i : Int)) = (rangeI 0 i).map D.int := by unfold rgD rangeI; rw [List.map_map]; simp
    rw [er]
    refine ⟨by decide, ⟨by omega, by omega, by omega, by omega, by show _ ≤ (2 : Nat) ^ 24; omega⟩, z5, z3, ?_⟩
    exact hR ⟨1 + x % 10, rangeI 0 i, [0, 1, 2, 3, 4]⟩ _ ⟨⟨by show 1 ≤ 1 + x % 10; omega, by show 1 + x % 10 ≤ 10; omega⟩, row_to i, hab, (by decide : ([0, 1, 2, 3, 4] : List Int) ≠ [])⟩ (hD.mono (by omega))
  rw [rangeD_len] at hwl hD
  have hwl : ws.length = 12 := hwl
  have hsl := hD.len
  refine seq_go ?_
  (try simp?! only [true_and])
  rw [hsl]
  refine ⟨Nat.zero_le _, ?_⟩
  have hD := hD.push (c := .lst [])
  refine seq_cut (fun e st => ∃ (us : List Ws) (x4 x5 : Option D), e = [some (.ref 2), some (.tup (rows.map dInts)), some (.tup (ws.map Wk.d)), some (.ref (rest.length + 3)), x4, x5, none, none] ∧ us.length = 24 ∧ (∀ u ∈ us, u.Ok 12 30) ∧ Dk (B + 100000) (rest ++ [.lst (us.map Ws.d)]) st) (fun K hK => ?_) ?_
  · (try simp?! only [true_and])
    refine ⟨by decide, ?_⟩
    refine forL_inv (fun i e st => ∃ (us : List Ws) (x4 x5 : Option D), e = [some (.ref 2), some (.tup (rows.map dInts)), some (.tup (ws.map Wk.d)), some (.ref (rest.length + 3)), x4, x5, none, none] ∧ us.length = i ∧ (∀ u ∈ us, u.Ok 12 30) ∧ Dk (B + 6000 + i * 5) (rest ++ [.lst (us.map Ws.d)]) st) ?_ ?_ _ _ ⟨[], none, none, rfl, rfl, (fun u h => nomatch h), hD.mono (by show B + 5005 + ((12 : Nat) : Int) * 2 ≤ _; omega)⟩
    · rintro i e st d ⟨us, x4, x5, rfl, hul, hus, hD⟩ he R hR
      obtain ⟨hi, rfl⟩ := rangeD_at he
      have hi24 : i < 24 := by simpa using hi
      refine ⟨trivial, ?_⟩
      simp?! only [w_f_law_greatest_3]
      refine seq_go ?_
      (try simp?! only [true_and])
      refine next_use hD (by omega) fun x st x0 x1 hD => ?_
      have hm := modb x (show (0 : Int) < 31 by decide)
      obtain ⟨v, hv, hv2⟩ := pk3 (a := 0) (b := 30) (c := x % 31) (x := 0 + (i : Int))
      obtain ⟨g, hg, hg2⟩ := pk3 (a := 1) (b := 100) (c := 10) (x := 0 + (i : Int))
      simp?! only [hv]
      refine ⟨by decide, z3, by decide, ?_⟩
      refine ⟨⟨_, rd_ref' hD.top⟩, by decide, ?_⟩
      refine next_use hD (by omega) fun y st y0 y1 hD => ?_
      have hm2 := modb y (show (0 : Int) < 2 by decide)
      simp? only [hg]
      refine ⟨by decide, z3, by decide, ?_⟩
      refine next_use hD (by omega) fun z st z0 z1 hD => ?_
      have hm3 := modb z (show (0 : Int) < 4 by decide)
      simp? only [v_app hD.top, List.length_map]
      refine ⟨by decide, z5, (by (try simp only [List.length_map, List.length_append, List.length_cons, List.length_nil, List.length_zipIdx, List.length_zip, List.length_range, Int.toNat_natCast, rangeD_len]); rw [sizeLine_eq]; omega), ?_⟩
      have hm4 := modb (0 + (i : Int)) (show (0 : Int) < 12 by decide)
      refine hR _ _ ⟨us ++ [⟨11 - (0 + (i : Int)) % 12, y % 2, v, g, z % 4⟩], _, _, rfl, by rw [List.length_append, hul]; rfl, fun u hu => ?_, ?_⟩
      · rcases List.mem_append.mp hu with h | h
        · exact hus u h
        · rw [List.mem_singleton] at h
          subst h
          exact ⟨⟨by show 0 ≤ 11 - (0 + (i : Int)) % 12; omega, by show 11 - (0 + (i : Int)) % 12 < 12; omega⟩, ⟨hm2.1, by show y % 2 ≤ 1; omega⟩, ⟨by show 0 ≤ v; omega, by show v ≤ 30; omega⟩, ⟨by show 1 ≤ g; omega, by show g ≤ 100; omega⟩, ⟨hm3.1, by show z % 4 ≤ 3; omega⟩⟩
      · rw [List.map_append]
        exact hD.put.mono (by omega)
    · rintro e st ⟨us, x4, x5, rfl, hul, hus, hD⟩
      rw [rangeD_len] at hul hD
      exact ⟨trivial, hK _ _ ⟨us, _, _, rfl, hul, hus, hD.mono (by show B + 6000 + ((24 : Nat) : Int) * 5 ≤ _; omega)⟩⟩
  rintro e st ⟨us, x4, x5, rfl, hul, hus, hD⟩
  simp? only [v_tupL (rd_ref' hD.top)]
  refine ⟨z4, ?_⟩
  let S : Sy := ⟨30, rows, ws, us⟩
  have hS : SyT S := by
    refine ⟨⟨by show (1 : Int) ≤ 30; decide, by show (30 : Int) ≤ 30; decide⟩, ⟨by show 1 ≤ rows.length; omega, by show (rows.length : Int) ≤ 5; omega⟩, fun r hr => ?_, by show (ws.length : Int) ≤ 12; omega, fun j w hw => ?_, by show (us.length : Int) ≤ 24; omega, fun u hu => ?_⟩
    · obtain ⟨j, hj⟩ := List.getElem?_of_mem hr
      exact hrows j r hj
    · have := hws j w hw
      show w.Ok j (rows.length : Nat) 10
      rw [hrl5]
      exact this
    · show u.Ok (ws.length : Nat) 30
      rw [hwl]
      exact hus u hu
  exact dk_pop hD0 hD (blw_sy _ S) fun st1 h1 => ⟨⟨S, rfl, hS⟩, h1⟩
theorem syt_of {s : Sy} {a b c l e : Int} (h : s.Ok a b c l e) (ha : a ≤ 30) (hb : b ≤ 5) (hc : c ≤ 12) (hl : l ≤ 10) (he : e ≤ 24) : SyT s :=
  ⟨⟨h.days.1, by have := h.days.2; omega⟩, ⟨h.hands.1, by have := h.hands.2; omega⟩, h.rows, by have := h.works; omega, fun j w hw => by have o := h.work j w hw; exact ⟨⟨o.len.1, by have := o.len.2; omega⟩, o.ahead, o.able, o.any⟩, by have := h.wishes; omega, h.wish⟩
def w_p_law_1 : DS := wSeq (wAsg (wCB bRepr (wCons (wVar 3) (wNil))) (gNm 4)) (wSeq (wIf (wOr (wNot (wTest (wCall S_f_law_same (wCons (wCall S_p_told (wCons (wVar 3) (wNil))) (wCons (wCall S_f_law_text (wCons (wVar 3) (wNil))) (wNil)))))) (wNot (wTest (wCall S_f_law_same (wCons (wCall S_p_told (wCons (wVar 3) (wNil))) (wCons (wCall S_f_law_text (wCons (wVar 3) (wNil))) (wNil))))))) (wRet (wC (.bl false))) ((fun D env st => D.nx env st))) (wIf (wTest (wOp dNe (wCB bRepr (wCons (wVar 3) (wNil))) (wVar 4))) (wRet (wC (.bl false))) ((fun D env st => D.nx env st))))
def w_p_law : DS := wSeq (wAsg (wCall S_f_law_deck (wCons (wVar 0) (wNil))) (gNm 1)) (wSeq (wAsg (wLst false (wCons (wCall S_f_law_system (wCons (wVar 1) (wCons (wC (.int 30)) (wCons (wC (.int 5)) (wCons (wC (.int 12)) (wCons (wC (.int 10)) (wCons (wC (.int 24)) (wNil)))))))) (wCons (wCall S_f_law_system (wCons (wVar 1) (wCons (wC (.int 9)) (wCons (wC (.int 3)) (wCons (wC (.int 4)) (wCons (wC (.int 10)) (wCons (wC (.int 6)) (wNil)))))))) (wCons (wCall S_f_law_little (wCons (wVar 1) (wNil))) (wNil))))) (gNm 2)) (wSeq (wAsg (wOp dAdd (wVar 2) (wLst false (wCons (wCall S_f_law_greatest (wCons (wVar 1) (wNil))) (wCons (wTup (wCons (wC (.int 1)) (wCons (wTup (wCons (wTup (wNil)) (wNil))) (wCons (wTup (wNil)) (wCons (wTup (wNil)) (wNil)))))) (wCons (wTup (wCons (wOp dAdd (wC (.int 1)) (wOp dMod (wCall S_f_law_next (wCons (wVar 1) (wNil))) (wC (.int 30)))) (wCons (wTup (wCons (wTup (wNil)) (wCons (wTup (wCons (wC (.int 0)) (wNil))) (wNil)))) (wCons (wTup (wNil)) (wCons (wTup (wNil)) (wNil)))))) (wNil)))))) (gNm 2)) (wSeq (wFor (iSeq (wVar 2)) (gNm 3) w_p_law_1) (wRet (wC (.bl true))))))
def S_p_law : DL.Spec := ⟨1, List Int, fun ns => [.scr (ns.map .int)], fun ns st => ns.length ≤ 63 ∧ st = [], fun _ _ d _ => d = .bl true⟩
theorem vc_p_law : ∀ g sto, (S_p_law.args g).length = S_p_law.n → S_p_law.pre g sto → w_p_law (bodyEnds (S_p_law.post g sto)) (startE ["_law_script", "_law_deck_here", "_law_systems", "_law_system_here", "_law_mark"] (S_p_law.args g)) sto := by
  rintro (ns : List Int) sto _ ⟨hl, rfl⟩
  have z1 : 1 ≤ sizeLine := by decide
  have z2 : 2 ≤ sizeLine := by decide
  have z3 : 3 ≤ sizeLine := by decide
  have z4 : 4 ≤ sizeLine := by decide
  simp?! only [w_p_law, S_p_law, wFor, startE]
  refine seq_go ?_
  (try simp?! only [true_and])
  refine deck_use hl fun st hD => ?_
  refine seq_cut (fun e st => ∃ ss : List Sy, e = [some (.scr (ns.map .int)), some (.ref 2), some (.lst (ss.map Sy.d)), none, none] ∧ ss.length = 3 ∧ (∀ s ∈ ss, SyT s) ∧ Dk 30000000 [] st) (fun K hK => ?_) ?_
  · (try simp?! only [true_and])
    refine sys_use hD (by omega) (by omega) (by omega) (by omega) (by omega) (by omega) fun s1 st h1 hD => ?_
    refine sys_use hD (by omega) (by omega) (by omega) (by omega) (by omega) (by omega) fun s2 st h2 hD => ?_
    refine use_deck () rfl rfl hD (by omega) trivial fun d st hd hD => ?_
    obtain ⟨s3, rfl, h3⟩ := hd
    refine ⟨z3, hK _ _ ⟨[s1, s2, s3], rfl, rfl, fun s hs => ?_, hD.mono (by omega)⟩⟩
    simp only [List.mem_cons, List.not_mem_nil, or_false] at hs
    rcases hs with rfl | rfl | rfl
    · exact syt_of h1 (by decide) (by decide) (by decide) (by decide) (by decide)
    · exact syt_of h2 (by decide) (by decide) (by decide) (by decide) (by decide)
    · exact syt_of h3 (by decide) (by decide) (by decide) (by decide) (by decide)
  rintro e st ⟨ss, rfl, hsl, hss, hD⟩
  refine seq_cut (fun e st => ∃ ss : List Sy, e = [some (.scr (ns.map .int)), some (.ref 2), some (.lst (ss.map Sy.d)), none, none] ∧ (∀ s ∈ ss, SyT s)) (fun K hK => ?_) ?_
  · (try simp?! only [true_and])
    refine use_deck () rfl rfl hD (by omega) trivial fun d st hd hD => ?_
    obtain ⟨s1, rfl, h1⟩ := hd
    refine ⟨by decide, z1, by decide, by decide, z4, ?_⟩
    refine next_use hD (by omega) fun y st y0 y1 hD => ?_
    have hm := modb y (show (0 : Int) < 30 by decide)
    (try simp? only [true_and])
    refine ⟨by decide, by decide, z1, z2, by decide, by decide, z4, z3, by rw [hsl, sizeLine_eq]; decide, ?_⟩
    have e2 : ss.map Sy.d ++ [s1.d, D.tup [D.int 1, D.tup [D.tup []], D.tup [], D.tup []], D.tup [.int (1 + y % 30), D.tup [D.tup [], D.tup [D.int 0]], D.tup [], D.tup []]] = (ss ++ [s1, ⟨1, [[]], [], []⟩, ⟨1 + y % 30, [[], [0]], [], []⟩]).map Sy.d := by
      rw [List.map_append]
      rfl
    rw [e2]
    refine hK _ _ ⟨_, rfl, fun s hs => ?_⟩
    rcases List.mem_append.mp hs with h | h
    · exact hss s h
    simp only [List.mem_cons, List.not_mem_nil, or_false] at h
    rcases h with rfl | rfl | rfl
    · exact h1
    · exact ⟨by decide, by decide, fun r hr => by rw [List.mem_singleton] at hr; subst hr; exact ⟨.nil, fun _ h => nomatch h⟩, by decide, fun j w hw => by simp at hw, by decide, fun u hu => nomatch hu⟩
    · refine ⟨⟨by show 1 ≤ 1 + y % 30; omega, by show 1 + y % 30 ≤ 30; omega⟩, ⟨by show 1 ≤ 2; decide, by show ((2 : Nat) : Int) ≤ 5; decide⟩, fun r hr => ?_, by show ((0 : Nat) : Int) ≤ 12; decide, fun j w hw => by simp at hw, by show ((0 : Nat) : Int) ≤ 24; decide, fun u hu => nomatch hu⟩
      have hr : r = [] ∨ r = [0] := by simpa using hr
      rcases hr with rfl | rfl
      · exact ⟨.nil, fun _ h => nomatch h⟩
      · refine ⟨List.pairwise_singleton _ _, fun x hx => ?_⟩
        rw [List.mem_singleton] at hx
        subst hx
        show (0 : Int) ≤ 0 ∧ (0 : Int) < 1 + y % 30
        omega
  rintro e st ⟨ss, rfl, hss⟩
  refine seq_cut (fun _ _ => True) (fun K hK => ?_) fun e st _ => by (try simp?! only [true_and])
  (try simp?! only [true_and])
  refine forL_inv (fun i e st => ∃ x3 x4, e = [some (.scr (ns.map .int)), some (.ref 2), some (.lst (ss.map Sy.d)), x3, x4]) ?_ (fun e st _ => ⟨trivial, hK _ _ trivial⟩) _ _ ⟨_, _, rfl⟩
  rintro i e st d ⟨x3, x4, rfl⟩ he R hR
  obtain ⟨s, hs, rfl⟩ : ∃ s, s ∈ ss ∧ d = s.d := by
    have := List.mem_of_getElem? he
    obtain ⟨s, hs, e⟩ := List.mem_map.mp this
    exact ⟨s, hs, e.symm⟩
  have hs := hss s hs
  have h30 : S30 s := s30_of hs (by omega) (by omega) (by omega) (by omega) (by omega)
  have fS : s.d.Fit := (fit_sy h30 (by decide) (by decide) (by decide) (by decide) (by decide)).fit (by decide) (by decide)
  refine ⟨trivial, ?_⟩
  simp?! only [w_p_law_1]
  refine seq_go ?_
  simp?! only [v_repr]
  refine ⟨fS, ?_⟩
  refine seq_go ?_
  (try simp?! only [true_and])
  have fT : (D.str (textT s)).Fit := fit_text hs
  have one : ∀ Q : DK, Q (.bl true) st → ∃ g, [s.d] = S_p_told.args g ∧ (S_p_told.args g).length = S_p_told.n ∧ S_p_told.pre g st ∧ ∀ d s2, S_p_told.post g st d s2 → ∃ g, [s.d] = S_f_law_text.args g ∧ (S_f_law_text.args g).length = S_f_law_text.n ∧ S_f_law_text.pre g s2 ∧ ∀ d2 s3, S_f_law_text.post g s2 d2 s3 → ∃ g, [d, d2] = S_f_law_same.args g ∧ (S_f_law_same.args g).length = S_f_law_same.n ∧ S_f_law_same.pre g s3 ∧ ∀ d3 s4, S_f_law_same.post g s3 d3 s4 → Q d3 s4 := fun Q q => by
    refine use_pure s rfl rfl hs ?_
    refine use_pure s rfl rfl hs ?_
    refine same_use fT fT ?_
    rw [beq_self_eq_true]
    exact q
  refine one _ ⟨_, rfl, ?_⟩
  rw [if_neg (by decide)]
  refine one _ ⟨_, rfl, ?_⟩
  rw [if_neg (by decide)]
  simp? only [v_repr]
  refine ⟨fS, v_eqs ?_⟩
  rw [beq_self_eq_true]
  refine ⟨_, rfl, ?_⟩
  rw [if_neg (by decide)]
  exact hR _ _ ⟨_, _, rfl⟩
abbrev N_p_line_of : List Str := ["words", "word"]
theorem sc_p_line_of : FnScope N_p_line_of ["words"] (defScope s_p_line_of) := ⟨rfl, rfl, rfl, by decide +kernel, rfl, by decide +kernel, by decide +kernel⟩
abbrev N_f_law_deck : List Str := ["_law_script", "_law_digits", "_law_cells", "_law_cell"]
theorem sc_f_law_deck : FnScope N_f_law_deck ["_law_script"] (defScope s_f_law_deck) := ⟨rfl, rfl, rfl, by decide +kernel, rfl, by decide +kernel, by decide +kernel⟩
abbrev N_f_law_next : List Str := ["_law_deck_here", "_law_at", "_law_primes", "_law_cell", "_law_mixed"]
theorem sc_f_law_next : FnScope N_f_law_next ["_law_deck_here"] (defScope s_f_law_next) := ⟨rfl, rfl, rfl, by decide +kernel, rfl, by decide +kernel, by decide +kernel⟩
abbrev N_f_law_same : List Str := ["_law_found", "_law_due"]
theorem sc_f_law_same : FnScope N_f_law_same ["_law_found", "_law_due"] (defScope s_f_law_same) := ⟨rfl, rfl, rfl, by decide +kernel, rfl, by decide +kernel, by decide +kernel⟩
abbrev N_f_law_text : List Str := ["_law_system_here", "_law_days_here", "_law_hands", "_law_works", "_law_wishes", "_law_rows", "_law_gone", "_law_length", "_law_ahead", "_law_able", "_law_row", "_law_work_here", "_law_sort", "_law_day", "_law_weight", "_law_rank", "_law_one"]
theorem sc_f_law_text : FnScope N_f_law_text ["_law_system_here"] (defScope s_f_law_text) := ⟨rfl, rfl, rfl, by decide +kernel, rfl, by decide +kernel, by decide +kernel⟩
abbrev N_p_told : List Str := ["system", "days", "hands", "works", "wishes", "lines", "gone", "length", "ahead", "able", "work", "sort", "day", "weight", "rank"]
theorem sc_p_told : FnScope N_p_told ["system"] (defScope s_p_told) := ⟨rfl, rfl, rfl, by decide +kernel, rfl, by decide +kernel, by decide +kernel⟩
abbrev N_f_law_rows_of : List Str := ["_law_deck_here", "_law_high", "_law_some", "_law_one"]
theorem sc_f_law_rows_of : FnScope N_f_law_rows_of ["_law_deck_here", "_law_high", "_law_some"] (defScope s_f_law_rows_of) := ⟨rfl, rfl, rfl, by decide +kernel, rfl, by decide +kernel, by decide +kernel⟩
abbrev N_f_law_wish : List Str := ["_law_deck_here", "_law_works", "_law_days_here", "_law_ranks", "_law_weight"]
theorem sc_f_law_wish : FnScope N_f_law_wish ["_law_deck_here", "_law_works", "_law_days_here"] (defScope s_f_law_wish) := ⟨rfl, rfl, rfl, by decide +kernel, rfl, by decide +kernel, by decide +kernel⟩
abbrev N_f_law_days : List Str := ["_law_deck_here", "_law_days_here", "_law_some", "_law_day"]
theorem sc_f_law_days : FnScope N_f_law_days ["_law_deck_here", "_law_days_here", "_law_some"] (defScope s_f_law_days) := ⟨rfl, rfl, rfl, by decide +kernel, rfl, by decide +kernel, by decide +kernel⟩
abbrev N_f_law_work : List Str := ["_law_deck_here", "_law_number", "_law_hands", "_law_length", "_law_much", "_law_ahead", "_law_way", "_law_able", "_law_hand"]
theorem sc_f_law_work : FnScope N_f_law_work ["_law_deck_here", "_law_number", "_law_hands", "_law_length"] (defScope s_f_law_work) := ⟨rfl, rfl, rfl, by decide +kernel, rfl, by decide +kernel, by decide +kernel⟩
abbrev N_f_law_little : List Str := ["_law_deck_here", "_law_days_here", "_law_gone", "_law_hands", "_law_works", "_law_work_here", "_law_ahead", "_law_able", "_law_wishes", "_law_k", "_law_day", "_law_hand", "_law_one"]
theorem sc_f_law_little : FnScope N_f_law_little ["_law_deck_here"] (defScope s_f_law_little) := ⟨rfl, rfl, rfl, by decide +kernel, rfl, by decide +kernel, by decide +kernel⟩
abbrev N_f_law_greatest : List Str := ["_law_deck_here", "_law_hands", "_law_works", "_law_wishes", "_law_k", "_law_day", "_law_hand", "_law_work_here"]
theorem sc_f_law_greatest : FnScope N_f_law_greatest ["_law_deck_here"] (defScope s_f_law_greatest) := ⟨rfl, rfl, rfl, by decide +kernel, rfl, by decide +kernel, by decide +kernel⟩
abbrev N_f_law_system : List Str := ["_law_deck_here", "_law_days_here", "_law_hands", "_law_works", "_law_length", "_law_wishes", "_law_many", "_law_some", "_law_rows", "_law_count", "_law_longest", "_law_works_drawn", "_law_wished", "_law_hand", "_law_work_here", "_law_k"]
theorem sc_f_law_system : FnScope N_f_law_system ["_law_deck_here", "_law_days_here", "_law_hands", "_law_works", "_law_length", "_law_wishes"] (defScope s_f_law_system) := ⟨rfl, rfl, rfl, by decide +kernel, rfl, by decide +kernel, by decide +kernel⟩
abbrev N_p_law : List Str := ["_law_script", "_law_deck_here", "_law_systems", "_law_system_here", "_law_mark"]
theorem sc_p_law : FnScope N_p_law ["_law_script"] (defScope s_p_law) := ⟨rfl, rfl, rfl, by decide +kernel, rfl, by decide +kernel, by decide +kernel⟩
set_option genInjectivity false in
set_option genSizeOf false in
structure Txt (K : PySem.W.Frag) (mg : Str → Option Value) where
  a_p_line_of : Addr
  d_p_line_of : FuncData
  F_p_line_of : Fun K "line_of" "line_of" s_p_line_of a_p_line_of d_p_line_of
  b_p_line_of : Binds K d_p_line_of ["words"] []
  m_p_line_of : mg "line_of" = some (.ref a_p_line_of)
  a_f_law_deck : Addr
  d_f_law_deck : FuncData
  F_f_law_deck : Fun K "_law_deck" "_law_deck" s_f_law_deck a_f_law_deck d_f_law_deck
  b_f_law_deck : Binds K d_f_law_deck ["_law_script"] []
  m_f_law_deck : mg "_law_deck" = some (.ref a_f_law_deck)
  a_f_law_next : Addr
  d_f_law_next : FuncData
  F_f_law_next : Fun K "_law_next" "_law_next" s_f_law_next a_f_law_next d_f_law_next
  b_f_law_next : Binds K d_f_law_next ["_law_deck_here"] []
  m_f_law_next : mg "_law_next" = some (.ref a_f_law_next)
  a_f_law_same : Addr
  d_f_law_same : FuncData
  F_f_law_same : Fun K "_law_same" "_law_same" s_f_law_same a_f_law_same d_f_law_same
  b_f_law_same : Binds K d_f_law_same ["_law_found", "_law_due"] []
  m_f_law_same : mg "_law_same" = some (.ref a_f_law_same)
  a_f_law_text : Addr
  d_f_law_text : FuncData
  F_f_law_text : Fun K "_law_text" "_law_text" s_f_law_text a_f_law_text d_f_law_text
  b_f_law_text : Binds K d_f_law_text ["_law_system_here"] []
  m_f_law_text : mg "_law_text" = some (.ref a_f_law_text)
  a_p_told : Addr
  d_p_told : FuncData
  F_p_told : Fun K "told" "told" s_p_told a_p_told d_p_told
  b_p_told : Binds K d_p_told ["system"] []
  m_p_told : mg "told" = some (.ref a_p_told)
  a_f_law_rows_of : Addr
  d_f_law_rows_of : FuncData
  F_f_law_rows_of : Fun K "_law_rows_of" "_law_rows_of" s_f_law_rows_of a_f_law_rows_of d_f_law_rows_of
  b_f_law_rows_of : Binds K d_f_law_rows_of ["_law_deck_here", "_law_high", "_law_some"] []
  m_f_law_rows_of : mg "_law_rows_of" = some (.ref a_f_law_rows_of)
  a_f_law_wish : Addr
  d_f_law_wish : FuncData
  F_f_law_wish : Fun K "_law_wish" "_law_wish" s_f_law_wish a_f_law_wish d_f_law_wish
  b_f_law_wish : Binds K d_f_law_wish ["_law_deck_here", "_law_works", "_law_days_here"] []
  m_f_law_wish : mg "_law_wish" = some (.ref a_f_law_wish)
  a_f_law_days : Addr
  d_f_law_days : FuncData
  F_f_law_days : Fun K "_law_days" "_law_days" s_f_law_days a_f_law_days d_f_law_days
  b_f_law_days : Binds K d_f_law_days ["_law_deck_here", "_law_days_here", "_law_some"] []
  m_f_law_days : mg "_law_days" = some (.ref a_f_law_days)
  a_f_law_work : Addr
  d_f_law_work : FuncData
  F_f_law_work : Fun K "_law_work" "_law_work" s_f_law_work a_f_law_work d_f_law_work
  b_f_law_work : Binds K d_f_law_work ["_law_deck_here", "_law_number", "_law_hands", "_law_length"] []
  m_f_law_work : mg "_law_work" = some (.ref a_f_law_work)
  a_f_law_little : Addr
  d_f_law_little : FuncData
  F_f_law_little : Fun K "_law_little" "_law_little" s_f_law_little a_f_law_little d_f_law_little
  b_f_law_little : Binds K d_f_law_little ["_law_deck_here"] []
  m_f_law_little : mg "_law_little" = some (.ref a_f_law_little)
  a_f_law_greatest : Addr
  d_f_law_greatest : FuncData
  F_f_law_greatest : Fun K "_law_greatest" "_law_greatest" s_f_law_greatest a_f_law_greatest d_f_law_greatest
  b_f_law_greatest : Binds K d_f_law_greatest ["_law_deck_here"] []
  m_f_law_greatest : mg "_law_greatest" = some (.ref a_f_law_greatest)
  a_f_law_system : Addr
  d_f_law_system : FuncData
  F_f_law_system : Fun K "_law_system" "_law_system" s_f_law_system a_f_law_system d_f_law_system
  b_f_law_system : Binds K d_f_law_system ["_law_deck_here", "_law_days_here", "_law_hands", "_law_works", "_law_length", "_law_wishes"] []
  m_f_law_system : mg "_law_system" = some (.ref a_f_law_system)
  a_p_law : Addr
  d_p_law : FuncData
  F_p_law : Fun K "law" "law" s_p_law a_p_law d_p_law
  b_p_law : Binds K d_p_law ["_law_script"] []
  m_p_law : mg "law" = some (.ref a_p_law)
  n_abs : mg "abs" = none
  n_int : mg "int" = none
  n_len : mg "len" = none
  n_list : mg "list" = none
  n_min : mg "min" = none
  n_range : mg "range" = none
  n_repr : mg "repr" = none
  n_str : mg "str" = none
  n_tuple : mg "tuple" = none
  g_SORTS : ∃ a, mg "SORTS" = some (.ref a) ∧ ∀ io F, Den K io F (.ref a) (.tup [.str "from", .str "by"])
section
variable {P : Program} {w : World} {K : PySem.W.Frag} {mg : Str → Option Value} {base : Heap}
theorem ok_p_line_of (T : Txt K mg) : FnG P w K mg base CX0 1 T.a_p_line_of T.d_p_line_of ["words"] (spOf K S_p_line_of) := by
  refine fn_ok T.F_p_line_of sc_p_line_of rfl (fun cdv A outer s H E hr hgd => ?_) vc_p_line_of
  have nd := sc_p_line_of.nd
  exact wb_one (ws_ret (we_op op_addD z_add (we_mS z_join PySem.F.slot_str_join PySem.F.type_str_join mt_join (we_str) (we_lc (m := false) (t := (.nm 1)) (own := [("word", 1)]) rfl nd (wi_seq (we_var (i := 0) rfl (.inl rfl))) (blkOk_by (own := [("word", 1)]) (N := N_p_line_of) (by kernel_rfl)) (by simp [Tg.ix]) (fun _ _ _ _ _ => pg_name (i := 1) nd rfl (.inl rfl)) (fun _ _ _ _ _ => wts_nil) (fun _ _ _ _ _ => we_callX z_strX (fun h => pe_callTy call_strX (by rfl) T.n_str bb_str h) (wa_cons (we_var (i := 1) rfl (.inl rfl)) (wa_nil))))) (we_str)))
theorem ok_f_law_deck (T : Txt K mg) : FnG P w K mg base CX0 1 T.a_f_law_deck T.d_f_law_deck ["_law_script"] (spOf K S_f_law_deck) := by
  refine fn_ok T.F_f_law_deck sc_f_law_deck rfl (fun cdv A outer s H E hr hgd => ?_) vc_f_law_deck
  have nd := sc_f_law_deck.nd
  exact wb_cons (ws_set (i := 1) nd rfl (.inl rfl) (we_lst (m := true) (wa_nil))) (wb_cons (ws_set (i := 2) nd rfl (.inl rfl) (we_lst (m := true) (wa_cons (we_callX z_len (fun h => pe_callB (CallR.or call_len_seq call_len_str) (by rfl) T.n_len bb_len h) (wa_cons (we_var (i := 0) rfl (.inl rfl)) (wa_nil))) (wa_nil)))) (wb_cons (ws_for PassesOwn.never rfl (wi_seq (we_sl (m := false) (we_var (i := 0) rfl (.inl rfl)) wo_none (wo_some (we_int)))) (wg_name (i := 3) nd rfl (.inl rfl)) (wb_cons (ws_set (i := 3) nd rfl (.inl rfl) (we_callX z_abs (fun h => pe_callB call_abs (by rfl) T.n_abs bb_abs h) (wa_cons (we_var (i := 3) rfl (.inl rfl)) (wa_nil)))) (wb_cons (ws_expr (we_m PySem.F.slot_list_append PySem.F.type_list_append mt_append z_append (we_var (i := 2) rfl (.inl rfl)) (wa_cons (we_op op_mod z_mod (we_var (i := 3) rfl (.inl rfl)) (we_int)) (wa_nil)) (fun h1 h2 => pe_bm PySem.F.plainAttrs_list PySem.F.slot_list_append PySem.F.type_list_append mt_append h1 h2))) (wb_one (ws_while PassesOwn.never ((ww_and (wt_cmp (op_geD hr.units0) z_ge (we_var (i := 3) rfl (.inl rfl)) (we_op op_pow z_pow (we_int) (we_int)) ((nomark _))) (ww_and1 (wt_cmp (op_ltD hr.units0) z_lt (we_callX z_len (fun h => pe_callB (CallR.or call_len_seq call_len_str) (by rfl) T.n_len bb_len h) (wa_cons (we_var (i := 1) rfl (.inl rfl)) (wa_nil))) (we_int) ((nomark _))))).wt) (wb_cons (ws_expr (we_m PySem.F.slot_list_append PySem.F.type_list_append mt_append z_append (we_var (i := 1) rfl (.inl rfl)) (wa_cons (we_op op_mod z_mod (we_var (i := 3) rfl (.inl rfl)) (we_int)) (wa_nil)) (fun h1 h2 => pe_bm PySem.F.plainAttrs_list PySem.F.slot_list_append PySem.F.type_list_append mt_append h1 h2))) (wb_one (ws_set (i := 3) nd rfl (.inl rfl) (we_op op_fdivW z_fdiv (we_var (i := 3) rfl (.inl rfl)) (we_int)))))))))) (wb_one (ws_ret (we_lst (m := true) (wa_cons (we_var (i := 1) rfl (.inl rfl)) (wa_cons (we_var (i := 2) rfl (.inl rfl)) (wa_cons (we_int) (wa_nil)))))))))
theorem ok_f_law_next (T : Txt K mg) : FnG P w K mg base CX0 1 T.a_f_law_next T.d_f_law_next ["_law_deck_here"] (spOf K S_f_law_next) := by
  refine fn_ok T.F_f_law_next sc_f_law_next rfl (fun cdv A outer s H E hr hgd => ?_) vc_f_law_next
  have nd := sc_f_law_next.nd
  exact wb_cons (ws_if (wt_cmp (op_neC hr.units) z_eqB (we_ix (we_var (i := 0) rfl (.inl rfl)) (we_int)) (we_lst (m := false) (wa_nil)) ((nomark _))) (wb_one (ws_ret (we_m PySem.F.slot_list_pop PySem.F.type_list_pop mt_popAt z_popAt (we_ix (we_var (i := 0) rfl (.inl rfl)) (we_int)) (wa_cons (we_int) (wa_nil)) (fun h1 h2 => pe_bm PySem.F.plainAttrs_list PySem.F.slot_list_pop PySem.F.type_list_pop mt_popAt h1 h2)))) (wb_nil)) (wb_cons (ws_set (i := 1) nd rfl (.inl rfl) (we_ix (we_var (i := 0) rfl (.inl rfl)) (we_int))) (wb_cons (ws_asg (we_op op_addD z_add (we_var (i := 1) rfl (.inl rfl)) (we_int)) (wg_sub (we_var (i := 0) rfl (.inl rfl)) (we_int))) (wb_cons (ws_set (i := 2) nd rfl (.inl rfl) (we_tup (wa_cons (we_int) (wa_cons (we_int) (wa_cons (we_int) (wa_cons (we_int) (wa_cons (we_int) (wa_cons (we_int) (wa_cons (we_int) (wa_cons (we_int) (wa_cons (we_int) (wa_cons (we_int) (wa_cons (we_int) (wa_cons (we_int) (wa_nil))))))))))))))) (wb_cons (ws_set (i := 3) nd rfl (.inl rfl) (we_op op_addD z_add (we_ix (we_ix (we_var (i := 0) rfl (.inl rfl)) (we_int)) (we_op op_mod z_mod (we_op op_addD z_add (we_var (i := 1) rfl (.inl rfl)) (we_int)) (we_callX z_len (fun h => pe_callB (CallR.or call_len_seq call_len_str) (by rfl) T.n_len bb_len h) (wa_cons (we_ix (we_var (i := 0) rfl (.inl rfl)) (we_int)) (wa_nil))))) (we_op op_mulD z_mul (we_int) (we_var (i := 1) rfl (.inl rfl))))) (wb_cons (ws_set (i := 4) nd rfl (.inl rfl) (we_op op_mod z_mod (we_op op_pow z_pow (we_op op_addD z_add (we_var (i := 3) rfl (.inl rfl)) (we_op op_mulD z_mul (we_ix (we_var (i := 2) rfl (.inl rfl)) (we_op op_mod z_mod (we_var (i := 1) rfl (.inl rfl)) (we_int))) (we_op op_addD z_add (we_var (i := 1) rfl (.inl rfl)) (we_int)))) (we_int)) (we_int))) (wb_one (ws_ret (we_op op_mod z_mod (we_op op_addD z_add (we_var (i := 4) rfl (.inl rfl)) (we_op op_mulD z_mul (we_ix (we_var (i := 2) rfl (.inl rfl)) (we_op op_mod z_mod (we_op op_addD z_add (we_var (i := 1) rfl (.inl rfl)) (we_int)) (we_int))) (we_var (i := 3) rfl (.inl rfl)))) (we_int)))))))))
theorem ok_f_law_same (T : Txt K mg) : FnG P w K mg base CX0 1 T.a_f_law_same T.d_f_law_same ["_law_found", "_law_due"] (spOf K S_f_law_same) := by
  refine fn_ok T.F_f_law_same sc_f_law_same rfl (fun cdv A outer s H E hr hgd => ?_) vc_f_law_same
  have nd := sc_f_law_same.nd
  exact wb_one (ws_ret (we_cmp (op_eqC hr.units) z_eqB (we_callX z_repr (fun h => pe_callB (call_reprD hgd hr.units) (by rfl) T.n_repr bb_repr h) (wa_cons (we_var (i := 0) rfl (.inl rfl)) (wa_nil))) (we_callX z_repr (fun h => pe_callB (call_reprD hgd hr.units) (by rfl) T.n_repr bb_repr h) (wa_cons (we_var (i := 1) rfl (.inl rfl)) (wa_nil))) ((nomark _))))
theorem ok_f_law_text (T : Txt K mg) : FnG P w K mg base CX0 1 T.a_f_law_text T.d_f_law_text ["_law_system_here"] (spOf K S_f_law_text) := by
  refine fn_okP T.F_f_law_text sc_f_law_text rfl (fun cdv A outer s H E hr hgd => ?_) vc_f_law_text
  have nd := sc_f_law_text.nd
  exact wb_cons (ws_asg (we_var (i := 0) rfl (.inl rfl)) (wg_tup rfl (wgs_cons (wg_name (i := 1) nd rfl (.inl rfl)) (wgs_cons (wg_name (i := 2) nd rfl (.inl rfl)) (wgs_cons (wg_name (i := 3) nd rfl (.inl rfl)) (wgs_cons (wg_name (i := 4) nd rfl (.inl rfl)) (wgs_nil))))))) (wb_cons (ws_set (i := 5) nd rfl (.inl rfl) (we_lst (m := true) (wa_cons (we_op op_addD z_add (we_str) (we_callX z_str (fun h => pe_callTy call_str_int (by rfl) T.n_str bb_str h) (wa_cons (we_var (i := 1) rfl (.inl rfl)) (wa_nil)))) (wa_nil)))) (wb_cons (ws_for PassesOwn.never rfl (wi_seq (we_var (i := 2) rfl (.inl rfl))) (wg_name (i := 6) nd rfl (.inl rfl)) (wb_one (ws_expr (we_m PySem.F.slot_list_append PySem.F.type_list_append mt_append z_append (we_var (i := 5) rfl (.inl rfl)) (wa_cons (we_mS z_join PySem.F.slot_str_join PySem.F.type_str_join mt_join (we_str) (we_op op_addD z_add (we_lst (m := false) (wa_cons (we_str) (wa_nil))) (we_lc (m := false) (t := (.nm 13)) (own := [("_law_day", 13)]) rfl nd (wi_seq (we_var (i := 6) rfl (.inl rfl))) (blkOk_by (own := [("_law_day", 13)]) (N := N_f_law_text) (by kernel_rfl)) (by simp [Tg.ix]) (fun _ _ _ _ _ => pg_name (i := 13) nd rfl (.inl rfl)) (fun _ _ _ _ _ => wts_nil) (fun _ _ _ _ _ => we_callX z_str (fun h => pe_callTy call_str_int (by rfl) T.n_str bb_str h) (wa_cons (we_var (i := 13) rfl (.inl rfl)) (wa_nil)))))) (wa_nil)) (fun h1 h2 => pe_bm PySem.F.plainAttrs_list PySem.F.slot_list_append PySem.F.type_list_append mt_append h1 h2))))) (wb_cons (ws_for PassesOwn.never rfl (wi_seq (we_var (i := 3) rfl (.inl rfl))) (wg_tup rfl (wgs_cons (wg_name (i := 7) nd rfl (.inl rfl)) (wgs_cons (wg_name (i := 8) nd rfl (.inl rfl)) (wgs_cons (wg_name (i := 9) nd rfl (.inl rfl)) (wgs_nil))))) (wb_cons (ws_set (i := 10) nd rfl (.inl rfl) (we_op op_addD z_add (we_lst (m := false) (wa_cons (we_str) (wa_cons (we_callX z_str (fun h => pe_callTy call_str_int (by rfl) T.n_str bb_str h) (wa_cons (we_var (i := 7) rfl (.inl rfl)) (wa_nil))) (wa_cons (we_str) (wa_nil))))) (we_lc (m := false) (t := (.nm 16)) (own := [("_law_one", 16)]) rfl nd (wi_seq (we_var (i := 8) rfl (.inl rfl))) (blkOk_by (own := [("_law_one", 16)]) (N := N_f_law_text) (by kernel_rfl)) (by simp [Tg.ix]) (fun _ _ _ _ _ => pg_name (i := 16) nd rfl (.inl rfl)) (fun _ _ _ _ _ => wts_nil) (fun _ _ _ _ _ => we_callX z_str (fun h => pe_callTy call_str_int (by rfl) T.n_str bb_str h) (wa_cons (we_var (i := 16) rfl (.inl rfl)) (wa_nil)))))) (wb_one (ws_expr (we_m PySem.F.slot_list_append PySem.F.type_list_append mt_append z_append (we_var (i := 5) rfl (.inl rfl)) (wa_cons (we_mS z_join PySem.F.slot_str_join PySem.F.type_str_join mt_join (we_str) (we_op op_addD z_add (we_op op_addD z_add (we_var (i := 10) rfl (.inl rfl)) (we_lst (m := false) (wa_cons (we_str) (wa_nil)))) (we_lc (m := false) (t := (.nm 16)) (own := [("_law_one", 16)]) rfl nd (wi_seq (we_var (i := 9) rfl (.inl rfl))) (blkOk_by (own := [("_law_one", 16)]) (N := N_f_law_text) (by kernel_rfl)) (by simp [Tg.ix]) (fun _ _ _ _ _ => pg_name (i := 16) nd rfl (.inl rfl)) (fun _ _ _ _ _ => wts_nil) (fun _ _ _ _ _ => we_callX z_str (fun h => pe_callTy call_str_int (by rfl) T.n_str bb_str h) (wa_cons (we_var (i := 16) rfl (.inl rfl)) (wa_nil)))))) (wa_nil)) (fun h1 h2 => pe_bm PySem.F.plainAttrs_list PySem.F.slot_list_append PySem.F.type_list_append mt_append h1 h2)))))) (wb_cons (ws_for PassesOwn.never rfl (wi_seq (we_var (i := 4) rfl (.inl rfl))) (wg_tup rfl (wgs_cons (wg_name (i := 11) nd rfl (.inl rfl)) (wgs_cons (wg_name (i := 12) nd rfl (.inl rfl)) (wgs_cons (wg_name (i := 13) nd rfl (.inl rfl)) (wgs_cons (wg_name (i := 14) nd rfl (.inl rfl)) (wgs_cons (wg_name (i := 15) nd rfl (.inl rfl)) (wgs_nil))))))) (wb_cons (ws_set (i := 10) nd rfl (.inl rfl) (we_lst (m := false) (wa_cons (we_str) (wa_cons (we_callX z_str (fun h => pe_callTy call_str_int (by rfl) T.n_str bb_str h) (wa_cons (we_var (i := 11) rfl (.inl rfl)) (wa_nil))) (wa_cons (we_ix (we_lst (m := false) (wa_cons (we_str) (wa_cons (we_str) (wa_nil)))) (we_var (i := 12) rfl (.inl rfl))) (wa_cons (we_callX z_str (fun h => pe_callTy call_str_int (by rfl) T.n_str bb_str h) (wa_cons (we_var (i := 13) rfl (.inl rfl)) (wa_nil))) (wa_cons (we_str) (wa_cons (we_callX z_str (fun h => pe_callTy call_str_int (by rfl) T.n_str bb_str h) (wa_cons (we_var (i := 14) rfl (.inl rfl)) (wa_nil))) (wa_cons (we_str) (wa_cons (we_callX z_str (fun h => pe_callTy call_str_int (by rfl) T.n_str bb_str h) (wa_cons (we_var (i := 15) rfl (.inl rfl)) (wa_nil))) (wa_nil))))))))))) (wb_one (ws_expr (we_m PySem.F.slot_list_append PySem.F.type_list_append mt_append z_append (we_var (i := 5) rfl (.inl rfl)) (wa_cons (we_mS z_join PySem.F.slot_str_join PySem.F.type_str_join mt_join (we_str) (we_var (i := 10) rfl (.inl rfl))) (wa_nil)) (fun h1 h2 => pe_bm PySem.F.plainAttrs_list PySem.F.slot_list_append PySem.F.type_list_append mt_append h1 h2)))))) (wb_one (ws_ret (we_mS z_join PySem.F.slot_str_join PySem.F.type_str_join mt_join (we_str) (we_lc (m := false) (t := (.nm 10)) (own := [("_law_row", 10)]) rfl nd (wi_seq (we_var (i := 5) rfl (.inl rfl))) (blkOk_by (own := [("_law_row", 10)]) (N := N_f_law_text) (by kernel_rfl)) (by simp [Tg.ix]) (fun _ _ _ _ _ => pg_name (i := 10) nd rfl (.inl rfl)) (fun _ _ _ _ _ => wts_nil) (fun _ _ _ _ _ => we_op op_addD z_add (we_var (i := 10) rfl (.inl rfl)) (we_str))))))))))
theorem ok_p_told (T : Txt K mg) : FnG P w K mg base CX0 2 T.a_p_told T.d_p_told ["system"] (spOf K S_p_told) := by
  refine fn_okP T.F_p_told sc_p_told rfl (fun cdv A outer s H E hr hgd => ?_) vc_p_told
  have nd := sc_p_told.nd
  exact wb_cons (ws_asg (we_var (i := 0) rfl (.inl rfl)) (wg_tup rfl (wgs_cons (wg_name (i := 1) nd rfl (.inl rfl)) (wgs_cons (wg_name (i := 2) nd rfl (.inl rfl)) (wgs_cons (wg_name (i := 3) nd rfl (.inl rfl)) (wgs_cons (wg_name (i := 4) nd rfl (.inl rfl)) (wgs_nil))))))) (wb_cons (ws_set (i := 5) nd rfl (.inl rfl) (we_lst (m := true) (wa_cons (we_call (ok_p_line_of T) (hr.mono (by decide)) hgd (by rfl) T.m_p_line_of T.F_p_line_of.kp T.b_p_line_of (wa_cons (we_lst (m := false) (wa_cons (we_str) (wa_cons (we_var (i := 1) rfl (.inl rfl)) (wa_nil)))) (wa_nil))) (wa_nil)))) (wb_cons (ws_for PassesOwn.never rfl (wi_seq (we_var (i := 2) rfl (.inl rfl))) (wg_name (i := 6) nd rfl (.inl rfl)) (wb_one (ws_expr (we_m PySem.F.slot_list_append PySem.F.type_list_append mt_append z_append (we_var (i := 5) rfl (.inl rfl)) (wa_cons (we_call (ok_p_line_of T) (hr.mono (by decide)) hgd (by rfl) T.m_p_line_of T.F_p_line_of.kp T.b_p_line_of (wa_cons (we_op op_addD z_add (we_lst (m := false) (wa_cons (we_str) (wa_nil))) (we_callX (z_list (m := false)) (fun h => pe_callTy call_list_of (by rfl) T.n_list bb_list h) (wa_cons (we_var (i := 6) rfl (.inl rfl)) (wa_nil)))) (wa_nil))) (wa_nil)) (fun h1 h2 => pe_bm PySem.F.plainAttrs_list PySem.F.slot_list_append PySem.F.type_list_append mt_append h1 h2))))) (wb_cons (ws_for PassesOwn.never rfl (wi_seq (we_var (i := 3) rfl (.inl rfl))) (wg_tup rfl (wgs_cons (wg_name (i := 7) nd rfl (.inl rfl)) (wgs_cons (wg_name (i := 8) nd rfl (.inl rfl)) (wgs_cons (wg_name (i := 9) nd rfl (.inl rfl)) (wgs_nil))))) (wb_one (ws_expr (we_m PySem.F.slot_list_append PySem.F.type_list_append mt_append z_append (we_var (i := 5) rfl (.inl rfl)) (wa_cons (we_call (ok_p_line_of T) (hr.mono (by decide)) hgd (by rfl) T.m_p_line_of T.F_p_line_of.kp T.b_p_line_of (wa_cons (we_op op_addD z_add (we_op op_addD z_add (we_op op_addD z_add (we_lst (m := false) (wa_cons (we_str) (wa_cons (we_var (i := 7) rfl (.inl rfl)) (wa_cons (we_str) (wa_nil))))) (we_callX (z_list (m := false)) (fun h => pe_callTy call_list_of (by rfl) T.n_list bb_list h) (wa_cons (we_var (i := 8) rfl (.inl rfl)) (wa_nil)))) (we_lst (m := false) (wa_cons (we_str) (wa_nil)))) (we_callX (z_list (m := false)) (fun h => pe_callTy call_list_of (by rfl) T.n_list bb_list h) (wa_cons (we_var (i := 9) rfl (.inl rfl)) (wa_nil)))) (wa_nil))) (wa_nil)) (fun h1 h2 => pe_bm PySem.F.plainAttrs_list PySem.F.slot_list_append PySem.F.type_list_append mt_append h1 h2))))) (wb_cons (ws_for PassesOwn.never rfl (wi_seq (we_var (i := 4) rfl (.inl rfl))) (wg_tup rfl (wgs_cons (wg_name (i := 10) nd rfl (.inl rfl)) (wgs_cons (wg_name (i := 11) nd rfl (.inl rfl)) (wgs_cons (wg_name (i := 12) nd rfl (.inl rfl)) (wgs_cons (wg_name (i := 13) nd rfl (.inl rfl)) (wgs_cons (wg_name (i := 14) nd rfl (.inl rfl)) (wgs_nil))))))) (wb_one (ws_expr (we_m PySem.F.slot_list_append PySem.F.type_list_append mt_append z_append (we_var (i := 5) rfl (.inl rfl)) (wa_cons (we_call (ok_p_line_of T) (hr.mono (by decide)) hgd (by rfl) T.m_p_line_of T.F_p_line_of.kp T.b_p_line_of (wa_cons (we_lst (m := false) (wa_cons (we_str) (wa_cons (we_var (i := 10) rfl (.inl rfl)) (wa_cons (we_ix (we_gtupE (by rfl) T.g_SORTS) (we_var (i := 11) rfl (.inl rfl))) (wa_cons (we_var (i := 12) rfl (.inl rfl)) (wa_cons (we_str) (wa_cons (we_var (i := 13) rfl (.inl rfl)) (wa_cons (we_str) (wa_cons (we_var (i := 14) rfl (.inl rfl)) (wa_nil)))))))))) (wa_nil))) (wa_nil)) (fun h1 h2 => pe_bm PySem.F.plainAttrs_list PySem.F.slot_list_append PySem.F.type_list_append mt_append h1 h2))))) (wb_one (ws_ret (we_mS z_join PySem.F.slot_str_join PySem.F.type_str_join mt_join (we_str) (we_var (i := 5) rfl (.inl rfl)))))))))
theorem ok_f_law_rows_of (T : Txt K mg) : FnG P w K mg base CX0 2 T.a_f_law_rows_of T.d_f_law_rows_of ["_law_deck_here", "_law_high", "_law_some"] (spOf K S_f_law_rows_of) := by
  refine fn_ok T.F_f_law_rows_of sc_f_law_rows_of rfl (fun cdv A outer s H E hr hgd => ?_) vc_f_law_rows_of
  have nd := sc_f_law_rows_of.nd
  exact wb_one (ws_ret (we_callX z_tuple (fun h => pe_callTy call_tupleX (by rfl) T.n_tuple bb_tuple h) (wa_cons (we_lc (m := false) (t := (.nm 3)) (own := [("_law_one", 3)]) rfl nd (wi_range1 (by rfl) T.n_range (wa_cons (we_op op_addD z_add (we_var (i := 1) rfl (.inl rfl)) (we_int)) (wa_nil))) (blkOk_by (own := [("_law_one", 3)]) (N := N_f_law_rows_of) (by kernel_rfl)) (by simp [Tg.ix]) (fun _ _ _ _ _ => pg_name (i := 3) nd rfl (.inl rfl)) (fun _ _ _ _ _ => wts_one (wt_cmp (op_eqC hr.units) z_eqB (we_op op_mod z_mod (we_call (ok_f_law_next T) (hr.mono (by decide)) hgd (by rfl) T.m_f_law_next T.F_f_law_next.kp T.b_f_law_next (wa_cons (we_var (i := 0) rfl (.inr (.inl rfl))) (wa_nil))) (we_var (i := 2) rfl (.inr (.inl rfl)))) (we_int) ((nomark _)))) (fun _ _ _ _ _ => we_var (i := 3) rfl (.inl rfl))) (wa_nil))))
theorem ok_f_law_wish (T : Txt K mg) : FnG P w K mg base CX0 2 T.a_f_law_wish T.d_f_law_wish ["_law_deck_here", "_law_works", "_law_days_here"] (spOf K S_f_law_wish) := by
  refine fn_ok T.F_f_law_wish sc_f_law_wish rfl (fun cdv A outer s H E hr hgd => ?_) vc_f_law_wish
  have nd := sc_f_law_wish.nd
  exact wb_cons (ws_set (i := 3) nd rfl (.inl rfl) (we_ix (we_lst (m := false) (wa_cons (we_int) (wa_cons (we_int) (wa_cons (we_int) (wa_nil))))) (we_op op_mod z_mod (we_call (ok_f_law_next T) (hr.mono (by decide)) hgd (by rfl) T.m_f_law_next T.F_f_law_next.kp T.b_f_law_next (wa_cons (we_var (i := 0) rfl (.inl rfl)) (wa_nil))) (we_int)))) (wb_cons (ws_set (i := 4) nd rfl (.inl rfl) (we_ix (we_lst (m := false) (wa_cons (we_op op_addD z_add (we_int) (we_op op_mod z_mod (we_call (ok_f_law_next T) (hr.mono (by decide)) hgd (by rfl) T.m_f_law_next T.F_f_law_next.kp T.b_f_law_next (wa_cons (we_var (i := 0) rfl (.inl rfl)) (wa_nil))) (we_int))) (wa_cons (we_op op_addD z_add (we_int) (we_op op_mod z_mod (we_call (ok_f_law_next T) (hr.mono (by decide)) hgd (by rfl) T.m_f_law_next T.F_f_law_next.kp T.b_f_law_next (wa_cons (we_var (i := 0) rfl (.inl rfl)) (wa_nil))) (we_int))) (wa_nil)))) (we_op op_mod z_mod (we_call (ok_f_law_next T) (hr.mono (by decide)) hgd (by rfl) T.m_f_law_next T.F_f_law_next.kp T.b_f_law_next (wa_cons (we_var (i := 0) rfl (.inl rfl)) (wa_nil))) (we_int)))) (wb_one (ws_ret (we_tup (wa_cons (we_op op_mod z_mod (we_call (ok_f_law_next T) (hr.mono (by decide)) hgd (by rfl) T.m_f_law_next T.F_f_law_next.kp T.b_f_law_next (wa_cons (we_var (i := 0) rfl (.inl rfl)) (wa_nil))) (we_var (i := 1) rfl (.inl rfl))) (wa_cons (we_op op_mod z_mod (we_call (ok_f_law_next T) (hr.mono (by decide)) hgd (by rfl) T.m_f_law_next T.F_f_law_next.kp T.b_f_law_next (wa_cons (we_var (i := 0) rfl (.inl rfl)) (wa_nil))) (we_int)) (wa_cons (we_op op_mod z_mod (we_call (ok_f_law_next T) (hr.mono (by decide)) hgd (by rfl) T.m_f_law_next T.F_f_law_next.kp T.b_f_law_next (wa_cons (we_var (i := 0) rfl (.inl rfl)) (wa_nil))) (we_op op_addD z_add (we_var (i := 2) rfl (.inl rfl)) (we_int))) (wa_cons (we_var (i := 4) rfl (.inl rfl)) (wa_cons (we_op op_mod z_mod (we_call (ok_f_law_next T) (hr.mono (by decide)) hgd (by rfl) T.m_f_law_next T.F_f_law_next.kp T.b_f_law_next (wa_cons (we_var (i := 0) rfl (.inl rfl)) (wa_nil))) (we_var (i := 3) rfl (.inl rfl))) (wa_nil))))))))))
theorem ok_f_law_days (T : Txt K mg) : FnG P w K mg base CX0 2 T.a_f_law_days T.d_f_law_days ["_law_deck_here", "_law_days_here", "_law_some"] (spOf K S_f_law_days) := by
  refine fn_ok T.F_f_law_days sc_f_law_days rfl (fun cdv A outer s H E hr hgd => ?_) vc_f_law_days
  have nd := sc_f_law_days.nd
  exact wb_one (ws_ret (we_callX z_tuple (fun h => pe_callTy call_tupleX (by rfl) T.n_tuple bb_tuple h) (wa_cons (we_lc (m := false) (t := (.nm 3)) (own := [("_law_day", 3)]) rfl nd (wi_range1 (by rfl) T.n_range (wa_cons (we_var (i := 1) rfl (.inl rfl)) (wa_nil))) (blkOk_by (own := [("_law_day", 3)]) (N := N_f_law_days) (by kernel_rfl)) (by simp [Tg.ix]) (fun _ _ _ _ _ => pg_name (i := 3) nd rfl (.inl rfl)) (fun _ _ _ _ _ => wts_one (wt_cmp (op_eqC hr.units) z_eqB (we_op op_mod z_mod (we_call (ok_f_law_next T) (hr.mono (by decide)) hgd (by rfl) T.m_f_law_next T.F_f_law_next.kp T.b_f_law_next (wa_cons (we_var (i := 0) rfl (.inr (.inl rfl))) (wa_nil))) (we_var (i := 2) rfl (.inr (.inl rfl)))) (we_int) ((nomark _)))) (fun _ _ _ _ _ => we_var (i := 3) rfl (.inl rfl))) (wa_nil))))
theorem ok_f_law_work (T : Txt K mg) : FnG P w K mg base CX0 3 T.a_f_law_work T.d_f_law_work ["_law_deck_here", "_law_number", "_law_hands", "_law_length"] (spOf K S_f_law_work) := by
  refine fn_ok T.F_f_law_work sc_f_law_work rfl (fun cdv A outer s H E hr hgd => ?_) vc_f_law_work
  have nd := sc_f_law_work.nd
  exact wb_cons (ws_set (i := 4) nd rfl (.inl rfl) (we_op op_addD z_add (we_int) (we_op op_mod z_mod (we_call (ok_f_law_next T) (hr.mono (by decide)) hgd (by rfl) T.m_f_law_next T.F_f_law_next.kp T.b_f_law_next (wa_cons (we_var (i := 0) rfl (.inr (.inl rfl))) (wa_nil))) (we_var (i := 3) rfl (.inl rfl))))) (wb_cons (ws_set (i := 5) nd rfl (.inl rfl) (we_call (ok_f_law_rows_of T) (hr.mono (by decide)) hgd (by rfl) T.m_f_law_rows_of T.F_f_law_rows_of.kp T.b_f_law_rows_of (wa_cons (we_var (i := 0) rfl (.inr (.inl rfl))) (wa_cons (we_op op_sub z_sub (we_var (i := 1) rfl (.inl rfl)) (we_int)) (wa_cons (we_ix (we_lst (m := false) (wa_cons (we_int) (wa_cons (we_int) (wa_cons (we_int) (wa_nil))))) (we_op op_mod z_mod (we_call (ok_f_law_next T) (hr.mono (by decide)) hgd (by rfl) T.m_f_law_next T.F_f_law_next.kp T.b_f_law_next (wa_cons (we_var (i := 0) rfl (.inr (.inl rfl))) (wa_nil))) (we_int))) (wa_nil)))))) (wb_cons (ws_set (i := 6) nd rfl (.inr rfl) (we_op op_mod z_mod (we_call (ok_f_law_next T) (hr.mono (by decide)) hgd (by rfl) T.m_f_law_next T.F_f_law_next.kp T.b_f_law_next (wa_cons (we_var (i := 0) rfl (.inr (.inl rfl))) (wa_nil))) (we_int))) (wb_cons (ws_set (i := 7) nd rfl (.inl rfl) (we_callX z_tuple (fun h => pe_callTy call_tupleX (by rfl) T.n_tuple bb_tuple h) (wa_cons (we_lc (m := false) (t := (.nm 8)) (own := [("_law_hand", 8)]) rfl nd (wi_range1 (by rfl) T.n_range (wa_cons (we_var (i := 2) rfl (.inl rfl)) (wa_nil))) (blkOk_by (own := [("_law_hand", 8)]) (N := N_f_law_work) (by kernel_rfl)) (by simp [Tg.ix]) (fun _ _ _ _ _ => pg_name (i := 8) nd rfl (.inl rfl)) (fun _ _ _ _ _ => wts_one ((ww_or (wt_cmp (op_eqC hr.units) z_eqB (we_var (i := 6) rfl (.inr (.inl rfl))) (we_int) ((nomark _))) (ww_or1 (wt_cmp (op_eqC hr.units) z_eqB (we_op op_mod z_mod (we_call (ok_f_law_next T) (hr.mono (by decide)) hgd (by rfl) T.m_f_law_next T.F_f_law_next.kp T.b_f_law_next (wa_cons (we_var (i := 0) rfl (.inr (.inl rfl))) (wa_nil))) (we_int)) (we_int) ((nomark _))))).wt)) (fun _ _ _ _ _ => we_var (i := 8) rfl (.inl rfl))) (wa_nil)))) (wb_cons (ws_if (wt_cmp (op_eqC hr.units) z_eqB (we_var (i := 7) rfl (.inl rfl)) (we_tup (wa_nil)) ((nomark _))) (wb_one (ws_set (i := 7) nd rfl (.inl rfl) (we_tup (wa_cons (we_op op_mod z_mod (we_call (ok_f_law_next T) (hr.mono (by decide)) hgd (by rfl) T.m_f_law_next T.F_f_law_next.kp T.b_f_law_next (wa_cons (we_var (i := 0) rfl (.inr (.inl rfl))) (wa_nil))) (we_var (i := 2) rfl (.inl rfl))) (wa_nil))))) (wb_nil)) (wb_one (ws_ret (we_tup (wa_cons (we_var (i := 4) rfl (.inl rfl)) (wa_cons (we_var (i := 5) rfl (.inl rfl)) (wa_cons (we_var (i := 7) rfl (.inl rfl)) (wa_nil)))))))))))
theorem ok_f_law_little (T : Txt K mg) : FnG P w K mg base CX0 3 T.a_f_law_little T.d_f_law_little ["_law_deck_here"] (spOf K S_f_law_little) := by
  refine fn_okP T.F_f_law_little sc_f_law_little rfl (fun cdv A outer s H E hr hgd => ?_) vc_f_law_little
  have nd := sc_f_law_little.nd
  exact wb_cons (ws_set (i := 1) nd rfl (.inr rfl) (we_op op_addD z_add (we_int) (we_op op_mod z_mod (we_call (ok_f_law_next T) (hr.mono (by decide)) hgd (by rfl) T.m_f_law_next T.F_f_law_next.kp T.b_f_law_next (wa_cons (we_var (i := 0) rfl (.inr (.inl rfl))) (wa_nil))) (we_int)))) (wb_cons (ws_set (i := 2) nd rfl (.inr rfl) (we_ix (we_lst (m := false) (wa_cons (we_int) (wa_cons (we_int) (wa_cons (we_int) (wa_nil))))) (we_op op_mod z_mod (we_call (ok_f_law_next T) (hr.mono (by decide)) hgd (by rfl) T.m_f_law_next T.F_f_law_next.kp T.b_f_law_next (wa_cons (we_var (i := 0) rfl (.inr (.inl rfl))) (wa_nil))) (we_int)))) (wb_cons (ws_set (i := 3) nd rfl (.inl rfl) (we_callX z_tuple (fun h => pe_callTy call_tupleX (by rfl) T.n_tuple bb_tuple h) (wa_cons (we_lc (m := false) (t := (.nm 11)) (own := [("_law_hand", 11)]) rfl nd (wi_range1 (by rfl) T.n_range (wa_cons (we_op op_addD z_add (we_int) (we_op op_mod z_mod (we_call (ok_f_law_next T) (hr.mono (by decide)) hgd (by rfl) T.m_f_law_next T.F_f_law_next.kp T.b_f_law_next (wa_cons (we_var (i := 0) rfl (.inr (.inl rfl))) (wa_nil))) (we_int))) (wa_nil))) (blkOk_by (own := [("_law_hand", 11)]) (N := N_f_law_little) (by kernel_rfl)) (by simp [Tg.ix]) (fun _ _ _ _ _ => pg_name (i := 11) nd rfl (.inl rfl)) (fun _ _ _ _ _ => wts_nil) (fun _ _ _ _ _ => we_call (ok_f_law_days T) (hr.mono (by decide)) hgd (by rfl) T.m_f_law_days T.F_f_law_days.kp T.b_f_law_days (wa_cons (we_var (i := 0) rfl (.inr (.inl rfl))) (wa_cons (we_var (i := 1) rfl (.inr (.inl rfl))) (wa_cons (we_var (i := 2) rfl (.inr (.inl rfl))) (wa_nil)))))) (wa_nil)))) (wb_cons (ws_set (i := 4) nd rfl (.inl rfl) (we_lst (m := true) (wa_nil))) (wb_cons (ws_for PassesOwn.never rfl (wi_range1 (by rfl) T.n_range (wa_cons (we_op op_mod z_mod (we_call (ok_f_law_next T) (hr.mono (by decide)) hgd (by rfl) T.m_f_law_next T.F_f_law_next.kp T.b_f_law_next (wa_cons (we_var (i := 0) rfl (.inr (.inl rfl))) (wa_nil))) (we_int)) (wa_nil))) (wg_name (i := 5) nd rfl (.inl rfl)) (wb_cons (ws_set (i := 6) nd rfl (.inl rfl) (we_callX z_tuple (fun h => pe_callTy call_tupleX (by rfl) T.n_tuple bb_tuple h) (wa_cons (we_lc (m := false) (t := (.nm 12)) (own := [("_law_one", 12)]) rfl nd (wi_range1 (by rfl) T.n_range (wa_cons (we_var (i := 5) rfl (.inl rfl)) (wa_nil))) (blkOk_by (own := [("_law_one", 12)]) (N := N_f_law_little) (by kernel_rfl)) (by simp [Tg.ix]) (fun _ _ _ _ _ => pg_name (i := 12) nd rfl (.inl rfl)) (fun _ _ _ _ _ => wts_one (wt_cmp (op_eqC hr.units) z_eqB (we_op op_mod z_mod (we_call (ok_f_law_next T) (hr.mono (by decide)) hgd (by rfl) T.m_f_law_next T.F_f_law_next.kp T.b_f_law_next (wa_cons (we_var (i := 0) rfl (.inr (.inl rfl))) (wa_nil))) (we_int)) (we_int) ((nomark _)))) (fun _ _ _ _ _ => we_var (i := 12) rfl (.inl rfl))) (wa_nil)))) (wb_cons (ws_set (i := 7) nd rfl (.inl rfl) (we_callX z_tuple (fun h => pe_callTy call_tupleX (by rfl) T.n_tuple bb_tuple h) (wa_cons (we_lc (m := false) (t := (.nm 11)) (own := [("_law_hand", 11)]) rfl nd (wi_range1 (by rfl) T.n_range (wa_cons (we_callX z_len (fun h => pe_callB (CallR.or call_len_seq call_len_str) (by rfl) T.n_len bb_len h) (wa_cons (we_var (i := 3) rfl (.inl rfl)) (wa_nil))) (wa_nil))) (blkOk_by (own := [("_law_hand", 11)]) (N := N_f_law_little) (by kernel_rfl)) (by simp [Tg.ix]) (fun _ _ _ _ _ => pg_name (i := 11) nd rfl (.inl rfl)) (fun _ _ _ _ _ => wts_one (wt_cmp (op_gtD hr.units0) z_gt (we_op op_mod z_mod (we_call (ok_f_law_next T) (hr.mono (by decide)) hgd (by rfl) T.m_f_law_next T.F_f_law_next.kp T.b_f_law_next (wa_cons (we_var (i := 0) rfl (.inr (.inl rfl))) (wa_nil))) (we_int)) (we_int) ((nomark _)))) (fun _ _ _ _ _ => we_var (i := 11) rfl (.inl rfl))) (wa_nil)))) (wb_one (ws_expr (we_m PySem.F.slot_list_append PySem.F.type_list_append mt_append z_append (we_var (i := 4) rfl (.inl rfl)) (wa_cons (we_tup (wa_cons (we_op op_addD z_add (we_int) (we_op op_mod z_mod (we_call (ok_f_law_next T) (hr.mono (by decide)) hgd (by rfl) T.m_f_law_next T.F_f_law_next.kp T.b_f_law_next (wa_cons (we_var (i := 0) rfl (.inr (.inl rfl))) (wa_nil))) (we_int))) (wa_cons (we_var (i := 6) rfl (.inl rfl)) (wa_cons (we_op op_addD z_add (we_var (i := 7) rfl (.inl rfl)) (we_op op_mulD z_mul (we_tup (wa_cons (we_int) (wa_nil))) (we_callX z_int (fun h => pe_callTy call_int1 (by rfl) T.n_int bb_int h) (wa_cons (we_cmp (op_eqC hr.units) z_eqB (we_var (i := 7) rfl (.inl rfl)) (we_tup (wa_nil)) ((nomark _))) (wa_nil))))) (wa_nil))))) (wa_nil)) (fun h1 h2 => pe_bm PySem.F.plainAttrs_list PySem.F.slot_list_append PySem.F.type_list_append mt_append h1 h2))))))) (wb_cons (ws_set (i := 8) nd rfl (.inl rfl) (we_lst (m := true) (wa_nil))) (wb_cons (ws_for PassesOwn.never rfl (wi_range1 (by rfl) T.n_range (wa_cons (we_op op_mulD z_mul (we_op op_mod z_mod (we_call (ok_f_law_next T) (hr.mono (by decide)) hgd (by rfl) T.m_f_law_next T.F_f_law_next.kp T.b_f_law_next (wa_cons (we_var (i := 0) rfl (.inr (.inl rfl))) (wa_nil))) (we_int)) (we_callX z_int (fun h => pe_callTy call_int1 (by rfl) T.n_int bb_int h) (wa_cons (we_cmp (op_neC hr.units) z_eqB (we_var (i := 4) rfl (.inl rfl)) (we_lst (m := false) (wa_nil)) ((nomark _))) (wa_nil)))) (wa_nil))) (wg_name (i := 9) nd rfl (.inl rfl)) (wb_cons (ws_set (i := 5) nd rfl (.inl rfl) (we_op op_mod z_mod (we_call (ok_f_law_next T) (hr.mono (by decide)) hgd (by rfl) T.m_f_law_next T.F_f_law_next.kp T.b_f_law_next (wa_cons (we_var (i := 0) rfl (.inr (.inl rfl))) (wa_nil))) (we_callX z_len (fun h => pe_callB (CallR.or call_len_seq call_len_str) (by rfl) T.n_len bb_len h) (wa_cons (we_var (i := 4) rfl (.inl rfl)) (wa_nil))))) (wb_cons (ws_set (i := 10) nd rfl (.inl rfl) (we_op op_mod z_mod (we_call (ok_f_law_next T) (hr.mono (by decide)) hgd (by rfl) T.m_f_law_next T.F_f_law_next.kp T.b_f_law_next (wa_cons (we_var (i := 0) rfl (.inr (.inl rfl))) (wa_nil))) (we_op op_addD z_add (we_var (i := 1) rfl (.inr (.inl rfl))) (we_int)))) (wb_one (ws_expr (we_m PySem.F.slot_list_append PySem.F.type_list_append mt_append z_append (we_var (i := 8) rfl (.inl rfl)) (wa_cons (we_tup (wa_cons (we_var (i := 5) rfl (.inl rfl)) (wa_cons (we_op op_mod z_mod (we_call (ok_f_law_next T) (hr.mono (by decide)) hgd (by rfl) T.m_f_law_next T.F_f_law_next.kp T.b_f_law_next (wa_cons (we_var (i := 0) rfl (.inr (.inl rfl))) (wa_nil))) (we_int)) (wa_cons (we_var (i := 10) rfl (.inl rfl)) (wa_cons (we_op op_addD z_add (we_int) (we_op op_mod z_mod (we_call (ok_f_law_next T) (hr.mono (by decide)) hgd (by rfl) T.m_f_law_next T.F_f_law_next.kp T.b_f_law_next (wa_cons (we_var (i := 0) rfl (.inr (.inl rfl))) (wa_nil))) (we_ix (we_lst (m := false) (wa_cons (we_int) (wa_cons (we_int) (wa_nil)))) (we_op op_mod z_mod (we_var (i := 9) rfl (.inl rfl)) (we_int))))) (wa_cons (we_op op_mod z_mod (we_call (ok_f_law_next T) (hr.mono (by decide)) hgd (by rfl) T.m_f_law_next T.F_f_law_next.kp T.b_f_law_next (wa_cons (we_var (i := 0) rfl (.inr (.inl rfl))) (wa_nil))) (we_int)) (wa_nil))))))) (wa_nil)) (fun h1 h2 => pe_bm PySem.F.plainAttrs_list PySem.F.slot_list_append PySem.F.type_list_append mt_append h1 h2))))))) (wb_one (ws_ret (we_tup (wa_cons (we_var (i := 1) rfl (.inr (.inl rfl))) (wa_cons (we_var (i := 3) rfl (.inl rfl)) (wa_cons (we_callX z_tuple (fun h => pe_callTy call_tupleX (by rfl) T.n_tuple bb_tuple h) (wa_cons (we_var (i := 4) rfl (.inl rfl)) (wa_nil))) (wa_cons (we_callX z_tuple (fun h => pe_callTy call_tupleX (by rfl) T.n_tuple bb_tuple h) (wa_cons (we_var (i := 8) rfl (.inl rfl)) (wa_nil))) (wa_nil))))))))))))))
theorem ok_f_law_greatest (T : Txt K mg) : FnG P w K mg base CX0 3 T.a_f_law_greatest T.d_f_law_greatest ["_law_deck_here"] (spOf K S_f_law_greatest) := by
  refine fn_okP T.F_f_law_greatest sc_f_law_greatest rfl (fun cdv A outer s H E hr hgd => ?_) vc_f_law_greatest
  have nd := sc_f_law_greatest.nd
  exact wb_cons (ws_set (i := 1) nd rfl (.inl rfl) (we_callX z_tuple (fun h => pe_callTy call_tupleX (by rfl) T.n_tuple bb_tuple h) (wa_cons (we_lc (m := false) (t := (.nm 6)) (own := [("_law_hand", 6)]) rfl nd (wi_range1 (by rfl) T.n_range (wa_cons (we_int) (wa_nil))) (blkOk_by (own := [("_law_hand", 6)]) (N := N_f_law_greatest) (by kernel_rfl)) (by simp [Tg.ix]) (fun _ _ _ _ _ => pg_name (i := 6) nd rfl (.inl rfl)) (fun _ _ _ _ _ => wts_nil) (fun _ _ _ _ _ => we_call (ok_f_law_days T) (hr.mono (by decide)) hgd (by rfl) T.m_f_law_days T.F_f_law_days.kp T.b_f_law_days (wa_cons (we_var (i := 0) rfl (.inr (.inl rfl))) (wa_cons (we_int) (wa_cons (we_ix (we_lst (m := false) (wa_cons (we_int) (wa_cons (we_int) (wa_cons (we_int) (wa_nil))))) (we_op op_mod z_mod (we_call (ok_f_law_next T) (hr.mono (by decide)) hgd (by rfl) T.m_f_law_next T.F_f_law_next.kp T.b_f_law_next (wa_cons (we_var (i := 0) rfl (.inr (.inl rfl))) (wa_nil))) (we_int))) (wa_nil)))))) (wa_nil)))) (wb_cons (ws_set (i := 2) nd rfl (.inl rfl) (we_callX z_tuple (fun h => pe_callTy call_tupleX (by rfl) T.n_tuple bb_tuple h) (wa_cons (we_lc (m := false) (t := (.nm 7)) (own := [("_law_work_here", 7)]) rfl nd (wi_range1 (by rfl) T.n_range (wa_cons (we_int) (wa_nil))) (blkOk_by (own := [("_law_work_here", 7)]) (N := N_f_law_greatest) (by kernel_rfl)) (by simp [Tg.ix]) (fun _ _ _ _ _ => pg_name (i := 7) nd rfl (.inl rfl)) (fun _ _ _ _ _ => wts_nil) (fun _ _ _ _ _ => we_tup (wa_cons (we_op op_addD z_add (we_int) (we_op op_mod z_mod (we_call (ok_f_law_next T) (hr.mono (by decide)) hgd (by rfl) T.m_f_law_next T.F_f_law_next.kp T.b_f_law_next (wa_cons (we_var (i := 0) rfl (.inr (.inl rfl))) (wa_nil))) (we_int))) (wa_cons (we_rgT1 rfl (by rfl) T.n_tuple (by rfl) T.n_range (we_var (i := 7) rfl (.inl rfl))) (wa_cons (we_tup (wa_cons (we_int) (wa_cons (we_int) (wa_cons (we_int) (wa_cons (we_int) (wa_cons (we_int) (wa_nil))))))) (wa_nil)))))) (wa_nil)))) (wb_cons (ws_set (i := 3) nd rfl (.inl rfl) (we_lst (m := true) (wa_nil))) (wb_cons (ws_for PassesOwn.never rfl (wi_range1 (by rfl) T.n_range (wa_cons (we_int) (wa_nil))) (wg_name (i := 4) nd rfl (.inl rfl)) (wb_cons (ws_set (i := 5) nd rfl (.inl rfl) (we_ix (we_lst (m := false) (wa_cons (we_int) (wa_cons (we_int) (wa_cons (we_op op_mod z_mod (we_call (ok_f_law_next T) (hr.mono (by decide)) hgd (by rfl) T.m_f_law_next T.F_f_law_next.kp T.b_f_law_next (wa_cons (we_var (i := 0) rfl (.inr (.inl rfl))) (wa_nil))) (we_int)) (wa_nil))))) (we_op op_mod z_mod (we_var (i := 4) rfl (.inl rfl)) (we_int)))) (wb_one (ws_expr (we_m PySem.F.slot_list_append PySem.F.type_list_append mt_append z_append (we_var (i := 3) rfl (.inl rfl)) (wa_cons (we_tup (wa_cons (we_op op_sub z_sub (we_int) (we_op op_mod z_mod (we_var (i := 4) rfl (.inl rfl)) (we_int))) (wa_cons (we_op op_mod z_mod (we_call (ok_f_law_next T) (hr.mono (by decide)) hgd (by rfl) T.m_f_law_next T.F_f_law_next.kp T.b_f_law_next (wa_cons (we_var (i := 0) rfl (.inr (.inl rfl))) (wa_nil))) (we_int)) (wa_cons (we_var (i := 5) rfl (.inl rfl)) (wa_cons (we_ix (we_lst (m := false) (wa_cons (we_int) (wa_cons (we_int) (wa_cons (we_int) (wa_nil))))) (we_op op_mod z_mod (we_var (i := 4) rfl (.inl rfl)) (we_int))) (wa_cons (we_op op_mod z_mod (we_call (ok_f_law_next T) (hr.mono (by decide)) hgd (by rfl) T.m_f_law_next T.F_f_law_next.kp T.b_f_law_next (wa_cons (we_var (i := 0) rfl (.inr (.inl rfl))) (wa_nil))) (we_int)) (wa_nil))))))) (wa_nil)) (fun h1 h2 => pe_bm PySem.F.plainAttrs_list PySem.F.slot_list_append PySem.F.type_list_append mt_append h1 h2)))))) (wb_one (ws_ret (we_tup (wa_cons (we_int) (wa_cons (we_var (i := 1) rfl (.inl rfl)) (wa_cons (we_var (i := 2) rfl (.inl rfl)) (wa_cons (we_callX z_tuple (fun h => pe_callTy call_tupleX (by rfl) T.n_tuple bb_tuple h) (wa_cons (we_var (i := 3) rfl (.inl rfl)) (wa_nil))) (wa_nil)))))))))))
theorem ok_f_law_system (T : Txt K mg) : FnG P w K mg base CX0 4 T.a_f_law_system T.d_f_law_system ["_law_deck_here", "_law_days_here", "_law_hands", "_law_works", "_law_length", "_law_wishes"] (spOf K S_f_law_system) := by
  refine fn_ok T.F_f_law_system sc_f_law_system rfl (fun cdv A outer s H E hr hgd => ?_) vc_f_law_system
  have nd := sc_f_law_system.nd
  exact wb_cons (ws_set (i := 6) nd rfl (.inr rfl) (we_op op_addD z_add (we_int) (we_op op_mod z_mod (we_call (ok_f_law_next T) (hr.mono (by decide)) hgd (by rfl) T.m_f_law_next T.F_f_law_next.kp T.b_f_law_next (wa_cons (we_var (i := 0) rfl (.inr (.inl rfl))) (wa_nil))) (we_var (i := 1) rfl (.inl rfl))))) (wb_cons (ws_set (i := 7) nd rfl (.inr rfl) (we_ix (we_lst (m := false) (wa_cons (we_int) (wa_cons (we_int) (wa_cons (we_int) (wa_nil))))) (we_op op_mod z_mod (we_call (ok_f_law_next T) (hr.mono (by decide)) hgd (by rfl) T.m_f_law_next T.F_f_law_next.kp T.b_f_law_next (wa_cons (we_var (i := 0) rfl (.inr (.inl rfl))) (wa_nil))) (we_int)))) (wb_cons (ws_set (i := 8) nd rfl (.inr rfl) (we_callX z_tuple (fun h => pe_callTy call_tupleX (by rfl) T.n_tuple bb_tuple h) (wa_cons (we_lc (m := false) (t := (.nm 13)) (own := [("_law_hand", 13)]) rfl nd (wi_range1 (by rfl) T.n_range (wa_cons (we_op op_addD z_add (we_int) (we_op op_mod z_mod (we_call (ok_f_law_next T) (hr.mono (by decide)) hgd (by rfl) T.m_f_law_next T.F_f_law_next.kp T.b_f_law_next (wa_cons (we_var (i := 0) rfl (.inr (.inl rfl))) (wa_nil))) (we_var (i := 2) rfl (.inl rfl)))) (wa_nil))) (blkOk_by (own := [("_law_hand", 13)]) (N := N_f_law_system) (by kernel_rfl)) (by simp [Tg.ix]) (fun _ _ _ _ _ => pg_name (i := 13) nd rfl (.inl rfl)) (fun _ _ _ _ _ => wts_nil) (fun _ _ _ _ _ => we_call (ok_f_law_rows_of T) (hr.mono (by decide)) hgd (by rfl) T.m_f_law_rows_of T.F_f_law_rows_of.kp T.b_f_law_rows_of (wa_cons (we_var (i := 0) rfl (.inr (.inl rfl))) (wa_cons (we_op op_sub z_sub (we_var (i := 6) rfl (.inr (.inl rfl))) (we_int)) (wa_cons (we_var (i := 7) rfl (.inr (.inl rfl))) (wa_nil)))))) (wa_nil)))) (wb_cons (ws_set (i := 9) nd rfl (.inr rfl) (we_op op_mod z_mod (we_call (ok_f_law_next T) (hr.mono (by decide)) hgd (by rfl) T.m_f_law_next T.F_f_law_next.kp T.b_f_law_next (wa_cons (we_var (i := 0) rfl (.inr (.inl rfl))) (wa_nil))) (we_op op_addD z_add (we_var (i := 3) rfl (.inl rfl)) (we_int)))) (wb_cons (ws_set (i := 10) nd rfl (.inr rfl) (we_ix (we_lst (m := false) (wa_cons (we_callX z_min2 (fun h => pe_callB (call_min2 rfl) (by rfl) T.n_min bb_min h) (wa_cons (we_var (i := 4) rfl (.inl rfl)) (wa_cons (we_var (i := 6) rfl (.inr (.inl rfl))) (wa_nil)))) (wa_cons (we_var (i := 4) rfl (.inl rfl)) (wa_nil)))) (we_callX z_int (fun h => pe_callTy call_int1 (by rfl) T.n_int bb_int h) (wa_cons (we_cmp (op_eqC hr.units) z_eqB (we_op op_mod z_mod (we_call (ok_f_law_next T) (hr.mono (by decide)) hgd (by rfl) T.m_f_law_next T.F_f_law_next.kp T.b_f_law_next (wa_cons (we_var (i := 0) rfl (.inr (.inl rfl))) (wa_nil))) (we_int)) (we_int) ((nomark _))) (wa_nil))))) (wb_cons (ws_set (i := 11) nd rfl (.inl rfl) (we_callX z_tuple (fun h => pe_callTy call_tupleX (by rfl) T.n_tuple bb_tuple h) (wa_cons (we_lc (m := false) (t := (.nm 14)) (own := [("_law_work_here", 14)]) rfl nd (wi_range1 (by rfl) T.n_range (wa_cons (we_var (i := 9) rfl (.inr (.inl rfl))) (wa_nil))) (blkOk_by (own := [("_law_work_here", 14)]) (N := N_f_law_system) (by kernel_rfl)) (by simp [Tg.ix]) (fun _ _ _ _ _ => pg_name (i := 14) nd rfl (.inl rfl)) (fun _ _ _ _ _ => wts_nil) (fun _ _ _ _ _ => we_call (ok_f_law_work T) (hr.mono (by decide)) hgd (by rfl) T.m_f_law_work T.F_f_law_work.kp T.b_f_law_work (wa_cons (we_var (i := 0) rfl (.inr (.inl rfl))) (wa_cons (we_var (i := 14) rfl (.inl rfl)) (wa_cons (we_callX z_len (fun h => pe_callB (CallR.or call_len_seq call_len_str) (by rfl) T.n_len bb_len h) (wa_cons (we_var (i := 8) rfl (.inr (.inl rfl))) (wa_nil))) (wa_cons (we_var (i := 10) rfl (.inr (.inl rfl))) (wa_nil))))))) (wa_nil)))) (wb_cons (ws_set (i := 12) nd rfl (.inl rfl) (we_op op_mulD z_mul (we_op op_mod z_mod (we_call (ok_f_law_next T) (hr.mono (by decide)) hgd (by rfl) T.m_f_law_next T.F_f_law_next.kp T.b_f_law_next (wa_cons (we_var (i := 0) rfl (.inr (.inl rfl))) (wa_nil))) (we_op op_addD z_add (we_var (i := 5) rfl (.inl rfl)) (we_int))) (we_callX z_int (fun h => pe_callTy call_int1 (by rfl) T.n_int bb_int h) (wa_cons (we_cmp (op_gtD hr.units0) z_gt (we_var (i := 9) rfl (.inr (.inl rfl))) (we_int) ((nomark _))) (wa_nil))))) (wb_one (ws_ret (we_tup (wa_cons (we_var (i := 6) rfl (.inr (.inl rfl))) (wa_cons (we_var (i := 8) rfl (.inr (.inl rfl))) (wa_cons (we_var (i := 11) rfl (.inl rfl)) (wa_cons (we_callX z_tuple (fun h => pe_callTy call_tupleX (by rfl) T.n_tuple bb_tuple h) (wa_cons (we_lc (m := false) (t := (.nm 15)) (own := [("_law_k", 15)]) rfl nd (wi_range1 (by rfl) T.n_range (wa_cons (we_var (i := 12) rfl (.inl rfl)) (wa_nil))) (blkOk_by (own := [("_law_k", 15)]) (N := N_f_law_system) (by kernel_rfl)) (by simp [Tg.ix]) (fun _ _ _ _ _ => pg_name (i := 15) nd rfl (.inl rfl)) (fun _ _ _ _ _ => wts_nil) (fun _ _ _ _ _ => we_call (ok_f_law_wish T) (hr.mono (by decide)) hgd (by rfl) T.m_f_law_wish T.F_f_law_wish.kp T.b_f_law_wish (wa_cons (we_var (i := 0) rfl (.inr (.inl rfl))) (wa_cons (we_var (i := 9) rfl (.inr (.inl rfl))) (wa_cons (we_var (i := 6) rfl (.inr (.inl rfl))) (wa_nil)))))) (wa_nil))) (wa_nil))))))))))))))
theorem ok_p_law (T : Txt K mg) : FnG P w K mg base CX0 5 T.a_p_law T.d_p_law ["_law_script"] (spOf K S_p_law) := by
  refine fn_ok T.F_p_law sc_p_law rfl (fun cdv A outer s H E hr hgd => ?_) vc_p_law
  have nd := sc_p_law.nd
  exact wb_cons (ws_set (i := 1) nd rfl (.inl rfl) (we_call (ok_f_law_deck T) (hr.mono (by decide)) hgd (by rfl) T.m_f_law_deck T.F_f_law_deck.kp T.b_f_law_deck (wa_cons (we_var (i := 0) rfl (.inl rfl)) (wa_nil)))) (wb_cons (ws_set (i := 2) nd rfl (.inl rfl) (we_lst (m := false) (wa_cons (we_call (ok_f_law_system T) (hr.mono (by decide)) hgd (by rfl) T.m_f_law_system T.F_f_law_system.kp T.b_f_law_system (wa_cons (we_var (i := 1) rfl (.inl rfl)) (wa_cons (we_int) (wa_cons (we_int) (wa_cons (we_int) (wa_cons (we_int) (wa_cons (we_int) (wa_nil)))))))) (wa_cons (we_call (ok_f_law_system T) (hr.mono (by decide)) hgd (by rfl) T.m_f_law_system T.F_f_law_system.kp T.b_f_law_system (wa_cons (we_var (i := 1) rfl (.inl rfl)) (wa_cons (we_int) (wa_cons (we_int) (wa_cons (we_int) (wa_cons (we_int) (wa_cons (we_int) (wa_nil)))))))) (wa_cons (we_call (ok_f_law_little T) (hr.mono (by decide)) hgd (by rfl) T.m_f_law_little T.F_f_law_little.kp T.b_f_law_little (wa_cons (we_var (i := 1) rfl (.inl rfl)) (wa_nil))) (wa_nil)))))) (wb_cons (ws_set (i := 2) nd rfl (.inl rfl) (we_op op_addD z_add (we_var (i := 2) rfl (.inl rfl)) (we_lst (m := false) (wa_cons (we_call (ok_f_law_greatest T) (hr.mono (by decide)) hgd (by rfl) T.m_f_law_greatest T.F_f_law_greatest.kp T.b_f_law_greatest (wa_cons (we_var (i := 1) rfl (.inl rfl)) (wa_nil))) (wa_cons (we_tup (wa_cons (we_int) (wa_cons (we_tup (wa_cons (we_tup (wa_nil)) (wa_nil))) (wa_cons (we_tup (wa_nil)) (wa_cons (we_tup (wa_nil)) (wa_nil)))))) (wa_cons (we_tup (wa_cons (we_op op_addD z_add (we_int) (we_op op_mod z_mod (we_call (ok_f_law_next T) (hr.mono (by decide)) hgd (by rfl) T.m_f_law_next T.F_f_law_next.kp T.b_f_law_next (wa_cons (we_var (i := 1) rfl (.inl rfl)) (wa_nil))) (we_int))) (wa_cons (we_tup (wa_cons (we_tup (wa_nil)) (wa_cons (we_tup (wa_cons (we_int) (wa_nil))) (wa_nil)))) (wa_cons (we_tup (wa_nil)) (wa_cons (we_tup (wa_nil)) (wa_nil)))))) (wa_nil))))))) (wb_cons (ws_for PassesOwn.never rfl (wi_seq (we_var (i := 2) rfl (.inl rfl))) (wg_name (i := 3) nd rfl (.inl rfl)) (wb_cons (ws_set (i := 4) nd rfl (.inl rfl) (we_callX z_repr (fun h => pe_callB (call_reprD hgd hr.units) (by rfl) T.n_repr bb_repr h) (wa_cons (we_var (i := 3) rfl (.inl rfl)) (wa_nil)))) (wb_cons (ws_if ((ww_or (wt_not (wt_val (we_call (ok_f_law_same T) (hr.mono (by decide)) hgd (by rfl) T.m_f_law_same T.F_f_law_same.kp T.b_f_law_same (wa_cons (we_call (ok_p_told T) (hr.mono (by decide)) hgd (by rfl) T.m_p_told T.F_p_told.kp T.b_p_told (wa_cons (we_var (i := 3) rfl (.inl rfl)) (wa_nil))) (wa_cons (we_call (ok_f_law_text T) (hr.mono (by decide)) hgd (by rfl) T.m_f_law_text T.F_f_law_text.kp T.b_f_law_text (wa_cons (we_var (i := 3) rfl (.inl rfl)) (wa_nil))) (wa_nil)))))) (ww_or1 (wt_not (wt_val (we_call (ok_f_law_same T) (hr.mono (by decide)) hgd (by rfl) T.m_f_law_same T.F_f_law_same.kp T.b_f_law_same (wa_cons (we_call (ok_p_told T) (hr.mono (by decide)) hgd (by rfl) T.m_p_told T.F_p_told.kp T.b_p_told (wa_cons (we_var (i := 3) rfl (.inl rfl)) (wa_nil))) (wa_cons (we_call (ok_f_law_text T) (hr.mono (by decide)) hgd (by rfl) T.m_f_law_text T.F_f_law_text.kp T.b_f_law_text (wa_cons (we_var (i := 3) rfl (.inl rfl)) (wa_nil))) (wa_nil)))))))).wt) (wb_one (ws_ret (we_bl))) (wb_nil)) (wb_one (ws_if (wt_cmp (op_neC hr.units) z_eqB (we_callX z_repr (fun h => pe_callB (call_reprD hgd hr.units) (by rfl) T.n_repr bb_repr h) (wa_cons (we_var (i := 3) rfl (.inl rfl)) (wa_nil))) (we_var (i := 4) rfl (.inl rfl)) ((nomark _))) (wb_one (ws_ret (we_bl))) (wb_nil)))))) (wb_one (ws_ret (we_bl))))))
end
theorem all_mk {l : PySem.W.OpenLaw} {w : World} {K : PySem.W.Frag} {h : Heap} {mg : Str → Option Value} {fa : Addr} (X : K.In h) (G : h.Ns mainGlobals mg) (hfa : mg "law" = some (.ref fa))
    {f0 : Addr} {od0 an0 : Option Addr} {sl0 : Array (Option Value)} {oc0 kV0 dc0 pm0 cd0 ct0 : Value}
    {f1 : Addr} {od1 an1 : Option Addr} {sl1 : Array (Option Value)} {oc1 kV1 dc1 pm1 cd1 ct1 : Value}
    {f2 : Addr} {od2 an2 : Option Addr} {sl2 : Array (Option Value)} {oc2 kV2 dc2 pm2 cd2 ct2 : Value}
    {f3 : Addr} {od3 an3 : Option Addr} {sl3 : Array (Option Value)} {oc3 kV3 dc3 pm3 cd3 ct3 : Value}
    {f4 : Addr} {od4 an4 : Option Addr} {sl4 : Array (Option Value)} {oc4 kV4 dc4 pm4 cd4 ct4 : Value}
    {f5 : Addr} {od5 an5 : Option Addr} {sl5 : Array (Option Value)} {oc5 kV5 dc5 pm5 cd5 ct5 : Value}
    {f6 : Addr} {od6 an6 : Option Addr} {sl6 : Array (Option Value)} {oc6 kV6 dc6 pm6 cd6 ct6 : Value}
    {f7 : Addr} {od7 an7 : Option Addr} {sl7 : Array (Option Value)} {oc7 kV7 dc7 pm7 cd7 ct7 : Value}
    {f8 : Addr} {od8 an8 : Option Addr} {sl8 : Array (Option Value)} {oc8 kV8 dc8 pm8 cd8 ct8 : Value}
    {f9 : Addr} {od9 an9 : Option Addr} {sl9 : Array (Option Value)} {oc9 kV9 dc9 pm9 cd9 ct9 : Value}
    {f10 : Addr} {od10 an10 : Option Addr} {sl10 : Array (Option Value)} {oc10 kV10 dc10 pm10 cd10 ct10 : Value}
    {f11 : Addr} {od11 an11 : Option Addr} {sl11 : Array (Option Value)} {oc11 kV11 dc11 pm11 cd11 ct11 : Value}
    {f12 : Addr} {od12 an12 : Option Addr} {sl12 : Array (Option Value)} {oc12 kV12 dc12 pm12 cd12 ct12 : Value}
    {f13 : Addr} {od13 an13 : Option Addr} {sl13 : Array (Option Value)} {oc13 kV13 dc13 pm13 cd13 ct13 : Value}
    {t_SORTS_0 t_SORTS_1 : Tok} {f_SORTS : Addr} {n_SORTS : Nat} {sl_SORTS : Array (Option Value)}
    (a0 : PySem.W.nsIn K mainGlobals "line_of" = some (some (.ref f0))) (l0 : K.lookup f0 = some ⟨oc0, od0, .func (PySem.W.fnOf "line_of" "line_of" (defArgs s_p_line_of) (defBody s_p_line_of) (defScope s_p_line_of) .none kV0 dc0 pm0 an0 cd0 ct0), sl0⟩) (c0 : PySem.W.codeIn K cd0 "line_of" = true) (k0 : PySem.W.keepIn K (.ref f0) = true)
    (a1 : PySem.W.nsIn K mainGlobals "_law_deck" = some (some (.ref f1))) (l1 : K.lookup f1 = some ⟨oc1, od1, .func (PySem.W.fnOf "_law_deck" "_law_deck" (defArgs s_f_law_deck) (defBody s_f_law_deck) (defScope s_f_law_deck) .none kV1 dc1 pm1 an1 cd1 ct1), sl1⟩) (c1 : PySem.W.codeIn K cd1 "_law_deck" = true) (k1 : PySem.W.keepIn K (.ref f1) = true)
    (a2 : PySem.W.nsIn K mainGlobals "_law_next" = some (some (.ref f2))) (l2 : K.lookup f2 = some ⟨oc2, od2, .func (PySem.W.fnOf "_law_next" "_law_next" (defArgs s_f_law_next) (defBody s_f_law_next) (defScope s_f_law_next) .none kV2 dc2 pm2 an2 cd2 ct2), sl2⟩) (c2 : PySem.W.codeIn K cd2 "_law_next" = true) (k2 : PySem.W.keepIn K (.ref f2) = true)
    (a3 : PySem.W.nsIn K mainGlobals "_law_same" = some (some (.ref f3))) (l3 : K.lookup f3 = some ⟨oc3, od3, .func (PySem.W.fnOf "_law_same" "_law_same" (defArgs s_f_law_same) (defBody s_f_law_same) (defScope s_f_law_same) .none kV3 dc3 pm3 an3 cd3 ct3), sl3⟩) (c3 : PySem.W.codeIn K cd3 "_law_same" = true) (k3 : PySem.W.keepIn K (.ref f3) = true)
    (a4 : PySem.W.nsIn K mainGlobals "_law_text" = some (some (.ref f4))) (l4 : K.lookup f4 = some ⟨oc4, od4, .func (PySem.W.fnOf "_law_text" "_law_text" (defArgs s_f_law_text) (defBody s_f_law_text) (defScope s_f_law_text) .none kV4 dc4 pm4 an4 cd4 ct4), sl4⟩) (c4 : PySem.W.codeIn K cd4 "_law_text" = true) (k4 : PySem.W.keepIn K (.ref f4) = true)
    (a5 : PySem.W.nsIn K mainGlobals "told" = some (some (.ref f5))) (l5 : K.lookup f5 = some ⟨oc5, od5, .func (PySem.W.fnOf "told" "told" (defArgs s_p_told) (defBody s_p_told) (defScope s_p_told) .none kV5 dc5 pm5 an5 cd5 ct5), sl5⟩) (c5 : PySem.W.codeIn K cd5 "told" = true) (k5 : PySem.W.keepIn K (.ref f5) = true)
    (a6 : PySem.W.nsIn K mainGlobals "_law_rows_of" = some (some (.ref f6))) (l6 : K.lookup f6 = some ⟨oc6, od6, .func (PySem.W.fnOf "_law_rows_of" "_law_rows_of" (defArgs s_f_law_rows_of) (defBody s_f_law_rows_of) (defScope s_f_law_rows_of) .none kV6 dc6 pm6 an6 cd6 ct6), sl6⟩) (c6 : PySem.W.codeIn K cd6 "_law_rows_of" = true) (k6 : PySem.W.keepIn K (.ref f6) = true)
    (a7 : PySem.W.nsIn K mainGlobals "_law_wish" = some (some (.ref f7))) (l7 : K.lookup f7 = some ⟨oc7, od7, .func (PySem.W.fnOf "_law_wish" "_law_wish" (defArgs s_f_law_wish) (defBody s_f_law_wish) (defScope s_f_law_wish) .none kV7 dc7 pm7 an7 cd7 ct7), sl7⟩) (c7 : PySem.W.codeIn K cd7 "_law_wish" = true) (k7 : PySem.W.keepIn K (.ref f7) = true)
    (a8 : PySem.W.nsIn K mainGlobals "_law_days" = some (some (.ref f8))) (l8 : K.lookup f8 = some ⟨oc8, od8, .func (PySem.W.fnOf "_law_days" "_law_days" (defArgs s_f_law_days) (defBody s_f_law_days) (defScope s_f_law_days) .none kV8 dc8 pm8 an8 cd8 ct8), sl8⟩) (c8 : PySem.W.codeIn K cd8 "_law_days" = true) (k8 : PySem.W.keepIn K (.ref f8) = true)
    (a9 : PySem.W.nsIn K mainGlobals "_law_work" = some (some (.ref f9))) (l9 : K.lookup f9 = some ⟨oc9, od9, .func (PySem.W.fnOf "_law_work" "_law_work" (defArgs s_f_law_work) (defBody s_f_law_work) (defScope s_f_law_work) .none kV9 dc9 pm9 an9 cd9 ct9), sl9⟩) (c9 : PySem.W.codeIn K cd9 "_law_work" = true) (k9 : PySem.W.keepIn K (.ref f9) = true)
    (a10 : PySem.W.nsIn K mainGlobals "_law_little" = some (some (.ref f10))) (l10 : K.lookup f10 = some ⟨oc10, od10, .func (PySem.W.fnOf "_law_little" "_law_little" (defArgs s_f_law_little) (defBody s_f_law_little) (defScope s_f_law_little) .none kV10 dc10 pm10 an10 cd10 ct10), sl10⟩) (c10 : PySem.W.codeIn K cd10 "_law_little" = true) (k10 : PySem.W.keepIn K (.ref f10) = true)
    (a11 : PySem.W.nsIn K mainGlobals "_law_greatest" = some (some (.ref f11))) (l11 : K.lookup f11 = some ⟨oc11, od11, .func (PySem.W.fnOf "_law_greatest" "_law_greatest" (defArgs s_f_law_greatest) (defBody s_f_law_greatest) (defScope s_f_law_greatest) .none kV11 dc11 pm11 an11 cd11 ct11), sl11⟩) (c11 : PySem.W.codeIn K cd11 "_law_greatest" = true) (k11 : PySem.W.keepIn K (.ref f11) = true)
    (a12 : PySem.W.nsIn K mainGlobals "_law_system" = some (some (.ref f12))) (l12 : K.lookup f12 = some ⟨oc12, od12, .func (PySem.W.fnOf "_law_system" "_law_system" (defArgs s_f_law_system) (defBody s_f_law_system) (defScope s_f_law_system) .none kV12 dc12 pm12 an12 cd12 ct12), sl12⟩) (c12 : PySem.W.codeIn K cd12 "_law_system" = true) (k12 : PySem.W.keepIn K (.ref f12) = true)
    (a13 : PySem.W.nsIn K mainGlobals "law" = some (some (.ref f13))) (l13 : K.lookup f13 = some ⟨oc13, od13, .func (PySem.W.fnOf "law" "law" (defArgs s_p_law) (defBody s_p_law) (defScope s_p_law) .none kV13 dc13 pm13 an13 cd13 ct13), sl13⟩) (c13 : PySem.W.codeIn K cd13 "law" = true) (k13 : PySem.W.keepIn K (.ref f13) = true)
    (z_abs : PySem.W.nsIn K mainGlobals "abs" = some none)
    (z_int : PySem.W.nsIn K mainGlobals "int" = some none)
    (z_len : PySem.W.nsIn K mainGlobals "len" = some none)
    (z_list : PySem.W.nsIn K mainGlobals "list" = some none)
    (z_min : PySem.W.nsIn K mainGlobals "min" = some none)
    (z_range : PySem.W.nsIn K mainGlobals "range" = some none)
    (z_repr : PySem.W.nsIn K mainGlobals "repr" = some none)
    (z_str : PySem.W.nsIn K mainGlobals "str" = some none)
    (z_tuple : PySem.W.nsIn K mainGlobals "tuple" = some none)
    (x_SORTS : PySem.W.nsIn K mainGlobals "SORTS" = some (some (.ref f_SORTS))) (w_SORTS : K.lookup f_SORTS = some ⟨.type "tuple", none, .seq #[.str "from" t_SORTS_0, .str "by" t_SORTS_1] n_SORTS, sl_SORTS⟩) :
    ∃ fd : FuncData, (∀ (s : Shared) (v : Value), BindsTo s fd ⟨[v], []⟩ [("_law_script", v)]) ∧ ∀ base : Heap, K.In base → base.Ns mainGlobals mg → (∀ p ∈ tabCs K, LamX.TabB base mg p.1 p.2) → FnG l.prog w K mg base CX0 5 fa fd ["_law_script"] (spOf K S_p_law) := by
  have e := hfa.symm.trans (PySem.W.mg_of X G a13)
  have e2 : f13 = fa := (Value.ref.inj (Option.some.inj e)).symm
  subst e2
  let T : Txt K mg := { a_p_line_of := f0, d_p_line_of := _, F_p_line_of := fun_mk (st := s_p_line_of) l0 c0 k0, b_p_line_of := (fun_mk (st := s_p_line_of) l0 c0 k0).binds (fun _ _ _ _ _ _ us hl => match us, hl with | [_], _ => rfl), m_p_line_of := PySem.W.mg_of X G a0, a_f_law_deck := f1, d_f_law_deck := _, F_f_law_deck := fun_mk (st := s_f_law_deck) l1 c1 k1, b_f_law_deck := (fun_mk (st := s_f_law_deck) l1 c1 k1).binds (fun _ _ _ _ _ _ us hl => match us, hl with | [_], _ => rfl), m_f_law_deck := PySem.W.mg_of X G a1, a_f_law_next := f2, d_f_law_next := _, F_f_law_next := fun_mk (st := s_f_law_next) l2 c2 k2, b_f_law_next := (fun_mk (st := s_f_law_next) l2 c2 k2).binds (fun _ _ _ _ _ _ us hl => match us, hl with | [_], _ => rfl), m_f_law_next := PySem.W.mg_of X G a2, a_f_law_same := f3, d_f_law_same := _, F_f_law_same := fun_mk (st := s_f_law_same) l3 c3 k3, b_f_law_same := (fun_mk (st := s_f_law_same) l3 c3 k3).binds (fun _ _ _ _ _ _ us hl => match us, hl with | [_, _], _ => rfl), m_f_law_same := PySem.W.mg_of X G a3, a_f_law_text := f4, d_f_law_text := _, F_f_law_text := fun_mk (st := s_f_law_text) l4 c4 k4, b_f_law_text := (fun_mk (st := s_f_law_text) l4 c4 k4).binds (fun _ _ _ _ _ _ us hl => match us, hl with | [_], _ => rfl), m_f_law_text := PySem.W.mg_of X G a4, a_p_told := f5, d_p_told := _, F_p_told := fun_mk (st := s_p_told) l5 c5 k5, b_p_told := (fun_mk (st := s_p_told) l5 c5 k5).binds (fun _ _ _ _ _ _ us hl => match us, hl with | [_], _ => rfl), m_p_told := PySem.W.mg_of X G a5, a_f_law_rows_of := f6, d_f_law_rows_of := _, F_f_law_rows_of := fun_mk (st := s_f_law_rows_of) l6 c6 k6, b_f_law_rows_of := (fun_mk (st := s_f_law_rows_of) l6 c6 k6).binds (fun _ _ _ _ _ _ us hl => match us, hl with | [_, _, _], _ => rfl), m_f_law_rows_of := PySem.W.mg_of X G a6, a_f_law_wish := f7, d_f_law_wish := _, F_f_law_wish := fun_mk (st := s_f_law_wish) l7 c7 k7, b_f_law_wish := (fun_mk (st := s_f_law_wish) l7 c7 k7).binds (fun _ _ _ _ _ _ us hl => match us, hl with | [_, _, _], _ => rfl), m_f_law_wish := PySem.W.mg_of X G a7, a_f_law_days := f8, d_f_law_days := _, F_f_law_days := fun_mk (st := s_f_law_days) l8 c8 k8, b_f_law_days := (fun_mk (st := s_f_law_days) l8 c8 k8).binds (fun _ _ _ _ _ _ us hl => match us, hl with | [_, _, _], _ => rfl), m_f_law_days := PySem.W.mg_of X G a8, a_f_law_work := f9, d_f_law_work := _, F_f_law_work := fun_mk (st := s_f_law_work) l9 c9 k9, b_f_law_work := (fun_mk (st := s_f_law_work) l9 c9 k9).binds (fun _ _ _ _ _ _ us hl => match us, hl with | [_, _, _, _], _ => rfl), m_f_law_work := PySem.W.mg_of X G a9, a_f_law_little := f10, d_f_law_little := _, F_f_law_little := fun_mk (st := s_f_law_little) l10 c10 k10, b_f_law_little := (fun_mk (st := s_f_law_little) l10 c10 k10).binds (fun _ _ _ _ _ _ us hl => match us, hl with | [_], _ => rfl), m_f_law_little := PySem.W.mg_of X G a10, a_f_law_greatest := f11, d_f_law_greatest := _, F_f_law_greatest := fun_mk (st := s_f_law_greatest) l11 c11 k11, b_f_law_greatest := (fun_mk (st := s_f_law_greatest) l11 c11 k11).binds (fun _ _ _ _ _ _ us hl => match us, hl with | [_], _ => rfl), m_f_law_greatest := PySem.W.mg_of X G a11, a_f_law_system := f12, d_f_law_system := _, F_f_law_system := fun_mk (st := s_f_law_system) l12 c12 k12, b_f_law_system := (fun_mk (st := s_f_law_system) l12 c12 k12).binds (fun _ _ _ _ _ _ us hl => match us, hl with | [_, _, _, _, _, _], _ => rfl), m_f_law_system := PySem.W.mg_of X G a12, a_p_law := f13, d_p_law := _, F_p_law := fun_mk (st := s_p_law) l13 c13 k13, b_p_law := (fun_mk (st := s_p_law) l13 c13 k13).binds (fun _ _ _ _ _ _ us hl => match us, hl with | [_], _ => rfl), m_p_law := PySem.W.mg_of X G a13, n_abs := PySem.W.mg_none_of X G z_abs, n_int := PySem.W.mg_none_of X G z_int, n_len := PySem.W.mg_none_of X G z_len, n_list := PySem.W.mg_none_of X G z_list, n_min := PySem.W.mg_none_of X G z_min, n_range := PySem.W.mg_none_of X G z_range, n_repr := PySem.W.mg_none_of X G z_repr, n_str := PySem.W.mg_none_of X G z_str, n_tuple := PySem.W.mg_none_of X G z_tuple, g_SORTS := ⟨_, PySem.W.mg_of X G x_SORTS, gtup_den [V.str "from", V.str "by"] [D.str "from", D.str "by"] w_SORTS (.cons ⟨_, rfl⟩ (.cons ⟨_, rfl⟩ (.nil))) (fun _ _ => .cons (.str "from") (.cons (.str "by") (.nil))) (show (2 : Nat) ≤ sizeLine by decide) (by decide)⟩ }
  exact ⟨T.d_p_law, fun s v => .of_eq rfl, fun base _ _ _ => ok_p_law T⟩
end DL.M
namespace DL
namespace HeadF
open PySem PySem.Spec PyProof.Rows L2
theorem facts {w : World} {K : PySem.W.Frag} {h : Heap} {mg : Str → Option Value} {fa : Addr} (X : K.In h) (G : h.Ns mainGlobals mg) (hfa : mg "law" = some (.ref fa)) (c : SaysW dfs (fun K => exs.all fun f => f K) h K) :
    ∃ fd : FuncData, (∀ (s : Shared) (v : Value), BindsTo s fd ⟨[v], []⟩ [("_law_script", v)]) ∧ ∀ base : Heap, K.In base → base.Ns mainGlobals mg → (∀ p ∈ tabCs K, LamX.TabB base mg p.1 p.2) → FnG PySem.Challenge.rw_workwishes_k80_texts_told.prog w K mg base CX0 5 fa fd ["_law_script"] (spOf K DL.M.S_p_law) := by
  obtain ⟨_, _, _, _, _, _, _, _, _, l0, c0, k0⟩ := def_at c.d 0 (d := d_p_line_of) rfl rfl
  obtain ⟨_, _, _, _, _, _, _, _, _, l1, c1, k1⟩ := def_at c.d 1 (d := d_f_law_deck) rfl rfl
  obtain ⟨_, _, _, _, _, _, _, _, _, l2, c2, k2⟩ := def_at c.d 2 (d := d_f_law_next) rfl rfl
  obtain ⟨_, _, _, _, _, _, _, _, _, l3, c3, k3⟩ := def_at c.d 3 (d := d_f_law_same) rfl rfl
  obtain ⟨_, _, _, _, _, _, _, _, _, l4, c4, k4⟩ := def_at c.d 4 (d := d_f_law_text) rfl rfl
  obtain ⟨_, _, _, _, _, _, _, _, _, l5, c5, k5⟩ := def_at c.d 5 (d := d_p_told) rfl rfl
  obtain ⟨_, _, _, _, _, _, _, _, _, l6, c6, k6⟩ := def_at c.d 6 (d := d_f_law_rows_of) rfl rfl
  obtain ⟨_, _, _, _, _, _, _, _, _, l7, c7, k7⟩ := def_at c.d 7 (d := d_f_law_wish) rfl rfl
  obtain ⟨_, _, _, _, _, _, _, _, _, l8, c8, k8⟩ := def_at c.d 8 (d := d_f_law_days) rfl rfl
  obtain ⟨_, _, _, _, _, _, _, _, _, l9, c9, k9⟩ := def_at c.d 9 (d := d_f_law_work) rfl rfl
  obtain ⟨_, _, _, _, _, _, _, _, _, l10, c10, k10⟩ := def_at c.d 10 (d := d_f_law_little) rfl rfl
  obtain ⟨_, _, _, _, _, _, _, _, _, l11, c11, k11⟩ := def_at c.d 11 (d := d_f_law_greatest) rfl rfl
  obtain ⟨_, _, _, _, _, _, _, _, _, l12, c12, k12⟩ := def_at c.d 12 (d := d_f_law_system) rfl rfl
  obtain ⟨_, _, _, _, _, _, _, _, _, l13, c13, k13⟩ := def_at c.d 13 (d := d_p_law) rfl rfl
  obtain ⟨_, _, _, w_SORTS, v0_SORTS⟩ := tupEB_ok (exs_at c.ex 24 (f := fun K => tupEB K (He.ga K "SORTS") [V.str "from", V.str "by"]) rfl)
  obtain ⟨_, _, rfl, ⟨_, rfl⟩, v1_SORTS⟩ := vals_cons v0_SORTS
  obtain ⟨_, _, rfl, ⟨_, rfl⟩, v2_SORTS⟩ := vals_cons v1_SORTS
  cases vals_nil v2_SORTS
  exact DL.M.all_mk (l := PySem.Challenge.rw_workwishes_k80_texts_told) X G hfa (of_decide_eq_true (exs_at c.ex 0 (f := fun K => decide (PySem.W.nsIn K mainGlobals "line_of" = some (some (.ref (He.fAd K d_p_line_of.at_))))) rfl)) l0 c0 k0 (of_decide_eq_true (exs_at c.ex 1 (f := fun K => decide (PySem.W.nsIn K mainGlobals "_law_deck" = some (some (.ref (He.fAd K d_f_law_deck.at_))))) rfl)) l1 c1 k1 (of_decide_eq_true (exs_at c.ex 2 (f := fun K => decide (PySem.W.nsIn K mainGlobals "_law_next" = some (some (.ref (He.fAd K d_f_law_next.at_))))) rfl)) l2 c2 k2 (of_decide_eq_true (exs_at c.ex 3 (f := fun K => decide (PySem.W.nsIn K mainGlobals "_law_same" = some (some (.ref (He.fAd K d_f_law_same.at_))))) rfl)) l3 c3 k3 (of_decide_eq_true (exs_at c.ex 4 (f := fun K => decide (PySem.W.nsIn K mainGlobals "_law_text" = some (some (.ref (He.fAd K d_f_law_text.at_))))) rfl)) l4 c4 k4 (of_decide_eq_true (exs_at c.ex 5 (f := fun K => decide (PySem.W.nsIn K mainGlobals "told" = some (some (.ref (He.fAd K d_p_told.at_))))) rfl)) l5 c5 k5 (of_decide_eq_true (exs_at c.ex 6 (f := fun K => decide (PySem.W.nsIn K mainGlobals "_law_rows_of" = some (some (.ref (He.fAd K d_f_law_rows_of.at_))))) rfl)) l6 c6 k6 (of_decide_eq_true (exs_at c.ex 7 (f := fun K => decide (PySem.W.nsIn K mainGlobals "_law_wish" = some (some (.ref (He.fAd K d_f_law_wish.at_))))) rfl)) l7 c7 k7 (of_decide_eq_true (exs_at c.ex 8 (f := fun K => decide (PySem.W.nsIn K mainGlobals "_law_days" = some (some (.ref (He.fAd K d_f_law_days.at_))))) rfl)) l8 c8 k8 (of_decide_eq_true (exs_at c.ex 9 (f := fun K => decide (PySem.W.nsIn K mainGlobals "_law_work" = some (some (.ref (He.fAd K d_f_law_work.at_))))) rfl)) l9 c9 k9 (of_decide_eq_true (exs_at c.ex 10 (f := fun K => decide (PySem.W.nsIn K mainGlobals "_law_little" = some (some (.ref (He.fAd K d_f_law_little.at_))))) rfl)) l10 c10 k10 (of_decide_eq_true (exs_at c.ex 11 (f := fun K => decide (PySem.W.nsIn K mainGlobals "_law_greatest" = some (some (.ref (He.fAd K d_f_law_greatest.at_))))) rfl)) l11 c11 k11 (of_decide_eq_true (exs_at c.ex 12 (f := fun K => decide (PySem.W.nsIn K mainGlobals "_law_system" = some (some (.ref (He.fAd K d_f_law_system.at_))))) rfl)) l12 c12 k12 (of_decide_eq_true (exs_at c.ex 13 (f := fun K => decide (PySem.W.nsIn K mainGlobals "law" = some (some (.ref (He.fAd K d_p_law.at_))))) rfl)) l13 c13 k13 (of_decide_eq_true (exs_at c.ex 14 (f := fun K => decide (PySem.W.nsIn K mainGlobals "abs" = some none)) rfl)) (of_decide_eq_true (exs_at c.ex 15 (f := fun K => decide (PySem.W.nsIn K mainGlobals "int" = some none)) rfl)) (of_decide_eq_true (exs_at c.ex 16 (f := fun K => decide (PySem.W.nsIn K mainGlobals "len" = some none)) rfl)) (of_decide_eq_true (exs_at c.ex 17 (f := fun K => decide (PySem.W.nsIn K mainGlobals "list" = some none)) rfl)) (of_decide_eq_true (exs_at c.ex 18 (f := fun K => decide (PySem.W.nsIn K mainGlobals "min" = some none)) rfl)) (of_decide_eq_true (exs_at c.ex 19 (f := fun K => decide (PySem.W.nsIn K mainGlobals "range" = some none)) rfl)) (of_decide_eq_true (exs_at c.ex 20 (f := fun K => decide (PySem.W.nsIn K mainGlobals "repr" = some none)) rfl)) (of_decide_eq_true (exs_at c.ex 21 (f := fun K => decide (PySem.W.nsIn K mainGlobals "str" = some none)) rfl)) (of_decide_eq_true (exs_at c.ex 22 (f := fun K => decide (PySem.W.nsIn K mainGlobals "tuple" = some none)) rfl)) (of_decide_eq_true (exs_at c.ex 23 (f := fun K => decide (PySem.W.nsIn K mainGlobals "SORTS" = some (some (.ref (He.ga K "SORTS"))))) rfl)) w_SORTS
end HeadF
end DL
open PySem PySem.W PySem.Calls PyProof.Rows
set_option maxHeartbeats 0 in
theorem PySem.Challenge.cw_workwishes_k80_texts_told_holds : PySem.Challenge.rw_workwishes_k80_texts_told.Holds := by
  w_on; o_law
  refine HandSHeadRun.head_any (r := OpenLaw.row PySem.Challenge.rw_workwishes_k80_texts_told) (q := view (OpenLaw.row PySem.Challenge.rw_workwishes_k80_texts_told).prog [16]) (H := DL.HeadF.hk) (ob := DL.HeadF.ob) (M := 40000) (loose := DL.HeadF.loose) (d := HandSHeadRun.topDef (OpenLaw.row PySem.Challenge.rw_workwishes_k80_texts_told).prog 16) (kwd := []) DL.HeadF.ob_eq (by kernel_rfl) (fun s => by kernel_rfl) DL.HeadF.run (by kernel_rfl) (by kernel_rfl) (by kernel_rfl) (by rfl) (by first | assumption | decide +kernel) (by decide +kernel) ⟨rfl, rfl, rfl, rfl, rfl, by decide +kernel⟩ ?hw ?hc
  case hw => w_witness2
  case hc =>
    refine DL.walk_TE (l := PySem.Challenge.rw_workwishes_k80_texts_told) (n := 63) (k := 5) (x := "_law_script") (sp := fun K => DL.spOf K DL.M.S_p_law) rfl (by decide) (by kernel_rfl) ⟨rfl, by decide, by decide⟩ ?F (fun K H a ns hl hT hS => DL.law_end (S := DL.M.S_p_law) rfl (fun ns => ns) (fun _ => rfl) (fun ns h => ⟨h, rfl⟩) (fun _ _ _ _ h => h) H a ns hl hT hS)
    intro w mg fa h Y G hmg0
    obtain ⟨K, KX, c⟩ := Y
    have hmg : mg ("law" : PySem.Str) = some (.ref fa) := by
      have e : (HandSHeadRun.topDef (OpenLaw.row PySem.Challenge.rw_workwishes_k80_texts_told).prog 16).name = ("law" : PySem.Str) := by kernel_rfl
      rw [← e]
      exact hmg0
    exact ⟨K, KX, DL.tabs_ok KX c, DL.HeadF.facts KX G hmg c⟩
