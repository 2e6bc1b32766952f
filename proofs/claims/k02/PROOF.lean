import PyProof.Rows.All
import Wide.All
import OpenK.AllK
import Wide.FinOn
import HandS.Base
import HandS.Call
import HandS.Dict
import HandS.List
import HandS.Exc
import HandS.Words
import HandS.WordsList
import HandS.Text
import HandS.Wide
import PyProof.Rows.SeqMore
import HandS.IsInst
import HandS.More
import HandS.ExcOwn
import HandS.WordsExc
import HandS.Defaults
import HandS.Iter
import HandS.Walk
import HandS.Comp
import HandS.Small
import HandS.EndBits
import HandS.HeadEnd
import HandS.Head0
import HandS.Head1
import HandS.Head2
import HandS.HeadHook1
import HandS.HeadHook2
import KE.KStateDown
import PySem.Challenge.RW_forkmeet_k02_names_and_numbers
set_option Elab.async false
set_option linter.all false
set_option maxRecDepth 100000
set_option maxHeartbeats 0
section
namespace PV
open PySem PySem.Spec L2
open PyProof.Rows hiding St

/-! values as trees -/
inductive D where
  | non | bl (b : Bool) | int (i : Int) | str (s : Str)
  | lst (xs : List D) | tup (xs : List D) | dic (kvs : List (Key × D))
  | ins (c : Str) (fs : List (Str × D))
  | cls (c : Str) | ty (n : String) | obj (i : Nat)

/-- where the own classes stand -/
abbrev ClsAt := Str → Addr

/-- what a part F of the heap holds at a: tracked, or written at the top -/
abbrev LsAt (K : PySem.W.Frag) (F : Hp) (a : Addr) (xs : List V) : Prop := SqL K F a xs

mutual
inductive Den (K : PySem.W.Frag) (G : ClsAt) (As : List Addr) (F : Hp) : D → V → Prop
  | non : Den K G As F .non .non
  | bl {b : Bool} : Den K G As F (.bl b) (.bl b)
  | int {i : Int} : Den K G As F (.int i) (.int i)
  | str {s : Str} : Den K G As F (.str s) (.str s)
  | ty {n : String} : Den K G As F (.ty n) (.ty n)
  | cls {c : Str} : Den K G As F (.cls c) (.ref (G c))
  | obj {i : Nat} {a : Addr} : As[i]? = some a → Den K G As F (.obj i) (.ref a)
  | lst {xs : List D} {vs : List V} {a : Addr} : SqL K F a vs → DenL K G As F xs vs → Den K G As F (.lst xs) (.ref a)
  | tup {xs : List D} {vs : List V} {a : Addr} : SqT K F a vs → DenL K G As F xs vs → Den K G As F (.tup xs) (.ref a)
  | dic {ks : List (Key × D)} {ws : List (Key × V)} {a : Addr} : Rd F a (.dK ws) → DenK K G As F ks ws → Den K G As F (.dic ks) (.ref a)
  | ins {c : Str} {fs : List (Str × D)} {ws : List (Str × V)} {a dx : Addr} : F a = some (.ins (G c) dx ws) → DenF K G As F fs ws → Den K G As F (.ins c fs) (.ref a)
inductive DenL (K : PySem.W.Frag) (G : ClsAt) (As : List Addr) (F : Hp) : List D → List V → Prop
  | nil : DenL K G As F [] []
  | cons {d : D} {v : V} {ds : List D} {vs : List V} : Den K G As F d v → DenL K G As F ds vs → DenL K G As F (d :: ds) (v :: vs)
inductive DenK (K : PySem.W.Frag) (G : ClsAt) (As : List Addr) (F : Hp) : List (Key × D) → List (Key × V) → Prop
  | nil : DenK K G As F [] []
  | cons {k : Key} {d : D} {v : V} {ds : List (Key × D)} {vs : List (Key × V)} : Den K G As F d v → DenK K G As F ds vs → DenK K G As F ((k, d) :: ds) ((k, v) :: vs)
inductive DenF (K : PySem.W.Frag) (G : ClsAt) (As : List Addr) (F : Hp) : List (Str × D) → List (Str × V) → Prop
  | nil : DenF K G As F [] []
  | cons {k : Str} {d : D} {v : V} {ds : List (Str × D)} {vs : List (Str × V)} : Den K G As F d v → DenF K G As F ds vs → DenF K G As F ((k, d) :: ds) ((k, v) :: vs)
end

/-- F is a part of H (a dict may be locked there) -/
def LeF (F H : Hp) : Prop := ∀ a o, F a = some o → H a = some o ∨ ((∃ ws, o = .dK ws) ∧ ∃ ob, H a = some (.frz ob o))
/-- F grew to F' -/
abbrev Sub (F F' : Hp) : Prop := ∀ a o, F a = some o → F' a = some o

theorem Sub.refl (F : Hp) : Sub F F := fun _ _ h => h
theorem Sub.trans {F F' F'' : Hp} (a : Sub F F') (b : Sub F' F'') : Sub F F'' := fun c o h => b c o (a c o h)
theorem Rd.sub {F F' : Hp} {a : Addr} {u : HO} (s : Sub F F') (r : Rd F a u) : Rd F' a u := by
  rcases r with r | ⟨o, r⟩
  · exact .inl (s _ _ r)
  · exact .inr ⟨o, s _ _ r⟩
theorem SqL.sub {K : PySem.W.Frag} {F F' : Hp} {a : Addr} {xs : List V} (s : Sub F F') (r : SqL K F a xs) : SqL K F' a xs := by
  rcases r with r | r
  · exact .inl (Rd.sub s r)
  · exact .inr r
theorem SqT.sub {K : PySem.W.Frag} {F F' : Hp} {a : Addr} {xs : List V} (s : Sub F F') (r : SqT K F a xs) : SqT K F' a xs := by
  rcases r with r | r
  · exact .inl (Rd.sub s r)
  · exact .inr r

section
variable {K : PySem.W.Frag} {G : ClsAt} {As As' : List Addr} {F F' H : Hp}
/-- more is known: the same holds -/
theorem as_get {As As' : List Addr} (p : As <+: As') {i : Nat} {a : Addr} (h : As[i]? = some a) : As'[i]? = some a := by
  obtain ⟨m, rfl⟩ := p
  have hl : i < As.length := (List.getElem?_eq_some_iff.mp h).1
  rw [List.getElem?_append_left hl]; exact h
mutual
theorem Den.mono (s : Sub F F') (p : As <+: As') : ∀ {d : D} {v : V}, Den K G As F d v → Den K G As' F' d v
  | _, _, .non => .non
  | _, _, .bl => .bl
  | _, _, .int => .int
  | _, _, .str => .str
  | _, _, .ty => .ty
  | _, _, .cls => .cls
  | _, _, .obj h => .obj (as_get p h)
  | _, _, .lst h l => .lst (SqL.sub s h) (DenL.mono s p l)
  | _, _, .tup h l => .tup (SqT.sub s h) (DenL.mono s p l)
  | _, _, .dic h l => .dic (Rd.sub s h) (DenK.mono s p l)
  | _, _, .ins h l => .ins (s _ _ h) (DenF.mono s p l)
theorem DenL.mono (s : Sub F F') (p : As <+: As') : ∀ {d : List D} {v : List V}, DenL K G As F d v → DenL K G As' F' d v
  | _, _, .nil => .nil
  | _, _, .cons h l => .cons (Den.mono s p h) (DenL.mono s p l)
theorem DenK.mono (s : Sub F F') (p : As <+: As') : ∀ {d : List (Key × D)} {v : List (Key × V)}, DenK K G As F d v → DenK K G As' F' d v
  | _, _, .nil => .nil
  | _, _, .cons h l => .cons (Den.mono s p h) (DenK.mono s p l)
theorem DenF.mono (s : Sub F F') (p : As <+: As') : ∀ {d : List (Str × D)} {v : List (Str × V)}, DenF K G As F d v → DenF K G As' F' d v
  | _, _, .nil => .nil
  | _, _, .cons h l => .cons (Den.mono s p h) (DenF.mono s p l)
end
theorem DenL.length : ∀ {d : List D} {v : List V}, DenL K G As F d v → d.length = v.length
  | _, _, .nil => rfl
  | _, _, .cons _ l => congrArg (· + 1) (DenL.length l)
theorem DenL.app : ∀ {d d' : List D} {v v' : List V}, DenL K G As F d v → DenL K G As F d' v' → DenL K G As F (d ++ d') (v ++ v')
  | _, _, _, _, .nil, h => h
  | _, _, _, _, .cons h l, h' => .cons h (DenL.app l h')
theorem DenL.get : ∀ {ds : List D} {vs : List V} {i : Nat} {v : V}, DenL K G As F ds vs → vs[i]? = some v → ∃ d, ds[i]? = some d ∧ Den K G As F d v
  | _, _, _, _, .nil, e => by simp at e
  | _, _, 0, _, .cons h _, e => by simp at e; subst e; exact ⟨_, rfl, h⟩
  | _, _, i + 1, _, .cons _ l, e => by
    obtain ⟨d, h1, h2⟩ := DenL.get (i := i) l (by simpa using e)
    exact ⟨d, by simpa using h1, h2⟩
theorem DenL.getD : ∀ {ds : List D} {vs : List V} {i : Nat} {d : D}, DenL K G As F ds vs → ds[i]? = some d → ∃ v, vs[i]? = some v ∧ Den K G As F d v
  | _, _, _, _, .nil, e => by simp at e
  | _, _, 0, _, .cons h _, e => by simp at e; subst e; exact ⟨_, rfl, h⟩
  | _, _, i + 1, _, .cons _ l, e => by
    obtain ⟨d, h1, h2⟩ := DenL.getD (i := i) l (by simpa using e)
    exact ⟨d, by simpa using h1, h2⟩
end

/-! the monad of mirrors -/
structure Err where
  cls : Str
  fs : List (Str × D)
abbrev Stt := List D
inductive R (α : Type) where
  | ok (a : α) (s : Stt) | err (e : Err) (s : Stt) | no
abbrev M (α : Type) := Stt → R α
@[reducible] def M.pure {α : Type} (a : α) : M α := fun s => .ok a s
@[reducible] def M.bind {α β : Type} (x : M α) (f : α → M β) : M β := fun s => match x s with
  | .ok a s' => f a s'
  | .err e s' => .err e s'
  | .no => .no
instance : Monad M := { pure := M.pure, bind := M.bind }
def no {α : Type} : M α := fun _ => .no
def raise {α : Type} (e : Err) : M α := fun s => .err e s

end PV
end

section
namespace PV
open PySem PySem.Spec L2
open PyProof.Rows hiding St

/-- F: what is shared and stands still; As: where the store's objects stand; st: what they hold -/
structure Cf where
  F : Hp
  As : List Addr
  st : Stt

section
variable (K : PySem.W.Frag) (G : ClsAt)
/-- an object of one's own: what is in it is shared -/
def OwnAt (As : List Addr) (F H : Hp) (a : Addr) : D → Prop
  | .lst xs => ∃ vs, H a = some (.lst vs) ∧ DenL K G As F xs vs
  | .dic ks => ∃ ws, H a = some (.dK ws) ∧ DenK K G As F ks ws
  | .ins c fs => ∃ dx ws, H a = some (.ins (G c) dx ws) ∧ DenF K G As F fs ws
  | _ => False
structure CfOk (c : Cf) (H : Hp) : Prop where
  le : LeF c.F H
  len : c.As.length = c.st.length
  nd : c.As.Nodup
  obj : ∀ (i : Nat) (a : Addr) (d : D), c.As[i]? = some a → c.st[i]? = some d → c.F a = none ∧ OwnAt K G c.As c.F H a d
end
structure Ext (c : Cf) (H : Hp) (c' : Cf) (H' : Hp) : Prop where
  keep : ∀ a o, H a = some o → a ∉ c.As → H' a = some o
  there : ∀ a o, H a = some o → ∃ o', H' a = some o'
  sub : Sub c.F c'.F
  new : ∀ a o, c'.F a = some o → c.F a = some o ∨ H a = none
  pre : c.As <+: c'.As
  anew : ∀ a, a ∈ c'.As → a ∈ c.As ∨ H a = none
theorem Ext.refl (c : Cf) (H : Hp) : Ext c H c H := ⟨fun _ _ h _ => h, fun _ o h => ⟨o, h⟩, Sub.refl _, fun _ _ h => .inl h, List.prefix_rfl, fun _ h => .inl h⟩
theorem Ext.none {c c' : Cf} {H H' : Hp} (e : Ext c H c' H') {a : Addr} (h : H' a = Option.none) : H a = Option.none := by
  cases q : H a with
  | none => rfl
  | some o => obtain ⟨o', z⟩ := e.there a o q; rw [h] at z; cases z
theorem Ext.trans {c c' c'' : Cf} {H H' H'' : Hp} (a : Ext c H c' H') (b : Ext c' H' c'' H'') : Ext c H c'' H'' where
  keep := fun x o h n => b.keep x o (a.keep x o h n) fun hm => (a.anew x hm).elim n fun z => by rw [h] at z; cases z
  there := fun x o h => let ⟨o', h'⟩ := a.there x o h; b.there x o' h'
  sub := Sub.trans a.sub b.sub
  new := fun x o h => (b.new x o h).elim (a.new x o) fun z => .inr (a.none z)
  pre := a.pre.trans b.pre
  anew := fun x h => (b.anew x h).elim (a.anew x) fun z => .inr (a.none z)
/-- only the heap grew -/
theorem Ext.heap {c : Cf} {H H' : Hp} (h : ∀ a o, H a = some o → H' a = some o) : Ext c H c H' := ⟨fun a o q _ => h a o q, fun a o q => ⟨o, h a o q⟩, Sub.refl _, fun _ _ h => .inl h, List.prefix_rfl, fun _ h => .inl h⟩

section
variable {K : PySem.W.Frag} {G : ClsAt}
theorem OwnAt.mono {As As' : List Addr} {F F' H H' : Hp} {a : Addr} (s : Sub F F') (p : As <+: As') (h : ∀ o, H a = some o → H' a = some o) : ∀ {d : D}, OwnAt K G As F H a d → OwnAt K G As' F' H' a d
  | .lst _, ⟨vs, q, l⟩ => ⟨vs, h _ q, l.mono s p⟩
  | .dic _, ⟨vs, q, l⟩ => ⟨vs, h _ q, l.mono s p⟩
  | .ins _ _, ⟨dx, vs, q, l⟩ => ⟨dx, vs, h _ q, l.mono s p⟩
  | .non, z | .bl _, z | .int _, z | .str _, z | .tup _, z | .cls _, z | .ty _, z | .obj _, z => z
theorem OwnAt.some {As : List Addr} {F H : Hp} {a : Addr} : ∀ {d : D}, OwnAt K G As F H a d → ∃ o, H a = some o
  | .lst _, ⟨vs, q, l⟩ => ⟨_, q⟩
  | .dic _, ⟨vs, q, l⟩ => ⟨_, q⟩
  | .ins _ _, ⟨dx, vs, q, l⟩ => ⟨_, q⟩
theorem LeF.up {F H H' : Hp} (h : LeF F H) (k : ∀ a o, F a = Option.some o → ∀ u, H a = Option.some u → H' a = Option.some u) : LeF F H' := fun a o q => by
  rcases h a o q with z | ⟨w, ob, z⟩
  · exact .inl (k a o q _ z)
  · exact .inr ⟨w, ob, k a o q _ z⟩
theorem LeF.some {F H : Hp} (h : LeF F H) {a : Addr} {o : HO} (q : F a = Option.some o) : ∃ u, H a = Option.some u := by
  rcases h a o q with z | ⟨w, ob, z⟩
  · exact ⟨_, z⟩
  · exact ⟨_, z⟩
theorem LeF.none {F H : Hp} (h : LeF F H) {a : Addr} (q : H a = Option.none) : F a = Option.none := by
  cases z : F a with
  | none => rfl
  | some o => obtain ⟨u, y⟩ := h.some z; rw [q] at y; cases y
theorem LeF.rdD {F H : Hp} (h : LeF F H) {a : Addr} {ws : List (Key × V)} (r : Rd F a (.dK ws)) : Rd H a (.dK ws) := by
  rcases r with r | ⟨o, r⟩
  · rcases h _ _ r with z | ⟨_, ob, z⟩
    · exact .inl z
    · exact .inr ⟨ob, z⟩
  · rcases h _ _ r with z | ⟨⟨ws', q⟩, ob, z⟩
    · exact .inr ⟨o, z⟩
    · cases q
theorem LeF.lst {F H : Hp} (h : LeF F H) {a : Addr} {xs : List V} (r : SqL K F a xs) : SqL K H a xs := by
  rcases r with (r | ⟨o, r⟩) | r
  · rcases h _ _ r with z | ⟨⟨ws, q⟩, _⟩
    · exact .inl (.inl z)
    · cases q
  · rcases h _ _ r with z | ⟨⟨ws', q⟩, ob, z⟩
    · exact .inl (.inr ⟨o, z⟩)
    · cases q
  · exact .inr r
theorem LeF.tup {F H : Hp} (h : LeF F H) {a : Addr} {xs : List V} (r : SqT K F a xs) : SqT K H a xs := by
  rcases r with (r | ⟨o, r⟩) | r
  · rcases h _ _ r with z | ⟨⟨ws, q⟩, _⟩
    · exact .inl (.inl z)
    · cases q
  · rcases h _ _ r with z | ⟨⟨ws', q⟩, ob, z⟩
    · exact .inl (.inr ⟨o, z⟩)
    · cases q
  · exact .inr r
theorem LeF.ins {F H : Hp} (h : LeF F H) {a C dx : Addr} {ws : List (Str × V)} (r : F a = Option.some (.ins C dx ws)) : H a = Option.some (.ins C dx ws) := by
  rcases h _ _ r with z | ⟨⟨ws, q⟩, _⟩
  · exact z
  · cases q
/-- the heap grew, nothing else -/
theorem CfOk.grow {c : Cf} {H H' : Hp} (o : CfOk K G c H) (h : ∀ a u, H a = Option.some u → H' a = Option.some u) : CfOk K G c H' :=
  ⟨o.le.up fun a _ _ u q => h a u q, o.len, o.nd, fun i a d e1 e2 => ⟨(o.obj i a d e1 e2).1, (o.obj i a d e1 e2).2.mono (Sub.refl _) List.prefix_rfl (h a)⟩⟩
theorem CfOk.mem {c : Cf} {H : Hp} (o : CfOk K G c H) {a : Addr} (h : a ∈ c.As) : c.F a = Option.none ∧ ∃ u, H a = Option.some u := by
  obtain ⟨i, hi, e⟩ := List.getElem_of_mem h
  have e1 : c.As[i]? = some a := by rw [List.getElem?_eq_getElem hi, e]
  have hi2 : i < c.st.length := by rw [← o.len]; exact hi
  have e2 : c.st[i]? = some c.st[i] := List.getElem?_eq_getElem hi2
  obtain ⟨q1, q2⟩ := o.obj i a _ e1 e2
  exact ⟨q1, q2.some⟩
/-- a new object becomes shared -/
theorem CfOk.share {c : Cf} {H : Hp} (o : CfOk K G c H) {a : Addr} {u : HO} (h : H a = Option.some u) (n : a ∉ c.As) (f : c.F a = Option.none) : CfOk K G { c with F := upd c.F a u } H := by
  have sb : Sub c.F (upd c.F a u) := fun b v q => by rw [upd_ne (fun z => by rw [z, f] at q; cases q)]; exact q
  refine ⟨fun b v q => ?_, o.len, o.nd, fun i b d e1 e2 => ?_⟩
  · by_cases z : b = a
    · subst z
      have q' : upd c.F b u b = Option.some v := q
      rw [upd_same] at q'; cases q'
      exact .inl h
    · have q' : upd c.F a u b = Option.some v := q
      rw [upd_ne z] at q'
      exact o.le b v q'
  · obtain ⟨q1, q2⟩ := o.obj i b d e1 e2
    have z : b ≠ a := fun z => n (by rw [← z]; exact List.mem_of_getElem? e1)
    exact ⟨by show upd c.F a u b = _; rw [upd_ne z]; exact q1, q2.mono sb List.prefix_rfl fun _ q => q⟩
theorem sub_upd {F : Hp} {a : Addr} {u : HO} (f : F a = Option.none) : Sub F (upd F a u) := fun b v q => by rw [upd_ne (fun z => by rw [z, f] at q; cases q)]; exact q

/-- read without keeping: shared, or one's own at the top -/
def DenT (K : PySem.W.Frag) (G : ClsAt) (c : Cf) (H : Hp) (d : D) (v : V) : Prop := Den K G c.As c.F d v ∨ ∃ a, v = .ref a ∧ a ∉ c.As ∧ c.F a = none ∧ OwnAt K G c.As c.F H a d
theorem DenT.ext {c c' : Cf} {H H' : Hp} {d : D} {v : V} (x : Ext c H c' H') (t : DenT K G c H d v) : DenT K G c' H' d v := by
  rcases t with t | ⟨a, e, n, f, t⟩
  · exact .inl (t.mono x.sub x.pre)
  · obtain ⟨u, hu⟩ := t.some
    refine .inr ⟨a, e, fun z => ?_, ?_, t.mono x.sub x.pre fun o q => x.keep a o q n⟩
    · rcases x.anew a z with z | z
      · exact n z
      · rw [hu] at z; cases z
    · cases q : c'.F a with
      | none => rfl
      | some o =>
        rcases x.new a o q with z | z
        · rw [f] at z; cases z
        · rw [hu] at z; cases z
theorem DenT.lst {c : Cf} {H : Hp} {xs : List D} {v : V} (o : CfOk K G c H) (t : DenT K G c H (.lst xs) v) : ∃ a vs, v = .ref a ∧ SqL K H a vs ∧ DenL K G c.As c.F xs vs := by
  rcases t with t | ⟨a, e, n, f, vs, h, l⟩
  · cases t with
    | lst h l => exact ⟨_, _, rfl, o.le.lst h, l⟩
  · exact ⟨a, vs, e, SqL.of h, l⟩
theorem DenT.tup {c : Cf} {H : Hp} {xs : List D} {v : V} (o : CfOk K G c H) (t : DenT K G c H (.tup xs) v) : ∃ a vs, v = .ref a ∧ SqT K H a vs ∧ DenL K G c.As c.F xs vs := by
  rcases t with t | ⟨a, e, n, f, z⟩
  · cases t with
    | tup h l => exact ⟨_, _, rfl, o.le.tup h, l⟩
  · exact z.elim
theorem DenT.dic {c : Cf} {H : Hp} {ks : List (Key × D)} {v : V} (o : CfOk K G c H) (t : DenT K G c H (.dic ks) v) : ∃ a ws, v = .ref a ∧ Rd H a (.dK ws) ∧ DenK K G c.As c.F ks ws := by
  rcases t with t | ⟨a, e, n, f, vs, h, l⟩
  · cases t with
    | dic h l => exact ⟨_, _, rfl, o.le.rdD h, l⟩
  · exact ⟨a, vs, e, .inl h, l⟩
theorem DenT.ins {c : Cf} {H : Hp} {k : Str} {fs : List (Str × D)} {v : V} (o : CfOk K G c H) (t : DenT K G c H (.ins k fs) v) : ∃ a dx ws, v = .ref a ∧ H a = some (.ins (G k) dx ws) ∧ DenF K G c.As c.F fs ws := by
  rcases t with t | ⟨a, e, n, f, dx, vs, h, l⟩
  · cases t with
    | ins h l => exact ⟨_, _, _, rfl, o.le.ins h, l⟩
  · exact ⟨a, dx, vs, e, h, l⟩
theorem DenT.int {c : Cf} {H : Hp} {i : Int} {v : V} (t : DenT K G c H (.int i) v) : v = .int i := by
  rcases t with t | ⟨a, e, n, f, z⟩
  · cases t; rfl
  · exact z.elim
theorem DenT.str {c : Cf} {H : Hp} {i : Str} {v : V} (t : DenT K G c H (.str i) v) : v = .str i := by
  rcases t with t | ⟨a, e, n, f, z⟩
  · cases t; rfl
  · exact z.elim
theorem DenT.bl {c : Cf} {H : Hp} {i : Bool} {v : V} (t : DenT K G c H (.bl i) v) : v = .bl i := by
  rcases t with t | ⟨a, e, n, f, z⟩
  · cases t; rfl
  · exact z.elim
theorem DenT.non {c : Cf} {H : Hp} {v : V} (t : DenT K G c H .non v) : v = .non := by
  rcases t with t | ⟨a, e, n, f, z⟩
  · cases t; rfl
  · exact z.elim
theorem DenT.obj {c : Cf} {H : Hp} {i : Nat} {v : V} (t : DenT K G c H (.obj i) v) : ∃ a, v = .ref a ∧ c.As[i]? = some a := by
  rcases t with t | ⟨a, e, n, f, z⟩
  · cases t with
    | obj h => exact ⟨_, rfl, h⟩
  · exact z.elim
end

/-! slots -/
inductive Slot where
  | no | val (d : D) | own (d : D)
abbrev Env := List Slot
section
variable (K : PySem.W.Frag) (G : ClsAt)
def SlotOk (c : Cf) (H : Hp) : Slot → Option V → Prop
  | .no, _ => True
  | .val d, o => ∃ v, o = some v ∧ Den K G c.As c.F d v
  | .own d, o => ∃ a, o = some (.ref a) ∧ c.F a = none ∧ a ∉ c.As ∧ OwnAt K G c.As c.F H a d
/-- the slots; H0: the heap at the entry (what one owns was not there) -/
structure Slots (H0 : Hp) (c : Cf) (H : Hp) (ρ : Env) (σ : St) : Prop where
  len : ρ.length = σ.length
  ok : ∀ (i : Nat) (sl : Slot) (o : Option V), ρ[i]? = some sl → σ[i]? = some o → SlotOk K G c H sl o
  sep : ∀ (i j : Nat) (d d' : D) (a : Addr), ρ[i]? = some (.own d) → ρ[j]? = some (.own d') → σ[i]? = some (some (.ref a)) → σ[j]? = some (some (.ref a)) → i = j
  mine : ∀ (i : Nat) (d : D) (a : Addr), ρ[i]? = some (.own d) → σ[i]? = some (some (.ref a)) → H0 a = none
end
section
variable {K : PySem.W.Frag} {G : ClsAt}
theorem SlotOk.ext {c c' : Cf} {H H' : Hp} (x : Ext c H c' H') : ∀ {sl : Slot} {o : Option V}, SlotOk K G c H sl o → SlotOk K G c' H' sl o
  | .no, _, _ => trivial
  | .val d, _, ⟨v, e, h⟩ => ⟨v, e, h.mono x.sub x.pre⟩
  | .own d, o, ⟨a, e, f, n, h⟩ => by
    have t : DenT K G c H d (.ref a) := .inr ⟨a, rfl, n, f, h⟩
    obtain ⟨u, hu⟩ := h.some
    refine ⟨a, e, ?_, fun z => ?_, h.mono x.sub x.pre fun o q => x.keep a o q n⟩
    · cases q : c'.F a with
      | none => rfl
      | some o =>
        rcases x.new a o q with z | z
        · rw [f] at z; cases z
        · rw [hu] at z; cases z
    · rcases x.anew a z with z | z
      · exact n z
      · rw [hu] at z; cases z
theorem Slots.ext {H0 : Hp} {c c' : Cf} {H H' : Hp} {ρ : Env} {σ : St} (x : Ext c H c' H') (s : Slots K G H0 c H ρ σ) : Slots K G H0 c' H' ρ σ :=
  ⟨s.len, fun i sl o e1 e2 => (s.ok i sl o e1 e2).ext x, s.sep, s.mine⟩
end

/-! posts -/
/-- how an error lies -/
def ErrAt (K : PySem.W.Frag) (G : ClsAt) (c : Cf) (H : Hp) (e : Err) (cls : Value) (dx : Option Addr) : Prop :=
  cls = .ref (G e.cls) ∧ ∃ d ws, dx = some d ∧ H d = some (.xd ws) ∧ DenF K G c.As c.F e.fs ws
section
variable (K : PySem.W.Frag) (G : ClsAt)
/-- what a mirror's result asks of what follows: P tells how the value lies -/
def Post {α β : Type} (P : Cf → Hp → α → β → Prop) (E : XK) (c : Cf) (H : Hp) (r : R α) (Q : β → Hp → Prop) : Prop := match r with
  | .ok d st' => ∀ v F' As' H', Ext c H ⟨F', As', st'⟩ H' → CfOk K G ⟨F', As', st'⟩ H' → P ⟨F', As', st'⟩ H' d v → Q v H'
  | .err e st' => ∀ F' As' H' cls dx, Ext c H ⟨F', As', st'⟩ H' → CfOk K G ⟨F', As', st'⟩ H' → ErrAt K G ⟨F', As', st'⟩ H' e cls dx → E cls dx H'
  | .no => False
abbrev PDen : Cf → Hp → D → V → Prop := fun c _ d v => Den K G c.As c.F d v
abbrev PTop : Cf → Hp → D → V → Prop := fun c H d v => DenT K G c H d v
/-- new, one's own; Hb: the heap before -/
abbrev POwn (Hb : Hp) : Cf → Hp → D → V → Prop := fun c H d v => ∃ a, v = .ref a ∧ Hb a = none ∧ a ∉ c.As ∧ c.F a = none ∧ OwnAt K G c.As c.F H a d
abbrev PDens : Cf → Hp → List D → List V → Prop := fun c _ d v => DenL K G c.As c.F d v
abbrev PBl : Cf → Hp → Bool → Bool → Prop := fun _ _ d v => d = v

/-- expressions: shared values, read values, new values, tests, arguments -/
def tV (W : WX) (f : Env → M D) : TE := fun σ H Q => ∃ H0 ρ c, CfOk K G c H ∧ Slots K G H0 c H ρ σ ∧ Post K G (PDen K G) (fun cls dx H' => W cls dx σ H') c H (f ρ c.st) Q
def tR (W : WX) (f : Env → M D) : TE := fun σ H Q => ∃ H0 ρ c, CfOk K G c H ∧ Slots K G H0 c H ρ σ ∧ Post K G (PTop K G) (fun cls dx H' => W cls dx σ H') c H (f ρ c.st) Q
def tN (W : WX) (f : Env → M D) : TE := fun σ H Q => ∃ H0 ρ c, CfOk K G c H ∧ Slots K G H0 c H ρ σ ∧ Post K G (POwn K G H) (fun cls dx H' => W cls dx σ H') c H (f ρ c.st) Q
def tT (W : WX) (f : Env → M Bool) : TT := fun σ H Q => ∃ H0 ρ c, CfOk K G c H ∧ Slots K G H0 c H ρ σ ∧ Post K G PBl (fun cls dx H' => W cls dx σ H') c H (f ρ c.st) Q
def tL (W : WX) (f : Env → M (List D)) : TA := fun σ H Q => ∃ H0 ρ c, CfOk K G c H ∧ Slots K G H0 c H ρ σ ∧ Post K G (PDens K G) (fun cls dx H' => W cls dx σ H') c H (f ρ c.st) Q
end
abbrev VE (G : ClsAt) (X : Cx) (W : WX) (e : Expr) (f : Env → M D) : Prop := PE X e (tV X.K G W f)
abbrev VR (G : ClsAt) (X : Cx) (W : WX) (e : Expr) (f : Env → M D) : Prop := PE X e (tR X.K G W f)
abbrev VN (G : ClsAt) (X : Cx) (W : WX) (e : Expr) (f : Env → M D) : Prop := PE X e (tN X.K G W f)
abbrev VT (G : ClsAt) (X : Cx) (W : WX) (e : Expr) (f : Env → M Bool) : Prop := PT X e (tT X.K G W f)
abbrev VA (G : ClsAt) (X : Cx) (W : WX) (es : List Expr) (f : Env → M (List D)) : Prop := PA X es (tL X.K G W f)

theorem PE.imp {X : Cx} {e : Expr} {t t' : TE} (h : PE X e t) (i : ∀ σ H Q, t' σ H Q → t σ H Q) : PE X e t' := ⟨fun pins s σ H Q I q => h.run pins s σ H Q I (i σ H Q q)⟩
theorem PT.imp {X : Cx} {e : Expr} {t t' : TT} (h : PT X e t) (i : ∀ σ H Q, t' σ H Q → t σ H Q) : PT X e t' := ⟨fun pins s σ H Q I q => h.run pins s σ H Q I (i σ H Q q)⟩
theorem PA.imp {X : Cx} {e : List Expr} {t t' : TA} (h : PA X e t) (i : ∀ σ H Q, t' σ H Q → t σ H Q) : PA X e t' := ⟨fun pos pins s σ H Q I q => h.run pos pins s σ H Q I (i σ H Q q)⟩
theorem PS.imp {X : Cx} {e : Stmt} {t t' : TS} (h : PS X e t) (i : ∀ D σ H, t' D σ H → t D σ H) : PS X e t' := ⟨fun pins s σ H D I q => h.run pins s σ H D I (i D σ H q)⟩
theorem PSs.imp {X : Cx} {e : List Stmt} {t t' : TS} (h : PSs X e t) (i : ∀ D σ H, t' D σ H → t D σ H) : PSs X e t' := ⟨fun pins s σ H D I q => h.run pins s σ H D I (i D σ H q)⟩

section
variable {K : PySem.W.Frag} {G : ClsAt} {α β γ δ : Type}
/-- one step behind another -/
theorem Post.bind {P : Cf → Hp → α → β → Prop} {P' : Cf → Hp → γ → δ → Prop} {E : XK} {c : Cf} {H : Hp} {r : R α} {f : α → M γ} {Q : δ → Hp → Prop}
    (h : Post K G P' E c H (match r with | .ok a s' => f a s' | .err e s' => .err e s' | .no => .no) Q) :
    Post K G P E c H r fun v H' => ∃ a c', Ext c H c' H' ∧ CfOk K G c' H' ∧ P c' H' a v ∧ Post K G P' E c' H' (f a c'.st) Q := by
  cases r with
  | no => exact h
  | err e s' => exact h
  | ok a s' =>
    intro v F' As' H' x o p
    refine ⟨a, _, x, o, p, ?_⟩
    have h : Post K G P' E c H (f a s') Q := h
    show Post K G P' E ⟨F', As', s'⟩ H' (f a s') Q
    cases q : f a s' with
    | no => rw [q] at h; exact h
    | err e s'' => rw [q] at h; exact fun F2 As2 H2 cls dx x2 o2 z => h F2 As2 H2 cls dx (x.trans x2) o2 z
    | ok b s'' => rw [q] at h; exact fun w F2 As2 H2 x2 o2 z => h w F2 As2 H2 (x.trans x2) o2 z
theorem Post.imp {P P' : Cf → Hp → α → β → Prop} {E E' : XK} {c : Cf} {H : Hp} {r : R α} {Q Q' : β → Hp → Prop} (h : Post K G P E c H r Q) (hp : ∀ c' H' a v, Ext c H c' H' → CfOk K G c' H' → P' c' H' a v → P c' H' a v) (hq : ∀ v H', Q v H' → Q' v H')
    (he : ∀ cls dx H', E cls dx H' → E' cls dx H') : Post K G P' E' c H r Q' := by
  cases r with
  | no => exact h
  | err e s' => exact fun F' As' H' cls dx x o z => he _ _ _ (h F' As' H' cls dx x o z)
  | ok a s' => exact fun v F' As' H' x o p => hq _ _ (h v F' As' H' x o (hp _ _ _ _ x o p))
/-- a value at hand -/
theorem Post.here {P : Cf → Hp → α → β → Prop} {E : XK} {c : Cf} {H : Hp} {a : α} {Q : β → Hp → Prop} (h : Post K G P E c H (.ok a c.st) Q) (o : CfOk K G c H) {v : β} {H' : Hp} (g : ∀ a u, H a = some u → H' a = some u) (p : P c H' a v) : Q v H' :=
  h v c.F c.As H' (Ext.heap g) (o.grow g) p
end
end PV
end

section
namespace PV
open PySem PySem.Spec L2
open PyProof.Rows hiding St

abbrev SIZE : Nat := 1000000

section
variable {K : PySem.W.Frag} {G : ClsAt} {W : WX} {α β γ δ : Type} {σ : L2.St} {H H0 : Hp} {ρ : Env} {c : Cf}
theorem tR_step {f : M D} {fe : Env → M D} {k : D → M γ} {P' : Cf → Hp → γ → δ → Prop} {Q' : δ → Hp → Prop} {R : VK} (e : fe ρ = f) (o : CfOk K G c H) (sl : Slots K G H0 c H ρ σ)
    (post : Post K G P' (fun cls dx H' => W cls dx σ H') c H ((f >>= k) c.st) Q')
    (next : ∀ d v c' H', Ext c H c' H' → CfOk K G c' H' → Slots K G H0 c' H' ρ σ → DenT K G c' H' d v → Post K G P' (fun cls dx H' => W cls dx σ H') c' H' (k d c'.st) Q' → R v H') : tR K G W fe σ H R := by
  refine ⟨H0, ρ, c, o, sl, ?_⟩
  rw [e]
  exact (Post.bind (P := PTop K G) (f := k) post).imp (fun _ _ _ _ _ _ p => p) (fun v H' ⟨d, c', x, o', p, q⟩ => next d v c' H' x o' (sl.ext x) p q) fun _ _ _ z => z
theorem tV_step {f : M D} {fe : Env → M D} {k : D → M γ} {P' : Cf → Hp → γ → δ → Prop} {Q' : δ → Hp → Prop} {R : VK} (e : fe ρ = f) (o : CfOk K G c H) (sl : Slots K G H0 c H ρ σ)
    (post : Post K G P' (fun cls dx H' => W cls dx σ H') c H ((f >>= k) c.st) Q')
    (next : ∀ d v c' H', Ext c H c' H' → CfOk K G c' H' → Slots K G H0 c' H' ρ σ → Den K G c'.As c'.F d v → Post K G P' (fun cls dx H' => W cls dx σ H') c' H' (k d c'.st) Q' → R v H') : tV K G W fe σ H R := by
  refine ⟨H0, ρ, c, o, sl, ?_⟩
  rw [e]
  exact (Post.bind (P := PDen K G) (f := k) post).imp (fun _ _ _ _ _ _ p => p) (fun v H' ⟨d, c', x, o', p, q⟩ => next d v c' H' x o' (sl.ext x) p q) fun _ _ _ z => z
theorem tT_step {f : M Bool} {fe : Env → M Bool} {k : Bool → M γ} {P' : Cf → Hp → γ → δ → Prop} {Q' : δ → Hp → Prop} {R : Bool → Hp → Prop} (e : fe ρ = f) (o : CfOk K G c H) (sl : Slots K G H0 c H ρ σ)
    (post : Post K G P' (fun cls dx H' => W cls dx σ H') c H ((f >>= k) c.st) Q')
    (next : ∀ b c' H', Ext c H c' H' → CfOk K G c' H' → Slots K G H0 c' H' ρ σ → Post K G P' (fun cls dx H' => W cls dx σ H') c' H' (k b c'.st) Q' → R b H') : tT K G W fe σ H R := by
  refine ⟨H0, ρ, c, o, sl, ?_⟩
  rw [e]
  exact (Post.bind (P := PBl) (f := k) post).imp (fun _ _ _ _ _ _ p => p) (fun v H' ⟨d, c', x, o', p, q⟩ => next v c' H' x o' (sl.ext x) (by cases (show d = v from p); exact q)) fun _ _ _ z => z
theorem tL_step {f : M (List D)} {fe : Env → M (List D)} {k : List D → M γ} {P' : Cf → Hp → γ → δ → Prop} {Q' : δ → Hp → Prop} {R : List V → Hp → Prop} (e : fe ρ = f) (o : CfOk K G c H) (sl : Slots K G H0 c H ρ σ)
    (post : Post K G P' (fun cls dx H' => W cls dx σ H') c H ((f >>= k) c.st) Q')
    (next : ∀ d v c' H', Ext c H c' H' → CfOk K G c' H' → Slots K G H0 c' H' ρ σ → DenL K G c'.As c'.F d v → Post K G P' (fun cls dx H' => W cls dx σ H') c' H' (k d c'.st) Q' → R v H') : tL K G W fe σ H R := by
  refine ⟨H0, ρ, c, o, sl, ?_⟩
  rw [e]
  exact (Post.bind (P := PDens K G) (f := k) post).imp (fun _ _ _ _ _ _ p => p) (fun v H' ⟨d, c', x, o', p, q⟩ => next d v c' H' x o' (sl.ext x) p q) fun _ _ _ z => z
end

section
variable {G : ClsAt} {X : Cx} {W : WX}
/-! from one judgement to another -/
theorem VE.r {e : Expr} {f : Env → M D} (h : VE G X W e f) : VR G X W e f := PE.imp h fun σ H Q ⟨H0, ρ, c, o, sl, p⟩ => ⟨H0, ρ, c, o, sl, p.imp (fun _ _ _ _ _ _ z => .inl z) (fun _ _ q => q) fun _ _ _ q => q⟩
/-- a new object is shared from now on -/
theorem share_at {K : PySem.W.Frag} {c c' : Cf} {H H' : Hp} {d : D} {v : V} (x : Ext c H c' H') (o : CfOk K G c' H') (p : POwn K G H c' H' d v) :
    ∃ F2, Ext c H ⟨F2, c'.As, c'.st⟩ H' ∧ CfOk K G ⟨F2, c'.As, c'.st⟩ H' ∧ Den K G c'.As F2 d v := by
  obtain ⟨a, rfl, hn, n, f, w⟩ := p
  have key : ∀ u, H' a = some u → Ext c H ⟨upd c'.F a u, c'.As, c'.st⟩ H' ∧ CfOk K G ⟨upd c'.F a u, c'.As, c'.st⟩ H' := fun u hu => by
    refine ⟨⟨x.keep, x.there, Sub.trans x.sub (sub_upd f), fun b o q => ?_, x.pre, x.anew⟩, o.share hu n f⟩
    by_cases z : b = a
    · subst z; exact .inr hn
    · have q' : upd c'.F a u b = some o := q
      rw [upd_ne z] at q'
      exact x.new b o q'
  cases d with
  | lst xs =>
    obtain ⟨vs, h, l⟩ := w
    exact ⟨_, (key _ h).1, (key _ h).2, .lst (SqL.of upd_same) (l.mono (sub_upd f) List.prefix_rfl)⟩
  | dic ks =>
    obtain ⟨vs, h, l⟩ := w
    exact ⟨_, (key _ h).1, (key _ h).2, .dic (.inl upd_same) (l.mono (sub_upd f) List.prefix_rfl)⟩
  | ins k fs =>
    obtain ⟨dx, vs, h, l⟩ := w
    exact ⟨_, (key _ h).1, (key _ h).2, .ins upd_same (l.mono (sub_upd f) List.prefix_rfl)⟩
  | _ => exact w.elim
theorem Post.own {K : PySem.W.Frag} {E : XK} {c : Cf} {H : Hp} {r : R D} {Q : VK} (h : Post K G (PDen K G) E c H r Q) : Post K G (POwn K G H) E c H r Q := by
  cases r with
  | no => exact h
  | err e s' => exact h
  | ok a s' =>
    intro v F' As' H' x o p
    obtain ⟨F2, x2, o2, p2⟩ := share_at x o p
    exact h v F2 As' H' x2 o2 p2
theorem VN.e {e : Expr} {f : Env → M D} (h : VN G X W e f) : VE G X W e f := PE.imp h fun σ H Q ⟨H0, ρ, c, o, sl, p⟩ => ⟨H0, ρ, c, o, sl, p.own⟩

/-! names, constants -/
def getV (i : Nat) (ρ : Env) : M D := match ρ[i]? with
  | some (.val d) => pure d
  | _ => no
def getR (i : Nat) (ρ : Env) : M D := match ρ[i]? with
  | some (.val d) => pure d
  | some (.own d) => pure d
  | _ => no
theorem ve_var {x : Str} {pos : Pos} (i : Nat) (hN : X.N[i]? = some x := by rfl) (hv : Vis X.env.scope x := by first | exact Or.inl rfl | exact Or.inr (Or.inl rfl) | exact Or.inr (Or.inr rfl)) (hd : (x == ("__debug__" : Str)) = false := by decide)
    (hcd : (x == ("__classdict__" : Str)) = false := by decide) : VE G X W (.Name x pos) (getV i) := PE.imp (pe_var (i := i) hN hv hd hcd) fun σ H Q ⟨H0, ρ, c, o, sl, p⟩ => by
  unfold getV at p
  cases e : ρ[i]? with
  | none => rw [e] at p; exact p.elim
  | some s =>
    rw [e] at p
    cases s with
    | val d =>
      have hl : i < σ.length := by rw [← sl.len]; exact (List.getElem?_eq_some_iff.mp e).1
      obtain ⟨v, e2, h⟩ := sl.ok i _ _ e (List.getElem?_eq_getElem hl)
      refine ⟨v, by rw [List.getElem?_eq_getElem hl, e2], ?_⟩
      exact p.here o (fun _ _ h => h) h
    | no => exact p.elim
    | own d => exact p.elim
theorem vr_var {x : Str} {pos : Pos} (i : Nat) (hN : X.N[i]? = some x := by rfl) (hv : Vis X.env.scope x := by first | exact Or.inl rfl | exact Or.inr (Or.inl rfl) | exact Or.inr (Or.inr rfl)) (hd : (x == ("__debug__" : Str)) = false := by decide)
    (hcd : (x == ("__classdict__" : Str)) = false := by decide) : VR G X W (.Name x pos) (getR i) := PE.imp (pe_var (i := i) hN hv hd hcd) fun σ H Q ⟨H0, ρ, c, o, sl, p⟩ => by
  unfold getR at p
  cases e : ρ[i]? with
  | none => rw [e] at p; exact p.elim
  | some s =>
    rw [e] at p
    cases s with
    | val d =>
      have hl : i < σ.length := by rw [← sl.len]; exact (List.getElem?_eq_some_iff.mp e).1
      obtain ⟨v, e2, h⟩ := sl.ok i _ _ e (List.getElem?_eq_getElem hl)
      refine ⟨v, by rw [List.getElem?_eq_getElem hl, e2], ?_⟩
      exact p.here o (fun _ _ h => h) (.inl h)
    | no => exact p.elim
    | own d =>
      have hl : i < σ.length := by rw [← sl.len]; exact (List.getElem?_eq_some_iff.mp e).1
      obtain ⟨a, e2, f, n, h⟩ := sl.ok i _ _ e (List.getElem?_eq_getElem hl)
      refine ⟨_, by rw [List.getElem?_eq_getElem hl, e2], ?_⟩
      exact p.here o (fun _ _ h => h) (.inr ⟨a, rfl, n, f, h⟩)
theorem ve_int {i : Int} {j : Nat} {pos : Pos} : VE G X W (.Constant (.int i) j pos) (fun _ => pure (.int i)) := PE.imp pe_int fun σ H Q ⟨H0, ρ, c, o, sl, p⟩ => p.here o (fun _ _ h => h) .int
theorem ve_bl {b : Bool} {j : Nat} {pos : Pos} : VE G X W (.Constant (.bool b) j pos) (fun _ => pure (.bl b)) := PE.imp pe_bl fun σ H Q ⟨H0, ρ, c, o, sl, p⟩ => p.here o (fun _ _ h => h) .bl
theorem ve_non {j : Nat} {pos : Pos} : VE G X W (.Constant .none j pos) (fun _ => pure .non) := PE.imp pe_non fun σ H Q ⟨H0, ρ, c, o, sl, p⟩ => p.here o (fun _ _ h => h) .non
theorem ve_str {x : Str} {j : Nat} {pos : Pos} : VE G X W (.Constant (.str x) j pos) (fun _ => pure (.str x)) := PE.imp pe_str fun σ H Q ⟨H0, ρ, c, o, sl, p⟩ => p.here o (fun _ _ h => h) .str
theorem ve_gint {x : Str} {i : Int} {t : Tok} {pos : Pos} (hm : X.mg x = some (.int i t)) (hg : Gl X x := by rfl) (hd : (x == ("__debug__" : Str)) = false := by decide) : VE G X W (.Name x pos) (fun _ => pure (.int i)) :=
  PE.imp (pe_glob (v := .int i) hg hm ⟨t, rfl⟩ hd) fun σ H Q ⟨H0, ρ, c, o, sl, p⟩ => p.here o (fun _ _ h => h) .int
theorem ve_gstr {x z : Str} {t : Tok} {pos : Pos} (hm : X.mg x = some (.str z t)) (hg : Gl X x := by rfl) (hd : (x == ("__debug__" : Str)) = false := by decide) : VE G X W (.Name x pos) (fun _ => pure (.str z)) :=
  PE.imp (pe_glob (v := .str z) hg hm ⟨t, rfl⟩ hd) fun σ H Q ⟨H0, ρ, c, o, sl, p⟩ => p.here o (fun _ _ h => h) .str
theorem ve_gcls {x k : Str} {pos : Pos} (hm : X.mg x = some (.ref (G k))) (hg : Gl X x := by rfl) (hd : (x == ("__debug__" : Str)) = false := by decide) : VE G X W (.Name x pos) (fun _ => pure (.cls k)) :=
  PE.imp (pe_glob (v := .ref (G k)) hg hm rfl hd) fun σ H Q ⟨H0, ρ, c, o, sl, p⟩ => p.here o (fun _ _ h => h) .cls
theorem ve_ty {x : Str} {n : String} {pos : Pos} (hm : X.mg x = none) (hv : bootBuiltins x = some (.type n)) (hg : Gl X x := by rfl) (hn : x ≠ "__name__" := by decide) (hd : (x == ("__debug__" : Str)) = false := by decide) : VE G X W (.Name x pos) (fun _ => pure (.ty n)) :=
  PE.imp (pe_bltn (v := .ty n) hg hm hv rfl hn hd) fun σ H Q ⟨H0, ρ, c, o, sl, p⟩ => p.here o (fun _ _ h => h) .ty

/-! two operands -/
/-- an operation by values: what its mirror asks is what its rule asks -/
def Op2 (X : Cx) (G : ClsAt) (r : R2) (P : Cf → Hp → Cf → Hp → D → V → Prop) (F2 : D → D → M D) : Prop := ∀ (c : Cf) (H : Hp) (x y : D) (v w : V) (E : XK) (Q : VK), CfOk X.K G c H → DenT X.K G c H x v → DenT X.K G c H y w → Post X.K G (P c H) E c H (F2 x y c.st) Q → r v w H Q
theorem ve_op {a b : Expr} {f g : Env → M D} {op : Operator} {r : R2} {F2 : D → D → M D} {pos : Pos} (ho : OpR X (binaryOp op) r) (h2 : Op2 X G r (fun _ _ => PDen X.K G) F2) (ha : VR G X W a f) (hb : VR G X W b g) : VE G X W (.BinOp a op b pos) (fun ρ => do let x ← f ρ; let y ← g ρ; F2 x y) :=
  PE.imp (pe_op ho ha hb) fun σ H Q ⟨H0, ρ, c, o, sl, p⟩ => tR_step rfl o sl p fun x v c1 H1 x1 o1 sl1 t1 p1 => tR_step rfl o1 sl1 p1 fun y w c2 H2 x2 o2 sl2 t2 p2 => h2 _ _ _ _ _ _ _ _ o2 (t1.ext x2) t2 p2
theorem vn_op {a b : Expr} {f g : Env → M D} {op : Operator} {r : R2} {F2 : D → D → M D} {pos : Pos} (ho : OpR X (binaryOp op) r) (h2 : Op2 X G r (fun _ H => POwn X.K G H) F2) (ha : VR G X W a f) (hb : VR G X W b g) : VN G X W (.BinOp a op b pos) (fun ρ => do let x ← f ρ; let y ← g ρ; F2 x y) :=
  PE.imp (pe_op ho ha hb) fun σ H Q ⟨H0, ρ, c, o, sl, p⟩ => tR_step rfl o sl p fun x v c1 H1 x1 o1 sl1 t1 p1 => tR_step rfl o1 sl1 p1 fun y w c2 H2 x2 o2 sl2 t2 p2 => h2 _ _ _ _ _ _ _ _ o2 (t1.ext x2) t2
    (p2.imp (P' := POwn X.K G H2) (fun c' H' d v _ _ ⟨a, e1, e2, e3⟩ => ⟨a, e1, (x1.trans x2).none e2, e3⟩) (fun _ _ q => q) fun _ _ _ q => q)
end
end PV
end

section
namespace PV
open PySem PySem.Spec L2
open PyProof.Rows hiding St

/-! new objects -/
section
variable {K : PySem.W.Frag} {G : ClsAt} {c : Cf} {H : Hp} {E : XK} {Q : VK} {d : D} {p : Addr} {u : HO}
theorem upd_keep (hp : H p = none) : ∀ a o, H a = some o → upd H p u a = some o := fun a o q => by rw [upd_ne (fun z => by rw [z, hp] at q; cases q)]; exact q
theorem CfOk.notAs (o : CfOk K G c H) (hp : H p = none) : p ∉ c.As := fun z => by
  obtain ⟨_, u, hu⟩ := o.mem z
  rw [hp] at hu; cases hu
theorem Post.newOwn (h : Post K G (POwn K G H) E c H (.ok d c.st) Q) (o : CfOk K G c H) (hp : H p = none) (w : OwnAt K G c.As c.F (upd H p u) p d) : Q (.ref p) (upd H p u) :=
  h.here o (upd_keep hp) ⟨p, rfl, hp, o.notAs hp, o.le.none hp, w⟩
theorem Post.newDen (h : Post K G (PDen K G) E c H (.ok d c.st) Q) (o : CfOk K G c H) (hp : H p = none) (w : OwnAt K G c.As c.F (upd H p u) p d) : Q (.ref p) (upd H p u) := h.own.newOwn o hp w
/-- a new tuple -/
theorem Post.newTup {ds : List D} {vs : List V} (h : Post K G (PDen K G) E c H (.ok (.tup ds) c.st) Q) (o : CfOk K G c H) (hp : H p = none) (l : DenL K G c.As c.F ds vs) : Q (.ref p) (upd H p (.tup vs)) := by
  have f := o.le.none hp
  have o2 : CfOk K G c (upd H p (.tup vs)) := o.grow (upd_keep hp)
  have o3 := o2.share (a := p) (u := .tup vs) upd_same (o.notAs hp) f
  refine h (.ref p) _ c.As _ ⟨fun a u q _ => upd_keep hp a u q, fun a u q => ⟨u, upd_keep hp a u q⟩, sub_upd (u := .tup vs) f, fun a u q => ?_, List.prefix_rfl, fun _ z => .inl z⟩ o3 (.tup (SqT.of upd_same) (l.mono (sub_upd f) List.prefix_rfl))
  by_cases z : a = p
  · rw [z]; exact .inr hp
  · have q' : upd c.F p (.tup vs) a = some u := q
    rw [upd_ne z] at q'
    exact .inl q'
end

section
variable {X : Cx} {G : ClsAt}
def rCatL (K : PySem.W.Frag) : R2 := fun x y H Q => ∃ l b xs zs, x = .ref l ∧ y = .ref b ∧ SqL K H l xs ∧ SqL K H b zs ∧ xs.length + zs.length ≤ sizeLine ∧ ∀ p, H p = none → Q (.ref p) (upd H p (.lst (xs ++ zs)))
theorem op_catL : OpR X (binaryOp .Add) (rCatL X.K) := by
  intro pins s σ H x y v u Q I rx ry h
  obtain ⟨l, b, xs, zs, rfl, rfl, hH, hB, hz, q⟩ := h
  cases rx
  cases ry
  obtain ⟨its, r, ⟨⟨c1, d1, t1, s1⟩, n, e, hc, hd, ht⟩, _⟩ := I.list hH
  obtain ⟨its2, r2, ⟨⟨c2, d2, t2, s2⟩, n2, e2, hc2, hd2, ht2⟩, _⟩ := I.list hB
  simp only at hc hd ht hc2 hd2 ht2
  subst hc hd ht hc2 hd2 ht2
  have l1 := r.length
  have l2 := r2.length
  refine concat_meets ⟨_, e, rfl⟩ ⟨_, e2, rfl⟩ noFill_list_add seq_list_add PySem.F.slot_list_add PySem.F.entry_list_add (PySem.F.args_list_add_2 _ _)
    (list_addW l b its.toArray its2.toArray n n2 Option.none Option.none s1 s2 (by rw [List.size_toArray, List.size_toArray]; omega)) ⟨e, e2, ?_⟩
  have ea : its.toArray ++ its2.toArray = (its ++ its2).toArray := by simp
  rw [ea]
  refine ⟨.ref s.heap.objs.size, _, I.laid (t' := s.toks) (o := .lst (xs ++ zs)) (fun b ob q => Heap.get?_push_of_some _ q) (Nat.le_refl _) ?_, rfl, q _ (I.hok.fresh (Nat.le_refl _))⟩
  exact ⟨by rw [List.length_append]; exact hz, _, 0, r.append r2, Heap.get?_push_size _ rfl⟩
end

/-! mirrors of the operations -/
def addD : D → D → M D
  | .int i, .int j => pure (.int (i + j))
  | .str a, .str b => if a.length + b.length ≤ SIZE then pure (.str (a ++ b)) else no
  | .lst xs, .lst ys => if xs.length + ys.length ≤ SIZE then pure (.lst (xs ++ ys)) else no
  | _, _ => no
def catD : D → D → M D
  | .lst xs, .lst ys => if xs.length + ys.length ≤ SIZE then pure (.lst (xs ++ ys)) else no
  | _, _ => no
def subD : D → D → M D
  | .int i, .int j => pure (.int (i - j))
  | _, _ => no
def mulD : D → D → M D
  | .int i, .int j => if i.natAbs.log2 + j.natAbs.log2 < 1000000 then pure (.int (i * j)) else no
  | _, _ => no
def fdivD : D → D → M D
  | .int i, .int j => if j ≠ 0 ∧ j.natAbs.log2 < 9000 then pure (.int (i.fdiv j)) else no
  | _, _ => no
def modD : D → D → M D
  | .int i, .int j => if j ≠ 0 then pure (.int (i.fmod j)) else no
  | _, _ => no
def powD : D → D → M D
  | .int i, .int j => if 0 ≤ j ∧ j ≤ 1000000 ∧ i.natAbs < 2 ^ 64 then pure (.int (i ^ j.toNat)) else no
  | _, _ => no
def ltD : D → D → M D
  | .int i, .int j => pure (.bl (decide (i < j)))
  | .str a, .str b => pure (.bl (decide (a.cps.toList < b.cps.toList)))
  | _, _ => no
def leD : D → D → M D
  | .int i, .int j => pure (.bl (decide (i ≤ j)))
  | .str a, .str b => pure (.bl (!decide (b.cps.toList < a.cps.toList)))
  | _, _ => no
def gtD : D → D → M D
  | .int i, .int j => pure (.bl (decide (j < i)))
  | .str a, .str b => pure (.bl (decide (b.cps.toList < a.cps.toList)))
  | _, _ => no
def geD : D → D → M D
  | .int i, .int j => pure (.bl (decide (j ≤ i)))
  | .str a, .str b => pure (.bl (!decide (a.cps.toList < b.cps.toList)))
  | _, _ => no
/-- data without instances, dicts; at most n deep -/
def D.py : Nat → D → Option PyData
  | _, .non => some .none
  | _, .bl b => some (.bool b)
  | _, .int i => some (.int i)
  | _, .str s => if PyData.strOk s = true then some (.str s) else none
  | n + 1, .lst xs => (xs.mapM (D.py n)).map .list
  | n + 1, .tup xs => (xs.mapM (D.py n)).map .tuple
  | _, _ => none
def eqB : D → D → M Bool
  | .str a, .str b => pure (decide (a = b))
  | x, y => match D.py 8 x, D.py 8 y with
    | some a, some b => pure (PyData.eqv a b)
    | _, _ => no
def eqD (x y : D) : M D := do let b ← eqB x y; pure (.bl b)
def neD (x y : D) : M D := do let b ← eqB x y; pure (.bl !b)
def isNonB : D → Bool
  | .non => true
  | _ => false
def D.flat : D → Option V
  | .non => some .non
  | .bl b => some (.bl b)
  | .int i => some (.int i)
  | .str s => some (.str s)
  | _ => none
def D.key : D → Option Key
  | .int i => some (.inl i)
  | .str s => some (.inr s)
  | _ => none
def getK (ks : List (Key × D)) (k : Key) : Option D := (ks.find? fun p => decide (p.1 = k)).map (·.2)
def inB : D → D → M Bool
  | .str s, .str z => match s.cps.toList with
    | [ch] => pure (decide (ch ∈ z.cps.toList))
    | _ => no
  | x, .lst ys => match D.flat x, ys.mapM D.flat with
    | some v, some vs => pure (inV v vs)
    | _, _ => no
  | x, .tup ys => match D.flat x, ys.mapM D.flat with
    | some v, some vs => pure (inV v vs)
    | _, _ => no
  | x, .dic ks => match D.key x with
    | some k => pure (getK ks k).isSome
    | none => no
  | _, _ => no
def inD (x y : D) : M D := do let b ← inB x y; pure (.bl b)
def notInD (x y : D) : M D := do let b ← inB x y; pure (.bl !b)

theorem sz {n : Nat} (h : n ≤ SIZE) : n ≤ sizeLine := Nat.le_trans h (by rw [sizeLine_eq]; decide)

/-! they are what the rules say -/
section
variable {X : Cx} {G : ClsAt}
abbrev P0 (X : Cx) (G : ClsAt) : Cf → Hp → Cf → Hp → D → V → Prop := fun _ _ => PDen X.K G
theorem elim_no {K : PySem.W.Frag} {α β : Type} {P : Cf → Hp → α → β → Prop} {E : XK} {c : Cf} {H : Hp} {Q : β → Hp → Prop} {Z : Prop} (h : Post K G P E c H (.no : R α) Q) : Z := h.elim
theorem post_if {K : PySem.W.Frag} {α β : Type} {P : Cf → Hp → α → β → Prop} {E : XK} {c : Cf} {H : Hp} {Q : β → Hp → Prop} {p : Prop} [Decidable p] {x : M α} {s : Stt} (h : Post K G P E c H ((if p then x else no) s) Q) : p ∧ Post K G P E c H (x s) Q := by
  by_cases q : p
  · rw [if_pos q] at h; exact ⟨q, h⟩
  · rw [if_neg q] at h; exact h.elim

def rAddA (K : PySem.W.Frag) : R2 := fun x y H Q => rI0 (fun i j => .int (i + j)) x y H Q ∨ (∃ i j, x = .str i ∧ y = .str j ∧ i.length + j.length ≤ sizeLine ∧ Q (.str (i ++ j)) H) ∨ rCatL K x y H Q
theorem op_addA : OpR X (binaryOp .Add) (rAddA X.K) := op_add.or (op_add_str.or op_catL)
theorem h_add : Op2 X G (rAddA X.K) (P0 X G) addD := by
  intro c H x y v w E Q o tx ty p
  unfold addD at p
  split at p
  · cases tx.int; cases ty.int
    exact .inl ⟨_, _, rfl, rfl, p.here o (fun _ _ h => h) .int⟩
  · cases tx.str; cases ty.str
    obtain ⟨hz, p⟩ := post_if p
    exact .inr (.inl ⟨_, _, rfl, rfl, sz hz, p.here o (fun _ _ h => h) .str⟩)
  · obtain ⟨a, vs, rfl, ha, la⟩ := tx.lst o
    obtain ⟨b, ws, rfl, hb, lb⟩ := ty.lst o
    obtain ⟨hz, p⟩ := post_if p
    exact .inr (.inr ⟨a, b, vs, ws, rfl, rfl, ha, hb, by rw [← la.length, ← lb.length]; exact sz hz, fun q hq => p.newDen o hq ⟨_, upd_same, la.app lb⟩⟩)
  · exact p.elim
theorem h_cat : Op2 X G (rCatL X.K) (fun _ H => POwn X.K G H) catD := by
  intro c H x y v w E Q o tx ty p
  unfold catD at p
  split at p
  · obtain ⟨a, vs, rfl, ha, la⟩ := tx.lst o
    obtain ⟨b, ws, rfl, hb, lb⟩ := ty.lst o
    obtain ⟨hz, p⟩ := post_if p
    exact ⟨a, b, vs, ws, rfl, rfl, ha, hb, by rw [← la.length, ← lb.length]; exact sz hz, fun q hq => p.newOwn o hq ⟨_, upd_same, la.app lb⟩⟩
  · exact p.elim
theorem h_sub : Op2 X G (rI0 fun i j => .int (i - j)) (P0 X G) subD := by
  intro c H x y v w E Q o tx ty p
  unfold subD at p
  split at p
  · cases tx.int; cases ty.int
    exact ⟨_, _, rfl, rfl, p.here o (fun _ _ h => h) .int⟩
  · exact p.elim
theorem h_mul : Op2 X G (rI CMulW fun i j => .int (i * j)) (P0 X G) mulD := by
  intro c H x y v w E Q o tx ty p
  unfold mulD at p
  split at p
  · cases tx.int; cases ty.int
    obtain ⟨hz, p⟩ := post_if p
    exact ⟨_, _, rfl, rfl, hz, p.here o (fun _ _ h => h) .int⟩
  · exact p.elim
def CFd (i j : Int) : Prop := j ≠ 0 ∧ j.natAbs.log2 < 9000
theorem op_fdivA : OpR X (binaryOp .FloorDiv) (rI CFd fun i j => .int (i.fdiv j)) := opI fun i j _ _ _ _ _ hc q => floordiv_int hc.1 q (.inl (PyProof.noPylong_of_log2 hc.2))
theorem h_fdiv : Op2 X G (rI CFd fun i j => .int (i.fdiv j)) (P0 X G) fdivD := by
  intro c H x y v w E Q o tx ty p
  unfold fdivD at p
  split at p
  · cases tx.int; cases ty.int
    obtain ⟨hz, p⟩ := post_if p
    exact ⟨_, _, rfl, rfl, hz, p.here o (fun _ _ h => h) .int⟩
  · exact p.elim
theorem h_mod : Op2 X G (rI (fun _ j => j ≠ 0) fun i j => .int (i.fmod j)) (P0 X G) modD := by
  intro c H x y v w E Q o tx ty p
  unfold modD at p
  split at p
  · cases tx.int; cases ty.int
    obtain ⟨hz, p⟩ := post_if p
    exact ⟨_, _, rfl, rfl, hz, p.here o (fun _ _ h => h) .int⟩
  · exact p.elim
theorem h_pow : Op2 X G (rI CPow fun i j => .int (i ^ j.toNat)) (P0 X G) powD := by
  intro c H x y v w E Q o tx ty p
  unfold powD at p
  split at p
  · cases tx.int; cases ty.int
    obtain ⟨hz, p⟩ := post_if p
    exact ⟨_, _, rfl, rfl, hz, p.here o (fun _ _ h => h) .int⟩
  · exact p.elim

def rOrd (f : Int → Int → Bool) (g : Str → Str → Bool) : R2 := fun x y H Q => rI0 (fun i j => .bl (f i j)) x y H Q ∨ ∃ i j, x = .str i ∧ y = .str j ∧ Q (.bl (g i j)) H
theorem op_ltA : OpR X (compareOp .Lt) (rOrd (fun i j => decide (i < j)) fun a b => decide (a.cps.toList < b.cps.toList)) := op_lt.or op_lt_str
theorem op_leA : OpR X (compareOp .LtE) (rOrd (fun i j => decide (i ≤ j)) fun a b => !decide (b.cps.toList < a.cps.toList)) := op_le.or op_le_str
theorem op_gtA : OpR X (compareOp .Gt) (rOrd (fun i j => decide (j < i)) fun a b => decide (b.cps.toList < a.cps.toList)) := op_gt.or op_gt_str
theorem op_geA : OpR X (compareOp .GtE) (rOrd (fun i j => decide (j ≤ i)) fun a b => !decide (a.cps.toList < b.cps.toList)) := op_ge.or op_ge_str
theorem h_lt : Op2 X G (rOrd (fun i j => decide (i < j)) fun a b => decide (a.cps.toList < b.cps.toList)) (P0 X G) ltD := by
  intro c H x y v w E Q o tx ty p
  unfold ltD at p
  split at p
  · cases tx.int; cases ty.int; exact .inl ⟨_, _, rfl, rfl, p.here o (fun _ _ h => h) .bl⟩
  · cases tx.str; cases ty.str; exact .inr ⟨_, _, rfl, rfl, p.here o (fun _ _ h => h) .bl⟩
  · exact p.elim
theorem h_le : Op2 X G (rOrd (fun i j => decide (i ≤ j)) fun a b => !decide (b.cps.toList < a.cps.toList)) (P0 X G) leD := by
  intro c H x y v w E Q o tx ty p
  unfold leD at p
  split at p
  · cases tx.int; cases ty.int; exact .inl ⟨_, _, rfl, rfl, p.here o (fun _ _ h => h) .bl⟩
  · cases tx.str; cases ty.str; exact .inr ⟨_, _, rfl, rfl, p.here o (fun _ _ h => h) .bl⟩
  · exact p.elim
theorem h_gt : Op2 X G (rOrd (fun i j => decide (j < i)) fun a b => decide (b.cps.toList < a.cps.toList)) (P0 X G) gtD := by
  intro c H x y v w E Q o tx ty p
  unfold gtD at p
  split at p
  · cases tx.int; cases ty.int; exact .inl ⟨_, _, rfl, rfl, p.here o (fun _ _ h => h) .bl⟩
  · cases tx.str; cases ty.str; exact .inr ⟨_, _, rfl, rfl, p.here o (fun _ _ h => h) .bl⟩
  · exact p.elim
theorem h_ge : Op2 X G (rOrd (fun i j => decide (j ≤ i)) fun a b => !decide (a.cps.toList < b.cps.toList)) (P0 X G) geD := by
  intro c H x y v w E Q o tx ty p
  unfold geD at p
  split at p
  · cases tx.int; cases ty.int; exact .inl ⟨_, _, rfl, rfl, p.here o (fun _ _ h => h) .bl⟩
  · cases tx.str; cases ty.str; exact .inr ⟨_, _, rfl, rfl, p.here o (fun _ _ h => h) .bl⟩
  · exact p.elim

theorem py_ok : ∀ (n : Nat) (d : D) (p : PyData), D.py n d = some p → p.canLay0 = true ∧ p.depth ≤ n
  | n, .non, p, h => by cases n <;> (cases h; exact ⟨by simp [PyData.canLay0], by simp [PyData.depth]⟩)
  | n, .bl b, p, h => by cases n <;> (cases h; exact ⟨by simp [PyData.canLay0], by simp [PyData.depth]⟩)
  | n, .int b, p, h => by cases n <;> (cases h; exact ⟨by simp [PyData.canLay0], by simp [PyData.depth]⟩)
  | n, .str x, p, h => by
    have h' : (if PyData.strOk x = true then some (PyData.str x) else none) = some p := by cases n <;> exact h
    split at h'
    · rename_i hx; cases h'; exact ⟨by simp [PyData.canLay0, hx], by simp [PyData.depth]⟩
    · cases h'
  | 0, .lst xs, p, h | 0, .tup xs, p, h | 0, .dic xs, p, h | 0, .ins _ xs, p, h | 0, .cls xs, p, h | 0, .ty xs, p, h | 0, .obj xs, p, h => by cases h
  | n + 1, .dic xs, p, h | n + 1, .ins _ xs, p, h | n + 1, .cls xs, p, h | n + 1, .ty xs, p, h | n + 1, .obj xs, p, h => by cases h
  | n + 1, .lst xs, p, h => by
    have h : (xs.mapM (D.py n)).map PyData.list = some p := h
    obtain ⟨ps, h1, rfl⟩ := Option.map_eq_some_iff.mp h
    have key : ∀ (xs : List D) (ps : List PyData), xs.mapM (D.py n) = some ps → PyData.canLayAll0 ps = true ∧ PyData.depthAll ps ≤ n := by
      intro xs
      induction xs with
      | nil => intro ps h; cases h; exact ⟨by simp [PyData.canLayAll0], by simp [PyData.depthAll]⟩
      | cons x r ih =>
        intro ps h
        rw [List.mapM_cons] at h
        obtain ⟨q, h2, h3⟩ := Option.bind_eq_some_iff.mp h
        obtain ⟨qs, h4, h5⟩ := Option.bind_eq_some_iff.mp h3
        cases h5
        have a := py_ok n x q h2
        have b := ih qs h4
        exact ⟨by simp [PyData.canLayAll0, a.1, b.1], by simp only [PyData.depthAll]; omega⟩
    have := key xs ps h1
    exact ⟨by simp [PyData.canLay0, this.1], by simp only [PyData.depth]; omega⟩
  | n + 1, .tup xs, p, h => by
    have h : (xs.mapM (D.py n)).map PyData.tuple = some p := h
    obtain ⟨ps, h1, rfl⟩ := Option.map_eq_some_iff.mp h
    have key : ∀ (xs : List D) (ps : List PyData), xs.mapM (D.py n) = some ps → PyData.canLayAll0 ps = true ∧ PyData.depthAll ps ≤ n := by
      intro xs
      induction xs with
      | nil => intro ps h; cases h; exact ⟨by simp [PyData.canLayAll0], by simp [PyData.depthAll]⟩
      | cons x r ih =>
        intro ps h
        rw [List.mapM_cons] at h
        obtain ⟨q, h2, h3⟩ := Option.bind_eq_some_iff.mp h
        obtain ⟨qs, h4, h5⟩ := Option.bind_eq_some_iff.mp h3
        cases h5
        have a := py_ok n x q h2
        have b := ih qs h4
        exact ⟨by simp [PyData.canLayAll0, a.1, b.1], by simp only [PyData.depthAll]; omega⟩
    have := key xs ps h1
    exact ⟨by simp [PyData.canLay0, this.1], by simp only [PyData.depth]; omega⟩
theorem py_shaped {d : D} {p : PyData} (h : D.py 8 d = some p) : SeqAt.shaped p = true := by
  obtain ⟨a, b⟩ := py_ok 8 d p h
  unfold SeqAt.shaped
  rw [a, decide_eq_true (show p.depth ≤ 64 by omega)]; rfl

theorem py_dp {K : PySem.W.Frag} {G : ClsAt} {As : List Addr} {F H : Hp} (le : LeF F H) : ∀ (n : Nat) (d : D) (p : PyData) (v : V), D.py n d = some p → Den K G As F d v → Dp K H v p
  | n, .non, p, v, h, t => by cases t; cases n <;> (cases h; exact .non)
  | n, .bl b, p, v, h, t => by cases t; cases n <;> (cases h; exact .bl b)
  | n, .int b, p, v, h, t => by cases t; cases n <;> (cases h; exact .int b)
  | n, .str x, p, v, h, t => by
    have h' : (if PyData.strOk x = true then some (PyData.str x) else none) = some p := by cases n <;> exact h
    split at h'
    · cases h'; cases t; exact .str x
    · cases h'
  | 0, .lst xs, p, v, h, t | 0, .tup xs, p, v, h, t | 0, .dic xs, p, v, h, t | 0, .ins _ xs, p, v, h, t | 0, .cls xs, p, v, h, t | 0, .ty xs, p, v, h, t | 0, .obj xs, p, v, h, t => by cases h
  | n + 1, .dic xs, p, v, h, t | n + 1, .ins _ xs, p, v, h, t | n + 1, .cls xs, p, v, h, t | n + 1, .ty xs, p, v, h, t | n + 1, .obj xs, p, v, h, t => by cases h
  | n + 1, .lst xs, p, v, h, t => by
    have h : (xs.mapM (D.py n)).map PyData.list = some p := h
    obtain ⟨ps, h1, rfl⟩ := Option.map_eq_some_iff.mp h
    have key : ∀ (xs : List D) (ps : List PyData) (vs : List V), xs.mapM (D.py n) = some ps → DenL K G As F xs vs → DpAll K H vs ps := by
      intro xs
      induction xs with
      | nil => intro ps vs h l; cases h; cases l; exact .nil
      | cons x r ih =>
        intro ps vs h l
        rw [List.mapM_cons] at h
        obtain ⟨q, h2, h3⟩ := Option.bind_eq_some_iff.mp h
        obtain ⟨qs, h4, h5⟩ := Option.bind_eq_some_iff.mp h3
        cases h5
        cases l with
        | cons t l => exact .cons (py_dp le n x q _ h2 t) (ih qs _ h4 l)
    cases t with
    | lst hs l => exact .lst (le.lst hs) (key xs ps _ h1 l)
  | n + 1, .tup xs, p, v, h, t => by
    have h : (xs.mapM (D.py n)).map PyData.tuple = some p := h
    obtain ⟨ps, h1, rfl⟩ := Option.map_eq_some_iff.mp h
    have key : ∀ (xs : List D) (ps : List PyData) (vs : List V), xs.mapM (D.py n) = some ps → DenL K G As F xs vs → DpAll K H vs ps := by
      intro xs
      induction xs with
      | nil => intro ps vs h l; cases h; cases l; exact .nil
      | cons x r ih =>
        intro ps vs h l
        rw [List.mapM_cons] at h
        obtain ⟨q, h2, h3⟩ := Option.bind_eq_some_iff.mp h
        obtain ⟨qs, h4, h5⟩ := Option.bind_eq_some_iff.mp h3
        cases h5
        cases l with
        | cons t l => exact .cons (py_dp le n x q _ h2 t) (ih qs _ h4 l)
    cases t with
    | tup hs l => exact .tup (le.tup hs) (key xs ps _ h1 l)
theorem py_dpT {K : PySem.W.Frag} {G : ClsAt} {c : Cf} {H : Hp} {d : D} {p : PyData} {v : V} (o : CfOk K G c H) (h : D.py 8 d = some p) (t : DenT K G c H d v) : Dp K H v p := by
  rcases t with t | ⟨a, rfl, n, f, w⟩
  · exact py_dp o.le 8 d p v h t
  · cases d with
    | lst xs =>
      obtain ⟨vs, h1, l⟩ := w
      have h : (xs.mapM (D.py 7)).map PyData.list = some p := h
      obtain ⟨ps, h2, rfl⟩ := Option.map_eq_some_iff.mp h
      have key : ∀ (xs : List D) (ps : List PyData) (vs : List V), xs.mapM (D.py 7) = some ps → DenL K G c.As c.F xs vs → DpAll K H vs ps := by
        intro xs
        induction xs with
        | nil => intro ps vs h l; cases h; cases l; exact .nil
        | cons x r ih =>
          intro ps vs h l
          rw [List.mapM_cons] at h
          obtain ⟨q, h2, h3⟩ := Option.bind_eq_some_iff.mp h
          obtain ⟨qs, h4, h5⟩ := Option.bind_eq_some_iff.mp h3
          cases h5
          cases l with
          | cons t l => exact .cons (py_dp o.le 7 x q _ h2 t) (ih qs _ h4 l)
      exact .lst (SqL.of h1) (key xs ps vs h2 l)
    | dic _ => cases h
    | ins _ _ => cases h
    | _ => exact w.elim
def rEqA (K : PySem.W.Frag) : R2 := fun x y H Q => rEq x y H Q ∨ rEqD K x y H Q
def rNeA (K : PySem.W.Frag) : R2 := fun x y H Q => rNe x y H Q ∨ rNeD K x y H Q
theorem op_eqA (hu : X.A.units + 64 < cLine) : OpR X (compareOp .Eq) (rEqA X.K) := op_eq.or (op_eqD hu)
theorem op_neA (hu : X.A.units + 64 < cLine) : OpR X (compareOp .NotEq) (rNeA X.K) := op_ne.or (op_neD hu)
theorem h_eq : Op2 X G (rEqA X.K) (P0 X G) eqD := by
  intro c H x y v w E Q o tx ty p
  unfold eqD eqB at p
  split at p
  · cases tx.str; cases ty.str
    refine .inl ⟨rfl, ?_⟩
    have e : ∀ a b : Str, decide (V.str a = V.str b) = decide (a = b) := fun a b => by rw [dec_str, Bool.eq_iff_iff]; simp
    rw [e]
    exact p.here o (fun _ _ h => h) .bl
  · split at p
    · rename_i h1 h2
      exact .inr ⟨_, _, py_dpT o h1 tx, py_dpT o h2 ty, py_shaped h1, py_shaped h2, p.here o (fun _ _ h => h) .bl⟩
    · exact p.elim
theorem h_ne : Op2 X G (rNeA X.K) (P0 X G) neD := by
  intro c H x y v w E Q o tx ty p
  unfold neD eqB at p
  split at p
  · cases tx.str; cases ty.str
    refine .inl ⟨rfl, ?_⟩
    have e : ∀ a b : Str, decide (V.str a = V.str b) = decide (a = b) := fun a b => by rw [dec_str, Bool.eq_iff_iff]; simp
    rw [e]
    exact p.here o (fun _ _ h => h) .bl
  · split at p
    · rename_i h1 h2
      exact .inr ⟨_, _, py_dpT o h1 tx, py_dpT o h2 ty, py_shaped h1, py_shaped h2, p.here o (fun _ _ h => h) .bl⟩
    · exact p.elim
end
end PV
end

section
namespace PV
open PySem PySem.Spec L2
open PyProof.Rows hiding St

section
variable {X : Cx} {G : ClsAt} {W : WX}
/-! in, not in -/
def rInDic : R2 := fun x y H Q => ∃ a o, y = .ref a ∧ DGet H a x o ∧ Q (.bl o.isSome) H
def rNotInDic : R2 := fun x y H Q => ∃ a o, y = .ref a ∧ DGet H a x o ∧ Q (.bl (!o.isSome)) H
theorem op_in_dic (hu : X.A.units + 1 < cLine) : OpR X (compareOp .In) rInDic := by
  intro pins s σ H x y v u Q I rx ry h
  obtain ⟨a, o, rfl, g, q⟩ := h
  cases ry
  exact d_in hu I g rx fun s' I' => ⟨.bl _, H, I', rfl, q⟩
theorem op_notin_dic (hu : X.A.units + 1 < cLine) : OpR X (compareOp .NotIn) rNotInDic := by
  intro pins s σ H x y v u Q I rx ry h
  obtain ⟨a, o, rfl, g, q⟩ := h
  cases ry
  exact d_notIn hu I g rx fun s' I' => ⟨.bl _, H, I', rfl, q⟩
def rInA (K : PySem.W.Frag) : R2 := fun x y H Q => (∃ (c : Nat) (z : Str), x = .str ⟨#[c]⟩ ∧ y = .str z ∧ Q (.bl (decide (c ∈ z.cps.toList))) H) ∨ rIn K false x y H Q ∨ rInDic x y H Q
def rNotInA (K : PySem.W.Frag) : R2 := fun x y H Q => (∃ (c : Nat) (z : Str), x = .str ⟨#[c]⟩ ∧ y = .str z ∧ Q (.bl (!decide (c ∈ z.cps.toList))) H) ∨ rIn K true x y H Q ∨ rNotInDic x y H Q
theorem op_inA (hu : X.A.units + 1 < cLine) : OpR X (compareOp .In) (rInA X.K) := op_in_sign.or (op_in_seq.or (op_in_dic hu))
theorem op_notInA (hu : X.A.units + 1 < cLine) : OpR X (compareOp .NotIn) (rNotInA X.K) := op_notIn_sign.or (op_notIn_seq.or (op_notin_dic hu))

section
variable {K : PySem.W.Frag} {c : Cf} {H : Hp}
theorem flat_den {As : List Addr} {F : Hp} {d : D} {v w : V} (h : D.flat d = some w) (t : Den K G As F d v) : v = w ∧ flatV v = true := by
  cases d <;> first | (cases h; cases t; exact ⟨rfl, rfl⟩) | cases h
theorem flat_denT {d : D} {v w : V} (h : D.flat d = some w) (t : DenT K G c H d v) : v = w ∧ flatV v = true := by
  rcases t with t | ⟨a, rfl, n, f, w⟩
  · exact flat_den h t
  · cases d <;> first | exact w.elim | cases h
theorem flat_denL {As : List Addr} {F : Hp} : ∀ {ds : List D} {vs ws : List V}, ds.mapM D.flat = some ws → DenL K G As F ds vs → vs = ws ∧ vs.all flatV = true
  | [], _, _, h, .nil => by cases h; exact ⟨rfl, rfl⟩
  | d :: r, _, _, h, .cons t l => by
    rw [List.mapM_cons] at h
    obtain ⟨q, h2, h3⟩ := Option.bind_eq_some_iff.mp h
    obtain ⟨qs, h4, h5⟩ := Option.bind_eq_some_iff.mp h3
    cases h5
    obtain ⟨rfl, a2⟩ := flat_den h2 t
    obtain ⟨rfl, b2⟩ := flat_denL h4 l
    exact ⟨rfl, by rw [List.all_cons, a2, b2]; rfl⟩
theorem key_denT {d : D} {v : V} {k : Key} (h : D.key d = some k) (t : DenT K G c H d v) : v = kV k := by
  cases d with
  | int i => cases h; rw [t.int]; rfl
  | str i => cases h; rw [t.str]; rfl
  | _ => cases h
theorem key_den {As : List Addr} {F : Hp} {d : D} {v : V} {k : Key} (h : D.key d = some k) (t : Den K G As F d v) : v = kV k := by
  cases d with
  | int i => cases h; cases t; rfl
  | str i => cases h; cases t; rfl
  | _ => cases h
/-- a look-up, in both -/
theorem getK_den {As : List Addr} {F : Hp} {k : Key} : ∀ {ks : List (Key × D)} {ws : List (Key × V)}, DenK K G As F ks ws → (match getK ks k with | some d => ∃ v, valV ws k = some v ∧ Den K G As F d v | none => valV ws k = none)
  | [], _, .nil => rfl
  | (k', d) :: r, (_, v) :: rw_, .cons t l => by
    have ih := getK_den (k := k) l
    by_cases e : k' = k
    · have h1 : getK ((k', d) :: r) k = some d := by unfold getK; rw [List.find?_cons, decide_eq_true (show (k', d).1 = k from e)]; rfl
      rw [h1]
      exact ⟨v, valV_pos (p := (k', v)) e, t⟩
    · have h1 : getK ((k', d) :: r) k = getK r k := by unfold getK; rw [List.find?_cons, decide_eq_false (show ¬ (k', d).1 = k from e)]
      rw [h1, valV_neg (p := (k', v)) e]
      exact ih
theorem getK_some {As : List Addr} {F : Hp} {k : Key} {ks : List (Key × D)} {ws : List (Key × V)} (l : DenK K G As F ks ws) : (valV ws k).isSome = (getK ks k).isSome := by
  have h := getK_den (k := k) l
  cases e : getK ks k with
  | none => rw [e] at h; rw [h]; rfl
  | some d => rw [e] at h; obtain ⟨v, q, _⟩ := h; rw [q]; rfl
end
theorem DGet.r {H : Hp} {a : Addr} {ws : List (Key × V)} {k : Key} (e : Rd H a (.dK ws)) : DGet H a (kV k) (valV ws k) := .inl ⟨ws, k, e, rfl, rfl⟩
theorem one_cp {s : Str} {ch : Nat} (e : s.cps.toList = [ch]) : s = ⟨#[ch]⟩ := by
  obtain ⟨a⟩ := s
  obtain ⟨l⟩ := a
  have e : l = [ch] := e
  rw [e]
theorem h_inB {neg : Bool} {c : Cf} {H : Hp} {x y : D} {v w : V} {E : XK} {Q : VK} (o : CfOk X.K G c H) (tx : DenT X.K G c H x v) (ty : DenT X.K G c H y w) {f : Bool → D} (hf : ∀ b, f b = .bl (if neg then !b else b))
    (p : Post X.K G (PDen X.K G) E c H ((inB x y >>= fun b => (pure (f b) : M D)) c.st) Q) :
    (∃ (ch : Nat) (z : Str), v = .str ⟨#[ch]⟩ ∧ w = .str z ∧ Q (.bl (if neg then !decide (ch ∈ z.cps.toList) else decide (ch ∈ z.cps.toList))) H) ∨ rIn X.K neg v w H Q ∨ (∃ a o, w = .ref a ∧ DGet H a v o ∧ Q (.bl (if neg then !o.isSome else o.isSome)) H) := by
  have fin : ∀ b, Post X.K G (PDen X.K G) E c H ((pure (f b) : M D) c.st) Q → Q (.bl (if neg then !b else b)) H := fun b q => by
    rw [hf] at q
    exact Post.here (a := D.bl _) q o (fun _ _ h => h) .bl
  unfold inB at p
  split at p
  · cases tx.str; cases ty.str
    split at p
    · rename_i ch e
      exact .inl ⟨ch, _, by rw [one_cp e], rfl, fin _ p⟩
    · exact p.elim
  · rename_i ys _
    obtain ⟨a, vs, rfl, ha, la⟩ := ty.lst o
    split at p
    · rename_i h1 h2
      obtain ⟨rfl, fx⟩ := flat_denT h1 tx
      obtain ⟨rfl, fs⟩ := flat_denL h2 la
      refine .inr (.inl ⟨a, vs, rfl, .inl ha, fx, fs, ?_⟩)
      have q := fin _ p
      cases neg <;> exact q
    · exact p.elim
  · rename_i ys _
    obtain ⟨a, vs, rfl, ha, la⟩ := ty.tup o
    split at p
    · rename_i h1 h2
      obtain ⟨rfl, fx⟩ := flat_denT h1 tx
      obtain ⟨rfl, fs⟩ := flat_denL h2 la
      refine .inr (.inl ⟨a, vs, rfl, .inr ha, fx, fs, ?_⟩)
      have q := fin _ p
      cases neg <;> exact q
    · exact p.elim
  · obtain ⟨a, ws, rfl, ha, la⟩ := ty.dic o
    split at p
    · rename_i k h1
      rw [key_denT h1 tx]
      refine .inr (.inr ⟨a, _, rfl, DGet.r ha, ?_⟩)
      rw [getK_some la]
      exact fin _ p
    · exact p.elim
  · exact p.elim
theorem h_in : Op2 X G (rInA X.K) (P0 X G) inD := by
  intro c H x y v w E Q o tx ty p
  rcases h_inB (neg := false) o tx ty (fun b => rfl) p with h | h | h
  · exact .inl h
  · exact .inr (.inl h)
  · exact .inr (.inr h)
theorem h_notIn : Op2 X G (rNotInA X.K) (P0 X G) notInD := by
  intro c H x y v w E Q o tx ty p
  rcases h_inB (neg := true) o tx ty (fun b => rfl) p with h | h | h
  · exact .inl h
  · exact .inr (.inl h)
  · exact .inr (.inr h)

/-! is None -/
theorem isNon_of {K : PySem.W.Frag} {c : Cf} {H : Hp} {d : D} {v : V} (t : DenT K G c H d v) : decide (v = V.non) = isNonB d := by
  rcases t with t | ⟨a, rfl, n, f, w⟩
  · cases t <;> first | exact decide_eq_false (fun z => nomatch z) | exact decide_eq_true rfl
  · cases d <;> first | exact w.elim | exact decide_eq_false (fun z => nomatch z)
theorem ve_isN {a : Expr} {f : Env → M D} {j : Nat} {pos pos' : Pos} (h : VR G X W a f) : VE G X W (.Compare a [.Is] [.Constant .none j pos'] pos) (fun ρ => do let x ← f ρ; pure (.bl (isNonB x))) :=
  PE.imp (pe_cmp (pc_isN h)) fun σ H Q ⟨H0, ρ, c, o, sl, p⟩ => tR_step rfl o sl p fun x v c1 H1 x1 o1 sl1 t1 p1 => by rw [isNon_of t1]; exact p1.here o1 (fun _ _ h => h) .bl
theorem ve_notN {a : Expr} {f : Env → M D} {j : Nat} {pos pos' : Pos} (h : VR G X W a f) : VE G X W (.Compare a [.IsNot] [.Constant .none j pos'] pos) (fun ρ => do let x ← f ρ; pure (.bl !(isNonB x))) :=
  PE.imp (pe_cmp (pc_notN h)) fun σ H Q ⟨H0, ρ, c, o, sl, p⟩ => tR_step rfl o sl p fun x v c1 H1 x1 o1 sl1 t1 p1 => by rw [isNon_of t1]; exact p1.here o1 (fun _ _ h => h) .bl

/-! tests -/
def truD : D → M Bool
  | .non => pure false
  | .bl b => pure b
  | .int i => pure (i != 0)
  | .str s => if s.length ≤ SIZE then pure (s.length != 0) else no
  | .lst xs => pure !xs.isEmpty
  | .tup xs => pure !xs.isEmpty
  | _ => no
theorem h_tru {c : Cf} {H : Hp} {x : D} {v : V} {E : XK} {Q : Bool → Hp → Prop} (o : CfOk X.K G c H) (t : DenT X.K G c H x v) (p : Post X.K G PBl E c H (truD x c.st) Q) : ∃ k, TruV X.K v H k ∧ Q k H := by
  have em : ∀ {ds : List D} {vs : List V} {As : List Addr} {F : Hp}, DenL X.K G As F ds vs → (!ds.isEmpty) = !vs.isEmpty := fun l => by cases l <;> rfl
  unfold truD at p
  split at p
  · rw [t.non]; exact ⟨false, rfl, p.here o (fun _ _ h => h) rfl⟩
  · rw [t.bl]; exact ⟨_, rfl, p.here o (fun _ _ h => h) rfl⟩
  · rw [t.int]; exact ⟨_, rfl, p.here o (fun _ _ h => h) rfl⟩
  · rename_i s
    rw [t.str]
    obtain ⟨hz, p⟩ := post_if p
    refine ⟨_, ⟨sz hz, rfl⟩, ?_⟩
    have e : ((s.length : Int) != 0) = (s.length != 0) := by rw [Bool.eq_iff_iff]; simp [bne_iff_ne]
    rw [e]
    exact p.here o (fun _ _ h => h) rfl
  · obtain ⟨a, vs, rfl, ha, la⟩ := t.lst o
    exact ⟨_, .inl ⟨vs, ha, rfl⟩, by rw [← em la]; exact p.here o (fun _ _ h => h) rfl⟩
  · obtain ⟨a, vs, rfl, ha, la⟩ := t.tup o
    exact ⟨_, .inr (.inl ⟨vs, ha, rfl⟩), by rw [← em la]; exact p.here o (fun _ _ h => h) rfl⟩
  · exact p.elim
/-- any expression as a test -/
theorem vt_of {a : Expr} {f : Env → M D} (h : VR G X W a f) (he : ∀ whole, isTrue a X.env whole = (do let v ← whole; standAt a.pos; holding [v] (truthy v)) := by intro _; rfl) : VT G X W a (fun ρ => do let x ← f ρ; truD x) :=
  PT.imp (pt_truth h he) fun σ H Q ⟨H0, ρ, c, o, sl, p⟩ => tR_step rfl o sl p fun x v c1 H1 x1 o1 sl1 t1 p1 => h_tru o1 t1 p1
def asB : D → M Bool
  | .bl b => pure b
  | _ => no
theorem vt_cmp {a b : Expr} {f g : Env → M D} {op : CmpOp} {r : R2} {F2 : D → D → M D} {pos : Pos} (ho : OpR X (compareOp op) r) (h2 : Op2 X G r (P0 X G) F2) (ha : VR G X W a f) (hb : VR G X W b g) (hm : behindInMarks op b = false := by first | exact nomark _ | rfl) :
    VT G X W (.Compare a [op] [b] pos) (fun ρ => do let x ← f ρ; let y ← g ρ; let z ← F2 x y; asB z) :=
  PT.imp (pt_cmpR ho ha hb hm) fun σ H Q ⟨H0, ρ, c, o, sl, p⟩ => tR_step rfl o sl p fun x v c1 H1 x1 o1 sl1 t1 p1 => tR_step rfl o1 sl1 p1 fun y w c2 H2 x2 o2 sl2 t2 p2 => h2 _ _ _ _ _ _ _ _ o2 (t1.ext x2) t2
    ((Post.bind (P := PDen X.K G) (f := asB) p2).imp (fun _ _ _ _ _ _ p => p) (fun v H' ⟨d, c', x, o', q, r⟩ => by
      cases d with
      | bl b => cases q; exact ⟨b, rfl, r.here o' (fun _ _ h => h) rfl⟩
      | _ => exact r.elim) fun _ _ _ z => z)
theorem ve_cmp {a b : Expr} {f g : Env → M D} {op : CmpOp} {r : R2} {F2 : D → D → M D} {pos : Pos} (ho : OpR X (compareOp op) r) (h2 : Op2 X G r (P0 X G) F2) (ha : VR G X W a f) (hb : VR G X W b g) (hm : behindInMarks op b = false := by first | exact nomark _ | rfl) :
    VE G X W (.Compare a [op] [b] pos) (fun ρ => do let x ← f ρ; let y ← g ρ; F2 x y) :=
  PE.imp (pe_cmpR ho ha hb hm) fun σ H Q ⟨H0, ρ, c, o, sl, p⟩ => tR_step rfl o sl p fun x v c1 H1 x1 o1 sl1 t1 p1 => tR_step rfl o1 sl1 p1 fun y w c2 H2 x2 o2 sl2 t2 p2 => h2 _ _ _ _ _ _ _ _ o2 (t1.ext x2) t2 p2
/-- a < b < c -/
theorem vt_chain {a b d : Expr} {f g h : Env → M D} {op op' : CmpOp} {r r' : R2} {F2 F2' : D → D → M D} {pos : Pos} (ho : OpR X (compareOp op) r) (h2 : Op2 X G r (P0 X G) F2) (ho' : OpR X (compareOp op') r') (h2' : Op2 X G r' (P0 X G) F2') (ha : VR G X W a f) (hb : VR G X W b g) (hc : VR G X W d h) (hm : lastMarks [op, op'] [b, d] = false := by rfl) :
    VT G X W (.Compare a [op, op'] [b, d] pos) (fun ρ => do let x ← f ρ; let y ← g ρ; let z ← F2 x y; let k ← asB z; if k then do let u ← h ρ; let z2 ← F2' y u; asB z2 else pure false) :=
  PT.imp (pt_chain ho ho' ha hb hc hm) fun σ H Q ⟨H0, ρ, c, o, sl, p⟩ => tR_step rfl o sl p fun x v c1 H1 x1 o1 sl1 t1 p1 => tR_step rfl o1 sl1 p1 fun y w c2 H2 x2 o2 sl2 t2 p2 => h2 _ _ _ _ _ _ _ _ o2 (t1.ext x2) t2
    ((Post.bind (P := PDen X.K G) p2).imp (fun _ _ _ _ _ _ p => p) (fun v3 H3 ⟨d3, c3, x3, o3, q, r⟩ => by
      cases d3 with
      | bl k =>
        cases q
        refine ⟨k, rfl, ?_⟩
        cases k with
        | false => exact iteF ⟨false, rfl, Post.here (a := false) r o3 (fun _ _ h => h) rfl⟩
        | true =>
          refine iteT ?_
          exact tR_step rfl o3 (sl2.ext x3) r fun u w2 c4 H4 x4 o4 sl4 t4 p4 => h2' _ _ _ _ _ _ _ _ o4 (t2.ext (x3.trans x4)) t4
            ((Post.bind (P := PDen X.K G) (f := asB) p4).imp (fun _ _ _ _ _ _ p => p) (fun v5 H5 ⟨d5, c5, x5, o5, q5, r5⟩ => by
              cases d5 with
              | bl b => cases q5; exact ⟨b, rfl, r5.here o5 (fun _ _ h => h) rfl⟩
              | _ => exact r5.elim) fun _ _ _ z => z)
      | _ => exact r.elim) fun _ _ _ z => z)
theorem vt_not {a : Expr} {f : Env → M Bool} {pos : Pos} (h : VT G X W a f) : VT G X W (.UnaryOp .Not a pos) (fun ρ => do let b ← f ρ; pure !b) :=
  PT.imp (pt_not h) fun σ H Q ⟨H0, ρ, c, o, sl, p⟩ => tT_step rfl o sl p fun b c1 H1 x1 o1 sl1 p1 => p1.here o1 (fun _ _ h => h) rfl
/-- a chain of tests, whatever its whole is -/
abbrev VW (G : ClsAt) (X : Cx) (W : WX) (e : Expr) (f : Env → M Bool) : Prop := PW X e (tT X.K G W f)
theorem PW.imp {e : Expr} {t t' : TT} (h : PW X e t) (i : ∀ σ H Q, t' σ H Q → t σ H Q) : PW X e t' := ⟨fun w pins s σ H Q I q => h.run w pins s σ H Q I (i σ H Q q)⟩
theorem vw_and1 {a : Expr} {f : Env → M Bool} {pos : Pos} (h : VT G X W a f) : VW G X W (.BoolOp .And [a] pos) f := pw_and1 h
theorem vw_or1 {a : Expr} {f : Env → M Bool} {pos : Pos} (h : VT G X W a f) : VW G X W (.BoolOp .Or [a] pos) f := pw_or1 h
theorem vw_and {a b : Expr} {r : List Expr} {f g : Env → M Bool} {pos : Pos} (ha : VT G X W a f) (hb : VW G X W (.BoolOp .And (b :: r) pos) g) : VW G X W (.BoolOp .And (a :: b :: r) pos) (fun ρ => do let x ← f ρ; if x then g ρ else pure false) :=
  PW.imp (pw_and ha hb) fun σ H Q ⟨H0, ρ, c, o, sl, p⟩ => tT_step rfl o sl p fun b c1 H1 x1 o1 sl1 p1 => by
    cases b with
    | true => exact iteT ⟨H0, ρ, c1, o1, sl1, p1⟩
    | false => exact iteF (Post.here (a := false) p1 o1 (fun _ _ h => h) rfl)
theorem vw_or {a b : Expr} {r : List Expr} {f g : Env → M Bool} {pos : Pos} (ha : VT G X W a f) (hb : VW G X W (.BoolOp .Or (b :: r) pos) g) : VW G X W (.BoolOp .Or (a :: b :: r) pos) (fun ρ => do let x ← f ρ; if x then pure true else g ρ) :=
  PW.imp (pw_or ha hb) fun σ H Q ⟨H0, ρ, c, o, sl, p⟩ => tT_step rfl o sl p fun b c1 H1 x1 o1 sl1 p1 => by
    cases b with
    | true => exact iteT (Post.here (a := true) p1 o1 (fun _ _ h => h) rfl)
    | false => exact iteF ⟨H0, ρ, c1, o1, sl1, p1⟩
theorem vt_w {e : Expr} {f : Env → M Bool} (h : VW G X W e f) : VT G X W e f := PW.pt h
/-! .. as values: what is not last is a bool -/
theorem ve_one {a : Expr} {f : Env → M D} {op : BoolOp} {pos : Pos} (h : VE G X W a f) : VE G X W (.BoolOp op [a] pos) f := pe_one h
theorem ve_and {a b : Expr} {r : List Expr} {f g : Env → M D} {pos : Pos} (ha : VR G X W a f) (hb : VE G X W (.BoolOp .And (b :: r) pos) g) : VE G X W (.BoolOp .And (a :: b :: r) pos) (fun ρ => do let x ← f ρ; let k ← asB x; if k then g ρ else pure (.bl false)) :=
  PE.imp (pe_and ha hb) fun σ H Q ⟨H0, ρ, c, o, sl, p⟩ => tR_step rfl o sl p fun x v c1 H1 x1 o1 sl1 t1 p1 => by
    cases x with
    | bl k =>
      rw [t1.bl]
      refine ⟨k, rfl, ?_⟩
      cases k with
      | true => exact iteT ⟨H0, ρ, c1, o1, sl1, p1⟩
      | false => exact iteF (Post.here (a := D.bl false) p1 o1 (fun _ _ h => h) .bl)
    | _ => exact p1.elim
theorem ve_or {a b : Expr} {r : List Expr} {f g : Env → M D} {pos : Pos} (ha : VR G X W a f) (hb : VE G X W (.BoolOp .Or (b :: r) pos) g) : VE G X W (.BoolOp .Or (a :: b :: r) pos) (fun ρ => do let x ← f ρ; let k ← asB x; if k then pure (.bl true) else g ρ) :=
  PE.imp (pe_or ha hb) fun σ H Q ⟨H0, ρ, c, o, sl, p⟩ => tR_step rfl o sl p fun x v c1 H1 x1 o1 sl1 t1 p1 => by
    cases x with
    | bl k =>
      rw [t1.bl]
      refine ⟨k, rfl, ?_⟩
      cases k with
      | true => exact iteT (Post.here (a := D.bl true) p1 o1 (fun _ _ h => h) .bl)
      | false => exact iteF ⟨H0, ρ, c1, o1, sl1, p1⟩
    | _ => exact p1.elim
def notD : D → M D
  | .bl b => pure (.bl !b)
  | _ => no
theorem ve_not {a : Expr} {f : Env → M D} {pos : Pos} (ha : VR G X W a f) : VE G X W (.UnaryOp .Not a pos) (fun ρ => do let x ← f ρ; notD x) :=
  PE.imp (pe_not ha) fun σ H Q ⟨H0, ρ, c, o, sl, p⟩ => tR_step rfl o sl p fun x v c1 H1 x1 o1 sl1 t1 p1 => by
    cases x with
    | bl k => rw [t1.bl]; exact ⟨k, rfl, p1.here o1 (fun _ _ h => h) .bl⟩
    | _ => exact p1.elim
def negD : D → M D
  | .int i => pure (.int (-i))
  | _ => no
theorem ve_neg {a : Expr} {f : Env → M D} {pos : Pos} (ha : VR G X W a f) : VE G X W (.UnaryOp .USub a pos) (fun ρ => do let x ← f ρ; negD x) :=
  PE.imp (pe_un un_neg ha) fun σ H Q ⟨H0, ρ, c, o, sl, p⟩ => tR_step rfl o sl p fun x v c1 H1 x1 o1 sl1 t1 p1 => by
    cases x with
    | int k => rw [t1.int]; exact ⟨k, rfl, p1.here o1 (fun _ _ h => h) .int⟩
    | _ => exact p1.elim
theorem ve_if {t a b : Expr} {k : Env → M Bool} {f g : Env → M D} {pos : Pos} (ht : VT G X W t k) (ha : VE G X W a f) (hb : VE G X W b g) : VE G X W (.IfExp t a b pos) (fun ρ => do let x ← k ρ; if x then f ρ else g ρ) :=
  PE.imp (pe_ifExp ht ha hb) fun σ H Q ⟨H0, ρ, c, o, sl, p⟩ => tT_step rfl o sl p fun b c1 H1 x1 o1 sl1 p1 => by
    cases b with
    | true => exact iteT ⟨H0, ρ, c1, o1, sl1, p1⟩
    | false => exact iteF ⟨H0, ρ, c1, o1, sl1, p1⟩

/-! arguments, displays -/
theorem va_nil : VA G X W [] (fun _ => pure []) := PA.imp pa_nil fun σ H Q ⟨H0, ρ, c, o, sl, p⟩ => p.here o (fun _ _ h => h) .nil
theorem va_cons {e : Expr} {es : List Expr} {f : Env → M D} {g : Env → M (List D)} (he : VE G X W e f) (hs : VA G X W es g) (hst : starEach (e :: es) X.env = (false, eval e X.env) :: starEach es X.env := by rfl) : VA G X W (e :: es) (fun ρ => do let x ← f ρ; let xs ← g ρ; pure (x :: xs)) :=
  PA.imp (pa_cons he hs hst) fun σ H Q ⟨H0, ρ, c, o, sl, p⟩ => tV_step rfl o sl p fun x v c1 H1 x1 o1 sl1 t1 p1 => tL_step rfl o1 sl1 p1 fun xs vs c2 H2 x2 o2 sl2 t2 p2 => p2.here o2 (fun _ _ h => h) (.cons (t1.mono x2.sub x2.pre) t2)
def lstD (xs : List D) : M D := if xs.length ≤ SIZE then pure (.lst xs) else no
def tupD (xs : List D) : M D := if xs.length ≤ SIZE then pure (.tup xs) else no
theorem vn_lst {es : List Expr} {g : Env → M (List D)} {pos : Pos} (hs : VA G X W es g) : VN G X W (.List es pos) (fun ρ => do let xs ← g ρ; lstD xs) :=
  PE.imp (pe_lst hs) fun σ H Q ⟨H0, ρ, c, o, sl, p⟩ => tL_step rfl o sl p fun xs vs c1 H1 x1 o1 sl1 t1 p1 => by
    obtain ⟨hz, p1⟩ := post_if p1
    refine ⟨by rw [← t1.length]; exact sz hz, fun q hq => ?_⟩
    have p2 := p1.imp (P' := POwn X.K G H1) (fun c' H' d v _ _ ⟨a, e1, e2, e3⟩ => ⟨a, e1, x1.none e2, e3⟩) (fun _ _ q => q) fun _ _ _ q => q
    exact p2.newOwn o1 hq ⟨vs, upd_same, t1⟩
theorem ve_tup {es : List Expr} {g : Env → M (List D)} {k : Nat} {pos : Pos} (hs : VA G X W es g) : VE G X W (.Tuple es k pos) (fun ρ => do let xs ← g ρ; tupD xs) :=
  PE.imp (pe_tup hs) fun σ H Q ⟨H0, ρ, c, o, sl, p⟩ => tL_step rfl o sl p fun xs vs c1 H1 x1 o1 sl1 t1 p1 => by
    obtain ⟨hz, p1⟩ := post_if p1
    exact ⟨by rw [← t1.length]; exact sz hz, fun q hq => p1.newTup o1 hq t1⟩
end
end PV
end

section
namespace PV
open PySem PySem.Spec L2
open PyProof.Rows hiding St

section
variable {X : Cx} {G : ClsAt} {W : WX}
/-! items -/
def rIxD : R2 := fun x y H Q => ∃ a v, x = .ref a ∧ DGet H a y (some v) ∧ Q v H
theorem ix_dic (hu : X.A.units + 1 < cLine) : IxR X rIxD := by
  intro value slice pins s σ H x y v u Q I rx ry h hs
  obtain ⟨a, z, rfl, g, q⟩ := h
  cases rx
  exact tail_any (dict_typeIs I g) PySem.F.slot_dict_getitem.lookup (d_getItem hu I g ry fun w' s3 I3 rw' => ⟨z, H, I3, rw', q⟩) hs
def atM {α : Type} : Option α → M α
  | some a => pure a
  | none => no
def ixD : D → D → M D
  | .lst xs, .int i => atM (atI xs i)
  | .tup xs, .int i => atM (atI xs i)
  | .str z, .int i => if z.length ≤ SIZE then atM ((atI z.cps.toList i).map fun c => .str ⟨#[c]⟩) else no
  | .dic ks, k => match D.key k with
    | some k => atM (getK ks k)
    | none => no
  | .obj o, .int i => fun s => match s[o]? with
    | some (.lst xs) => atM (atI xs i) s
    | _ => .no
  | _, _ => no
theorem atI_den {K : PySem.W.Frag} {As : List Addr} {F : Hp} {ds : List D} {vs : List V} (l : DenL K G As F ds vs) {i : Int} {d : D} (h : atI ds i = some d) : ∃ v, atI vs i = some v ∧ Den K G As F d v := by
  unfold atI at h ⊢
  obtain ⟨j, h1, h2⟩ := Option.bind_eq_some_iff.mp h
  obtain ⟨v, e, t⟩ := l.getD h2
  exact ⟨v, by rw [← l.length, h1]; exact e, t⟩
theorem post_at {K : PySem.W.Frag} {α β : Type} {P : Cf → Hp → α → β → Prop} {E : XK} {c : Cf} {H : Hp} {Q : β → Hp → Prop} {o : Option α} {s : Stt} (h : Post K G P E c H (atM o s) Q) : ∃ a, o = some a ∧ Post K G P E c H (.ok a s) Q := by
  cases o with
  | none => exact h.elim
  | some a => exact ⟨a, rfl, h⟩
theorem CfOk.store {K : PySem.W.Frag} {c : Cf} {H : Hp} (o : CfOk K G c H) {i : Nat} {a : Addr} {d : D} (h : c.As[i]? = some a) (e : c.st[i]? = some d) : OwnAt K G c.As c.F H a d := (o.obj i a d h e).2
def rIxA (K : PySem.W.Frag) : R2 := fun x y H Q => rIx K x y H Q ∨ rIxD x y H Q
theorem ix_any (hu : X.A.units + 1 < cLine) : IxR X (rIxA X.K) := ix_seq.or (ix_dic hu)
theorem h_ix : Op2 X G (rIxA X.K) (P0 X G) ixD := by
  intro c H x y v w E Q o tx ty p
  unfold ixD at p
  split at p
  · obtain ⟨a, vs, rfl, ha, la⟩ := tx.lst o
    rw [ty.int]
    obtain ⟨d, e, p⟩ := post_at p
    obtain ⟨z, e2, t⟩ := atI_den la e
    exact .inl (.inl ⟨a, vs, _, z, rfl, rfl, ha, e2, p.here o (fun _ _ h => h) t⟩)
  · obtain ⟨a, vs, rfl, ha, la⟩ := tx.tup o
    rw [ty.int]
    obtain ⟨d, e, p⟩ := post_at p
    obtain ⟨z, e2, t⟩ := atI_den la e
    exact .inl (.inr (.inl ⟨a, vs, _, z, rfl, rfl, ha, e2, p.here o (fun _ _ h => h) t⟩))
  · rw [tx.str, ty.int]
    obtain ⟨hz, p⟩ := post_if p
    obtain ⟨d, e, p⟩ := post_at p
    obtain ⟨ch, e2, rfl⟩ := Option.map_eq_some_iff.mp e
    exact .inl (.inr (.inr ⟨_, _, ch, rfl, rfl, sz hz, e2, Post.here (a := D.str _) p o (fun _ _ h => h) .str⟩))
  · obtain ⟨a, ws, rfl, ha, la⟩ := tx.dic o
    cases hk : D.key y with
    | none => rw [hk] at p; exact p.elim
    | some k =>
      rw [hk] at p
      obtain ⟨d, e, p⟩ := post_at (s := c.st) p
      have g := getK_den (k := k) la
      rw [e] at g
      obtain ⟨z, e2, t⟩ := g
      refine .inr ⟨a, z, rfl, ?_, p.here o (fun _ _ h => h) t⟩
      rw [key_denT hk ty, ← e2]
      exact DGet.r ha
  · rename_i ob i
    obtain ⟨a, rfl, ea⟩ := tx.obj
    rw [ty.int]
    cases e : c.st[ob]? with
    | none => rw [e] at p; exact p.elim
    | some d =>
      rw [e] at p
      cases d with
      | lst xs =>
        obtain ⟨vs, hv, la⟩ := o.store ea e
        obtain ⟨d, e, p⟩ := post_at (s := c.st) p
        obtain ⟨z, e2, t⟩ := atI_den la e
        exact .inl (.inl ⟨a, vs, _, z, rfl, rfl, SqL.of hv, e2, p.here o (fun _ _ h => h) t⟩)
      | _ => exact p.elim
  · exact p.elim
theorem ve_ix {a b : Expr} {f g : Env → M D} {pos : Pos} (hu : X.A.units + 1 < cLine) (ha : VR G X W a f) (hb : VR G X W b g) (hs : PlainIx b := by exact fun _ _ => rfl) : VE G X W (.Subscript a b pos) (fun ρ => do let x ← f ρ; let y ← g ρ; ixD x y) :=
  PE.imp (pe_ix (ix_any hu) ha hb hs) fun σ H Q ⟨H0, ρ, c, o, sl, p⟩ => tR_step rfl o sl p fun x v c1 H1 x1 o1 sl1 t1 p1 => tR_step rfl o1 sl1 p1 fun y w c2 H2 x2 o2 sl2 t2 p2 => h_ix _ _ _ _ _ _ _ _ o2 (t1.ext x2) t2 p2

/-! slices -/
def tP (K : PySem.W.Frag) (G : ClsAt) (W : WX) (f : Env → M (Option Int)) : TO := fun σ H Q => ∃ H0 ρ c, CfOk K G c H ∧ Slots K G H0 c H ρ σ ∧ Post K G (fun _ _ (d v : Option Int) => d = v) (fun cls dx H' => W cls dx σ H') c H (f ρ c.st) Q
abbrev VP (G : ClsAt) (X : Cx) (W : WX) (e : Option Expr) (f : Env → M (Option Int)) : Prop := PO X e (tP X.K G W f)
theorem PO.imp {e : Option Expr} {t t' : TO} (h : PO X e t) (i : ∀ σ H Q, t' σ H Q → t σ H Q) : PO X e t' := ⟨fun pins s σ H Q I q => h.run pins s σ H Q I (i σ H Q q)⟩
def asI : D → M (Option Int)
  | .int i => pure (some i)
  | _ => no
theorem vp_none : VP G X W none (fun _ => pure none) := PO.imp po_none fun σ H Q ⟨H0, ρ, c, o, sl, p⟩ => Post.here (a := (none : Option Int)) p o (fun _ _ h => h) rfl
theorem vp_some {e : Expr} {f : Env → M D} (h : VR G X W e f) : VP G X W (some e) (fun ρ => do let x ← f ρ; asI x) :=
  PO.imp (po_some h) fun σ H Q ⟨H0, ρ, c, o, sl, p⟩ => tR_step rfl o sl p fun x v c1 H1 x1 o1 sl1 t1 p1 => by
    cases x with
    | int k => rw [t1.int]; exact ⟨k, rfl, Post.here (a := some k) p1 o1 (fun _ _ h => h) rfl⟩
    | _ => exact p1.elim
def cutD (xs : List D) (lo hi : Option Int) : List D := (xs.drop (HT.sIx xs.length 0 lo)).take (HT.sIx xs.length xs.length hi - HT.sIx xs.length 0 lo)
def slD : D → Option Int → Option Int → M D
  | .lst xs, lo, hi => pure (.lst (cutD xs lo hi))
  | .str z, lo, hi => if z.length ≤ SIZE then pure (.str (cutS z lo hi)) else no
  | _, _, _ => no
def slL : D → Option Int → Option Int → M D
  | .lst xs, lo, hi => pure (.lst (cutD xs lo hi))
  | _, _, _ => no
theorem DenL.drop {K : PySem.W.Frag} {As : List Addr} {F : Hp} : ∀ {ds : List D} {vs : List V} (n : Nat), DenL K G As F ds vs → DenL K G As F (ds.drop n) (vs.drop n)
  | _, _, 0, h => h
  | _, _, _ + 1, .nil => .nil
  | _, _, n + 1, .cons _ l => DenL.drop n l
theorem DenL.take {K : PySem.W.Frag} {As : List Addr} {F : Hp} : ∀ {ds : List D} {vs : List V} (n : Nat), DenL K G As F ds vs → DenL K G As F (ds.take n) (vs.take n)
  | _, _, 0, _ => .nil
  | _, _, _ + 1, .nil => .nil
  | _, _, n + 1, .cons h l => .cons h (DenL.take n l)
theorem cut_den {K : PySem.W.Frag} {As : List Addr} {F : Hp} {ds : List D} {vs : List V} (l : DenL K G As F ds vs) (lo hi : Option Int) : DenL K G As F (cutD ds lo hi) (cutV vs lo hi) := by
  unfold cutD cutV
  rw [← l.length]
  exact DenL.take _ (DenL.drop _ l)
def rSlA (K : PySem.W.Frag) : V → Option Int → Option Int → Hp → VK → Prop := fun x lo hi H Q => rSlL K x lo hi H Q ∨ rSlS x lo hi H Q
theorem sl_any : SlR X (rSlA X.K) := by
  intro pins s σ H x v vl vu lo hi sl Q I rx hs pl pu h
  rcases h with h | h
  · exact sl_list pins s σ H x v vl vu lo hi sl Q I rx hs pl pu h
  · exact sl_str pins s σ H x v vl vu lo hi sl Q I rx hs pl pu h
theorem tP_step {σ : L2.St} {H H0 : Hp} {ρ : Env} {c : Cf} {γ δ : Type} {f : M (Option Int)} {fe : Env → M (Option Int)} {k : Option Int → M γ} {P' : Cf → Hp → γ → δ → Prop} {Q' : δ → Hp → Prop} {R : Option Int → Hp → Prop} (e : fe ρ = f) (o : CfOk X.K G c H) (sl : Slots X.K G H0 c H ρ σ)
    (post : Post X.K G P' (fun cls dx H' => W cls dx σ H') c H ((f >>= k) c.st) Q')
    (next : ∀ b c' H', Ext c H c' H' → CfOk X.K G c' H' → Slots X.K G H0 c' H' ρ σ → Post X.K G P' (fun cls dx H' => W cls dx σ H') c' H' (k b c'.st) Q' → R b H') : tP X.K G W fe σ H R := by
  refine ⟨H0, ρ, c, o, sl, ?_⟩
  rw [e]
  exact (Post.bind (P := fun _ _ (d v : Option Int) => d = v) (f := k) post).imp (fun _ _ _ _ _ _ p => p) (fun v H' ⟨d, c', x, o', p, q⟩ => next v c' H' x o' (sl.ext x) (by cases (show d = v from p); exact q)) fun _ _ _ z => z
theorem ve_sl {a : Expr} {l h : Option Expr} {f : Env → M D} {fl fh : Env → M (Option Int)} {p1 p2 : Pos} (ha : VR G X W a f) (hl : VP G X W l fl) (hh : VP G X W h fh) : VE G X W (.Subscript a (.Slice l h none p2) p1) (fun ρ => do let x ← f ρ; let lo ← fl ρ; let hi ← fh ρ; slD x lo hi) :=
  PE.imp (pe_slice sl_any ha hl hh) fun σ H Q ⟨H0, ρ, c, o, sl, p⟩ => tR_step rfl o sl p fun x v c1 H1 x1 o1 sl1 t1 q1 => tP_step rfl o1 sl1 q1 fun lo c2 H2 x2 o2 sl2 q2 => tP_step rfl o2 sl2 q2 fun hi c3 H3 x3 o3 sl3 q3 => by
    have t3 := t1.ext (x2.trans x3)
    unfold slD at q3
    split at q3
    · obtain ⟨b, vs, rfl, hb, lb⟩ := t3.lst o3
      exact .inl ⟨b, vs, rfl, hb, fun q hq => q3.newDen o3 hq ⟨_, upd_same, cut_den lb lo hi⟩⟩
    · obtain ⟨hz, q3⟩ := post_if q3
      rw [t3.str]
      exact .inr ⟨_, rfl, sz hz, q3.here o3 (fun _ _ h => h) .str⟩
    · exact q3.elim
theorem vn_sl {a : Expr} {l h : Option Expr} {f : Env → M D} {fl fh : Env → M (Option Int)} {p1 p2 : Pos} (ha : VR G X W a f) (hl : VP G X W l fl) (hh : VP G X W h fh) : VN G X W (.Subscript a (.Slice l h none p2) p1) (fun ρ => do let x ← f ρ; let lo ← fl ρ; let hi ← fh ρ; slL x lo hi) :=
  PE.imp (pe_slice sl_list ha hl hh) fun σ H Q ⟨H0, ρ, c, o, sl, p⟩ => tR_step rfl o sl p fun x v c1 H1 x1 o1 sl1 t1 q1 => tP_step rfl o1 sl1 q1 fun lo c2 H2 x2 o2 sl2 q2 => tP_step rfl o2 sl2 q2 fun hi c3 H3 x3 o3 sl3 q3 => by
    have t3 := t1.ext (x2.trans x3)
    unfold slL at q3
    split at q3
    · obtain ⟨b, vs, rfl, hb, lb⟩ := t3.lst o3
      have q4 := q3.imp (P' := POwn X.K G H3) (fun c' H' d v _ _ ⟨a, e1, e2, e3⟩ => ⟨a, e1, (x1.trans (x2.trans x3)).none e2, e3⟩) (fun _ _ q => q) fun _ _ _ q => q
      exact ⟨b, vs, rfl, hb, fun q hq => q4.newOwn o3 hq ⟨_, upd_same, cut_den lb lo hi⟩⟩
    · exact q3.elim

/-! calls of built-ins -/
/-- one argument, read -/
def tL1 (K : PySem.W.Frag) (G : ClsAt) (W : WX) (f : Env → M D) : TA := fun σ H Q => tR K G W f σ H fun v H' => Q [v] H'
theorem va1 {e : Expr} {f : Env → M D} (he : VR G X W e f) (hst : starEach [e] X.env = [(false, eval e X.env)] := by rfl) : PA X [e] (tL1 X.K G W f) := PA.imp (pa_cons he pa_nil hst) fun σ H Q h => h
def tL2 (K : PySem.W.Frag) (G : ClsAt) (W : WX) (f g : Env → M D) : TA := fun σ H Q => tR K G W f σ H fun v H' => tR K G W g σ H' fun w H2 => Q [v, w] H2
theorem va2 {e e' : Expr} {f g : Env → M D} (he : VR G X W e f) (he' : VR G X W e' g) (h1 : starEach [e, e'] X.env = [(false, eval e X.env), (false, eval e' X.env)] := by rfl) (h2 : starEach [e'] X.env = [(false, eval e' X.env)] := by rfl) : PA X [e, e'] (tL2 X.K G W f g) :=
  PA.imp (pa_cons he (pa_cons he' pa_nil h2) (by rw [h1, h2])) fun σ H Q h => h
/-- a call by values of one read argument -/
def Op1 (X : Cx) (G : ClsAt) (r : List V → Hp → VK → Prop) (P : Cf → Hp → Cf → Hp → D → V → Prop) (F1 : D → M D) : Prop := ∀ (c : Cf) (H : Hp) (x : D) (v : V) (E : XK) (Q : VK), CfOk X.K G c H → DenT X.K G c H x v → Post X.K G (P c H) E c H (F1 x c.st) Q → r [v] H Q
theorem ve_b1 {e : Expr} {f : Env → M D} {x : Str} {id : String} {r : List V → Hp → VK → Prop} {F1 : D → M D} {p pos : Pos} (hc : CallR X (.builtin id) r) (h1 : Op1 X G r (P0 X G) F1) (hm : X.mg x = none) (hv : bootBuiltins x = some (.builtin id)) (he : VR G X W e f)
    (hg : Gl X x := by rfl) (hn : x ≠ "__name__" := by decide) (hdb : (x == ("__debug__" : Str)) = false := by decide) (hst : starEach [e] X.env = [(false, eval e X.env)] := by rfl) (hpl : (backTo pos (starEach ([] : List Expr) X.env)).any (·.1) = false := by rfl) : VE G X W (.Call (.Name x p) [e] [] pos) (fun ρ => do let x ← f ρ; F1 x) :=
  PE.imp (pe_callB hc hg hm hv (va1 he hst) hn hdb hst hpl) fun σ H Q ⟨H0, ρ, c, o, sl, p⟩ => tR_step rfl o sl p fun x v c1 H1 x1 o1 sl1 t1 p1 => h1 _ _ _ _ _ _ o1 t1 p1
theorem ve_t1 {e : Expr} {f : Env → M D} {x : Str} {id : String} {r : List V → Hp → VK → Prop} {F1 : D → M D} {p pos : Pos} (hc : CallR X (.type id) r) (h1 : Op1 X G r (P0 X G) F1) (hm : X.mg x = none) (hv : bootBuiltins x = some (.type id)) (he : VR G X W e f)
    (hg : Gl X x := by rfl) (hn : x ≠ "__name__" := by decide) (hdb : (x == ("__debug__" : Str)) = false := by decide) (hst : starEach [e] X.env = [(false, eval e X.env)] := by rfl) (hpl : (backTo pos (starEach ([] : List Expr) X.env)).any (·.1) = false := by rfl) : VE G X W (.Call (.Name x p) [e] [] pos) (fun ρ => do let x ← f ρ; F1 x) :=
  PE.imp (pe_callTy hc hg hm hv (va1 he hst) hn hdb hst hpl) fun σ H Q ⟨H0, ρ, c, o, sl, p⟩ => tR_step rfl o sl p fun x v c1 H1 x1 o1 sl1 t1 p1 => h1 _ _ _ _ _ _ o1 t1 p1
theorem vn_t1 {e : Expr} {f : Env → M D} {x : Str} {id : String} {r : List V → Hp → VK → Prop} {F1 : D → M D} {p pos : Pos} (hc : CallR X (.type id) r) (h1 : Op1 X G r (fun _ H => POwn X.K G H) F1) (hm : X.mg x = none) (hv : bootBuiltins x = some (.type id)) (he : VR G X W e f)
    (hg : Gl X x := by rfl) (hn : x ≠ "__name__" := by decide) (hdb : (x == ("__debug__" : Str)) = false := by decide) (hst : starEach [e] X.env = [(false, eval e X.env)] := by rfl) (hpl : (backTo pos (starEach ([] : List Expr) X.env)).any (·.1) = false := by rfl) : VN G X W (.Call (.Name x p) [e] [] pos) (fun ρ => do let x ← f ρ; F1 x) :=
  PE.imp (pe_callTy hc hg hm hv (va1 he hst) hn hdb hst hpl) fun σ H Q ⟨H0, ρ, c, o, sl, p⟩ => tR_step rfl o sl p fun x v c1 H1 x1 o1 sl1 t1 p1 => h1 _ _ _ _ _ _ o1 t1
    (p1.imp (P' := POwn X.K G H1) (fun c' H' d v _ _ ⟨a, e1, e2, e3⟩ => ⟨a, e1, x1.none e2, e3⟩) (fun _ _ q => q) fun _ _ _ q => q)

def lenD : D → M D
  | .str s => if s.length ≤ SIZE then pure (.int s.length) else no
  | .lst xs => pure (.int xs.length)
  | .tup xs => pure (.int xs.length)
  | .dic ks => pure (.int ks.length)
  | .obj o => fun s => match s[o]? with
    | some (.lst xs) => .ok (.int xs.length) s
    | _ => .no
  | _ => no
def rLenA (K : PySem.W.Frag) : List V → Hp → VK → Prop := fun xs H Q => (∃ x n, xs = [x] ∧ LenV K x H n ∧ Q (.int n) H) ∨ ∃ a kvs, xs = [V.ref a] ∧ Rd H a (.dK kvs) ∧ Q (.int kvs.length) H
theorem CallR.or {f : Value} {r r' : List V → Hp → VK → Prop} (h : CallR X f r) (h' : CallR X f r') : CallR X f (fun x H Q => r x H Q ∨ r' x H Q) := by
  intro pins s σ H xs us Q I rx q
  rcases q with q | q
  · exact h pins s σ H xs us Q I rx q
  · exact h' pins s σ H xs us Q I rx q
theorem call_lenR : CallR X (.builtin "len") (fun xs H Q => ∃ a kvs, xs = [V.ref a] ∧ Rd H a (.dK kvs) ∧ Q (.int kvs.length) H) := by
  intro pins s σ H xs us Q I r h
  obtain ⟨a, kvs, rfl, ha, q⟩ := h
  obtain ⟨u, rfl, ru⟩ := vals1 r
  cases ru
  exact d_len I ha fun t s' I' => ⟨.int kvs.length, H, I', ⟨t, rfl⟩, q⟩
theorem call_lenA : CallR X (.builtin "len") (rLenA X.K) := call_len.or call_lenR
theorem DenK.length {K : PySem.W.Frag} {As : List Addr} {F : Hp} : ∀ {d : List (Key × D)} {v : List (Key × V)}, DenK K G As F d v → d.length = v.length
  | _, _, .nil => rfl
  | _, _, .cons _ l => congrArg (· + 1) (DenK.length l)
theorem h_len : Op1 X G (rLenA X.K) (P0 X G) lenD := by
  intro c H x v E Q o t p
  unfold lenD at p
  cases x with
  | str s =>
    obtain ⟨hz, p⟩ := post_if p
    rw [t.str]
    exact .inl ⟨_, _, rfl, ⟨sz hz, rfl⟩, p.here o (fun _ _ h => h) .int⟩
  | lst xs =>
    obtain ⟨a, vs, rfl, ha, la⟩ := t.lst o
    exact .inl ⟨_, _, rfl, .inl ⟨vs, ha, rfl⟩, by rw [← la.length]; exact p.here o (fun _ _ h => h) .int⟩
  | tup xs =>
    obtain ⟨a, vs, rfl, ha, la⟩ := t.tup o
    exact .inl ⟨_, _, rfl, .inr ⟨vs, ha, rfl⟩, by rw [← la.length]; exact p.here o (fun _ _ h => h) .int⟩
  | dic ks =>
    obtain ⟨a, vs, rfl, ha, la⟩ := t.dic o
    exact .inr ⟨_, _, rfl, ha, by rw [← la.length]; exact p.here o (fun _ _ h => h) .int⟩
  | obj ob =>
    obtain ⟨a, rfl, ea⟩ := t.obj
    cases e : c.st[ob]? with
    | none => simp only [e] at p; exact p.elim
    | some d =>
      simp only [e] at p
      cases d with
      | lst xs =>
        obtain ⟨vs, hv, la⟩ := o.store ea e
        exact .inl ⟨_, _, rfl, .inl ⟨vs, SqL.of hv, rfl⟩, by rw [← la.length]; exact p.here o (fun _ _ h => h) .int⟩
      | _ => exact p.elim
  | _ => exact p.elim
theorem ve_len {e : Expr} {f : Env → M D} {p pos : Pos} (hm : X.mg "len" = none) (he : VR G X W e f) (hg : Gl X "len" := by rfl) (hst : starEach [e] X.env = [(false, eval e X.env)] := by rfl) : VE G X W (.Call (.Name "len" p) [e] [] pos) (fun ρ => do let x ← f ρ; lenD x) := ve_b1 call_lenA h_len hm PySem.boot_len he hg (hst := hst)

def intD : D → M D
  | .int i => pure (.int i)
  | .bl b => pure (.int (if b then 1 else 0))
  | .str s => match PySem.intText? s with
    | some n => if s.length ≤ 640 then pure (.int n) else no
    | none => no
  | _ => no
def rIntA : List V → Hp → VK → Prop := fun xs H Q => ((∃ i, xs = [.int i] ∧ Q (.int i) H) ∨ ∃ k, xs = [.bl k] ∧ Q (.int (if k then 1 else 0)) H) ∨ ∃ a n, xs = [.str a] ∧ PySem.intText? a = some n ∧ a.length ≤ 640 ∧ Q (.int n) H
theorem call_intA : CallR X (.type "int") rIntA := call_int1.or call_int_str
theorem h_int : Op1 X G rIntA (P0 X G) intD := by
  intro c H x v E Q o t p
  unfold intD at p
  cases x with
  | int i => rw [t.int]; exact .inl (.inl ⟨_, rfl, p.here o (fun _ _ h => h) .int⟩)
  | bl i => rw [t.bl]; exact .inl (.inr ⟨_, rfl, p.here o (fun _ _ h => h) .int⟩)
  | str s =>
    cases e : PySem.intText? s with
    | none => simp only [e] at p; exact p.elim
    | some n =>
      simp only [e] at p
      obtain ⟨hz, p⟩ := post_if p
      rw [t.str]
      exact .inr ⟨_, _, rfl, e, hz, p.here o (fun _ _ h => h) .int⟩
  | _ => exact p.elim
theorem ve_toint {e : Expr} {f : Env → M D} {p pos : Pos} (hm : X.mg "int" = none) (he : VR G X W e f) (hg : Gl X "int" := by rfl) (hst : starEach [e] X.env = [(false, eval e X.env)] := by rfl) : VE G X W (.Call (.Name "int" p) [e] [] pos) (fun ρ => do let x ← f ρ; intD x) := ve_t1 call_intA h_int hm (by decide +kernel) he hg (hst := hst)
def strD : D → M D
  | .int i => if i.natAbs.log2 < 1920 then pure (.str (toString i)) else no
  | _ => no
theorem h_str : Op1 X G (fun xs H Q => ∃ i : Int, xs = [.int i] ∧ i.natAbs.log2 < 1920 ∧ Q (.str (toString i)) H) (P0 X G) strD := by
  intro c H x v E Q o t p
  unfold strD at p
  cases x with
  | int i =>
    obtain ⟨hz, p⟩ := post_if p
    rw [t.int]; exact ⟨_, rfl, hz, p.here o (fun _ _ h => h) .str⟩
  | _ => exact p.elim
theorem ve_tostr {e : Expr} {f : Env → M D} {p pos : Pos} (hm : X.mg "str" = none) (he : VR G X W e f) (hg : Gl X "str" := by rfl) (hst : starEach [e] X.env = [(false, eval e X.env)] := by rfl) : VE G X W (.Call (.Name "str" p) [e] [] pos) (fun ρ => do let x ← f ρ; strD x) := ve_t1 call_str_int h_str hm (by decide +kernel) he hg (hst := hst)
def absD : D → M D
  | .int i => pure (.int (if i < 0 then -i else i))
  | _ => no
theorem h_abs : Op1 X G (fun xs H Q => ∃ i : Int, xs = [.int i] ∧ Q (.int (if i < 0 then -i else i)) H) (P0 X G) absD := by
  intro c H x v E Q o t p
  unfold absD at p
  cases x with
  | int i => rw [t.int]; exact ⟨_, rfl, p.here o (fun _ _ h => h) .int⟩
  | _ => exact p.elim
theorem ve_abs {e : Expr} {f : Env → M D} {p pos : Pos} (hm : X.mg "abs" = none) (he : VR G X W e f) (hg : Gl X "abs" := by rfl) (hst : starEach [e] X.env = [(false, eval e X.env)] := by rfl) : VE G X W (.Call (.Name "abs" p) [e] [] pos) (fun ρ => do let x ← f ρ; absD x) := ve_b1 call_abs h_abs hm (by decide +kernel) he hg (hst := hst)
/-- list(xs): a new list of a list's, a tuple's items -/
def listD : D → M D
  | .lst xs => pure (.lst xs)
  | .tup xs => pure (.lst xs)
  | .obj o => fun s => match s[o]? with
    | some (.lst xs) => .ok (.lst xs) s
    | _ => .no
  | _ => no
theorem h_list {P : Cf → Hp → Cf → Hp → D → V → Prop} (hP : ∀ {c : Cf} {H : Hp} {E : XK} {Q : VK} {d : D} {p : Addr} {u : HO}, Post X.K G (P c H) E c H (.ok d c.st) Q → CfOk X.K G c H → H p = none → OwnAt X.K G c.As c.F (upd H p u) p d → Q (.ref p) (upd H p u)) :
    Op1 X G (fun xs H Q => ∃ p ys, xs = [.ref p] ∧ (SqL X.K H p ys ∨ SqT X.K H p ys) ∧ ∀ l, H l = none → Q (.ref l) (upd H l (.lst ys))) P listD := by
  intro c H x v E Q o t p
  unfold listD at p
  cases x with
  | lst xs =>
    obtain ⟨a, vs, rfl, ha, la⟩ := t.lst o
    exact ⟨a, vs, rfl, .inl ha, fun q hq => hP p o hq ⟨_, upd_same, la⟩⟩
  | tup xs =>
    obtain ⟨a, vs, rfl, ha, la⟩ := t.tup o
    exact ⟨a, vs, rfl, .inr ha, fun q hq => hP p o hq ⟨_, upd_same, la⟩⟩
  | obj ob =>
    obtain ⟨a, rfl, ea⟩ := t.obj
    cases e : c.st[ob]? with
    | none => simp only [e] at p; exact p.elim
    | some d =>
      simp only [e] at p
      cases d with
      | lst xs =>
        obtain ⟨vs, hv, la⟩ := o.store ea e
        exact ⟨a, vs, rfl, .inl (SqL.of hv), fun q hq => hP p o hq ⟨_, upd_same, la⟩⟩
      | _ => exact p.elim
  | _ => exact p.elim
theorem vn_list {e : Expr} {f : Env → M D} {p pos : Pos} (hm : X.mg "list" = none) (he : VR G X W e f) (hg : Gl X "list" := by rfl) (hst : starEach [e] X.env = [(false, eval e X.env)] := by rfl) : VN G X W (.Call (.Name "list" p) [e] [] pos) (fun ρ => do let x ← f ρ; listD x) :=
  vn_t1 call_list_of (h_list fun p o hp w => p.newOwn o hp w) hm (by decide +kernel) he hg (hst := hst)
end
end PV
end

section
namespace PV
open PySem PySem.Spec L2
open PyProof.Rows hiding St

/-! isinstance -/
abbrev Tag := Sum String Str
def tagV (G : ClsAt) : Tag → Value
  | .inl n => .type n
  | .inr c => .ref (G c)
def tagOf (s : Stt) : D → Option Tag
  | .non => some (.inl "NoneType")
  | .bl _ => some (.inl "bool")
  | .int _ => some (.inl "int")
  | .str _ => some (.inl "str")
  | .lst _ => some (.inl "list")
  | .tup _ => some (.inl "tuple")
  | .dic _ => some (.inl "dict")
  | .ins c _ => some (.inr c)
  | .obj o => match s[o]? with
    | some (.lst _) => some (.inl "list")
    | some (.dic _) => some (.inl "dict")
    | some (.ins c _) => some (.inr c)
    | _ => none
  | _ => none
/-- what isinstance asks of an own class -/
structure ClsF (K : PySem.W.Frag) (C : Addr) : Prop where
  cl : Cls K C
  ha : PySem.W.findIn K (.ref C) "__class__" = some (some (.builtin "object.__class__"))
  hn : PySem.W.specialIn K (.builtin "object.__class__") "__get__" = some (some (.builtin "getset_descriptor.__get__"))
  htk : PySem.W.takesIn K (.builtin "object.__class__") = some true
  hm : PySem.W.mroIn K C (.type "object") = some true
abbrev Sub1 := Tag → Option Bool
/-- the answers of one class -/
structure SubOk (K : PySem.W.Frag) (G : ClsAt) (c : Value) (sb : Sub1) : Prop where
  ok : ∀ t b, sb t = some b → PySem.W.kitOne K (tagV G t) c = some b
  own : ∀ k b, sb (.inr k) = some b → ClsF K (G k)
def sbTy (n : String) : Sub1
  | .inl a => kitB a n
  | .inr _ => none
theorem sbTy_ok {K : PySem.W.Frag} {G : ClsAt} {n : String} : SubOk K G (.type n) (sbTy n) where
  ok := fun t b h => by
    cases t with
    | inl a => exact kit_ty h
    | inr k => cases h
  own := fun k b h => by cases h
def isiD (sb : Sub1) (x : D) : M Bool := fun s => match tagOf s x with
  | some t => match sb t with
    | some b => .ok b s
    | none => .no
  | none => .no
def isiAny (sbs : List Sub1) (x : D) : M Bool := match sbs with
  | [] => pure false
  | sb :: r => do let b ← isiD sb x; if b then pure true else isiAny r x
section
variable {X : Cx} {G : ClsAt} {W : WX}
theorem tyx_of {K : PySem.W.Frag} {c : Cf} {H : Hp} {x : D} {v : V} {t : Tag} (o : CfOk K G c H) (tx : DenT K G c H x v) (e : tagOf c.st x = some t) (own : ∀ k, t = .inr k → ClsF K (G k)) : TyX K H v (tagV G t) := by
  have lst : ∀ {a : Addr} {vs : List V}, SqL K H a vs → TyX K H (.ref a) (.type "list") := fun {a vs} h => by
    rcases h with (h | ⟨ob, h⟩) | ⟨ob, its, n, h1, h2, _⟩
    · exact .base (.lst h)
    · exact .base (.frz h)
    · exact .kList h1 h2
  have tup : ∀ {a : Addr} {vs : List V}, SqT K H a vs → TyX K H (.ref a) (.type "tuple") := fun {a vs} h => by
    rcases h with (h | ⟨ob, h⟩) | ⟨ob, its, n, h1, h2, _⟩
    · exact .base (.tup h)
    · exact .fTuple h
    · exact .kTuple h1 h2
  have dic : ∀ {a : Addr} {vs : List (Key × V)}, Rd H a (.dK vs) → TyX K H (.ref a) (.type "dict") := fun {a vs} h => by
    rcases h with h | ⟨ob, h⟩
    · exact .base (.dK h)
    · exact .fDict h
  have ins : ∀ {a dx : Addr} {k : Str} {fs : List (Str × V)}, H a = some (.ins (G k) dx fs) → ClsF K (G k) → TyX K H (.ref a) (.ref (G k)) := fun h f => .base (.ins h f.cl f.ha f.hn f.htk f.hm)
  cases x with
  | non => cases e; rw [tx.non]; exact .base .non
  | bl b => cases e; rw [tx.bl]; exact .base (.bl _)
  | int b => cases e; rw [tx.int]; exact .base (.int _)
  | str b => cases e; rw [tx.str]; exact .base (.str _)
  | lst xs => cases e; obtain ⟨a, vs, rfl, ha, _⟩ := tx.lst o; exact lst ha
  | tup xs => cases e; obtain ⟨a, vs, rfl, ha, _⟩ := tx.tup o; exact tup ha
  | dic xs => cases e; obtain ⟨a, vs, rfl, ha, _⟩ := tx.dic o; exact dic ha
  | ins k fs => cases e; obtain ⟨a, dx, vs, rfl, ha, _⟩ := tx.ins o; exact ins ha (own _ rfl)
  | obj ob =>
    obtain ⟨a, rfl, ea⟩ := tx.obj
    have e : (match c.st[ob]? with
      | some (.lst _) => some (.inl "list")
      | some (.dic _) => some (.inl "dict")
      | some (.ins c _) => some (.inr c)
      | _ => none) = some t := e
    cases q : c.st[ob]? with
    | none => rw [q] at e; cases e
    | some d =>
      rw [q] at e
      have w := o.store ea q
      cases d with
      | lst xs => cases e; obtain ⟨vs, h, _⟩ := w; exact lst (SqL.of h)
      | dic xs => cases e; obtain ⟨vs, h, _⟩ := w; exact dic (.inl h)
      | ins k xs => cases e; obtain ⟨dx, vs, h, _⟩ := w; exact ins h (own _ rfl)
      | _ => cases e
  | _ => cases e
theorem isi_1 {K : PySem.W.Frag} {c : Cf} {H : Hp} {x : D} {sb : Sub1} {E : XK} {Q : Bool → Hp → Prop} (p : Post K G PBl E c H (isiD sb x c.st) Q) : ∃ t b, tagOf c.st x = some t ∧ sb t = some b ∧ Post K G PBl E c H (.ok b c.st) Q := by
  unfold isiD at p
  cases e : tagOf c.st x with
  | none => simp only [e] at p; exact p.elim
  | some t =>
    simp only [e] at p
    cases e2 : sb t with
    | none => simp only [e2] at p; exact p.elim
    | some b => simp only [e2] at p; exact ⟨t, b, rfl, e2, p⟩
/-- isinstance(x, C) -/
theorem ve_isi {e ce : Expr} {f : Env → M D} {sb : Sub1} {cv : V} {cu : Value} {p pos : Pos} (hm : X.mg "isinstance" = none) (he : VR G X W e f) (hc : PE X ce (tC cv)) (kc : ClsV cv cu) (hs : SubOk X.K G cu sb) (hg : Gl X "isinstance" := by rfl)
    (h1 : starEach [e, ce] X.env = [(false, eval e X.env), (false, eval ce X.env)] := by rfl) (h2 : starEach [ce] X.env = [(false, eval ce X.env)] := by rfl) (hpl : (backTo pos (starEach [ce] X.env)).any (·.1) = false := by rfl) :
    VE G X W (.Call (.Name "isinstance" p) [e, ce] [] pos) (fun ρ => do let x ← f ρ; let b ← isiD sb x; pure (.bl b)) :=
  PE.imp (pe_callB call_isi hg hm boot_isinstance (pa_cons he (pa_cons hc pa_nil h2) (by rw [h1, h2])) (he := by rw [h1, h2]) (hpl := hpl)) fun σ H Q ⟨H0, ρ, c, o, sl, p⟩ => tR_step rfl o sl p fun x v c1 H1 x1 o1 sl1 t1 p1 => by
    have p2 := Post.bind (P := PBl) (E := fun cls dx H' => W cls dx σ H') (f := fun b => (pure (.bl b) : M D)) p1
    obtain ⟨t, b, e1, e2, p3⟩ := isi_1 p2
    refine ⟨v, cv, _, cu, b, rfl, kc, tyx_of o1 t1 e1 (fun k hk => hs.own k b (hk ▸ e2)), hs.ok t b e2, ?_⟩
    have := p3.here o1 (fun _ _ h => h) (v := b) rfl
    obtain ⟨a, c', x', o', q, r⟩ := this
    cases (show a = b from q)
    exact Post.here (a := D.bl _) r o' (fun _ _ h => h) .bl
theorem pe_ty {x : Str} {n : String} {pos : Pos} (hm : X.mg x = none) (hv : bootBuiltins x = some (.type n)) (hg : Gl X x := by rfl) (hn : x ≠ "__name__" := by decide) (hd : (x == ("__debug__" : Str)) = false := by decide) : PE X (.Name x pos) (tC (.ty n)) := pe_bltn hg hm hv rfl hn hd
theorem pe_cls {x : Str} {C : Addr} {pos : Pos} (hm : X.mg x = some (.ref C)) (hg : Gl X x := by rfl) (hd : (x == ("__debug__" : Str)) = false := by decide) : PE X (.Name x pos) (tC (.ref C)) := pe_glob hg hm rfl hd
/-- a list of classes -/
inductive ClsL (G : ClsAt) (X : Cx) : List Expr → List V → List Value → List Sub1 → Prop
  | nil : ClsL G X [] [] [] []
  | cons {e : Expr} {es : List Expr} {cv : V} {cvs : List V} {cu : Value} {cus : List Value} {sb : Sub1} {sbs : List Sub1} : PE X e (tC cv) → ClsV cv cu → SubOk X.K G cu sb → (starEach (e :: es) X.env = (false, eval e X.env) :: starEach es X.env) → ClsL G X es cvs cus sbs → ClsL G X (e :: es) (cv :: cvs) (cu :: cus) (sb :: sbs)
theorem ClsL.pa : ∀ {es : List Expr} {cvs : List V} {cus : List Value} {sbs : List Sub1}, ClsL G X es cvs cus sbs → PA X es (fun _ H Q => Q cvs H)
  | _, _, _, _, .nil => PA.imp pa_nil fun _ _ _ h => h
  | _, _, _, _, .cons h _ _ s r => PA.imp (pa_cons h (ClsL.pa r) s) fun _ _ _ h => h
theorem ClsL.paired : ∀ {es : List Expr} {cvs : List V} {cus : List Value} {sbs : List Sub1}, ClsL G X es cvs cus sbs → Paired ClsV cvs cus
  | _, _, _, _, .nil => .nil
  | _, _, _, _, .cons _ k _ _ r => .cons k (ClsL.paired r)
theorem ClsL.any {c : Cf} {H : Hp} {x : D} {v : V} (o : CfOk X.K G c H) (tx : DenT X.K G c H x v) : ∀ {es : List Expr} {cvs : List V} {cus : List Value} {sbs : List Sub1} {E : XK} {Q : Bool → Hp → Prop} {t : Tag}, ClsL G X es cvs cus sbs → tagOf c.st x = some t →
    Post X.K G PBl E c H (isiAny sbs x c.st) Q → ∃ b, PySem.W.kitAny X.K (tagV G t) cus = some b ∧ Post X.K G PBl E c H (.ok b c.st) Q
  | _, _, _, _, E, Q, t, .nil, e, p => ⟨false, rfl, p⟩
  | _, _, _, _, E, Q, t, .cons (sb := sb) (sbs := sbs) _ _ s _ r, e, p => by
    unfold isiAny at p
    have p2 := Post.bind (P := PBl) (E := E) (f := fun b => (if b then pure true else isiAny sbs x : M Bool)) p
    obtain ⟨t', b, e1, e2, p3⟩ := isi_1 p2
    rw [e] at e1; cases e1
    have := p3.here o (fun _ _ h => h) (v := b) rfl
    have p : Post X.K G PBl E c H ((if b then pure true else isiAny sbs x : M Bool) c.st) Q := by
      have z : ((isiD sb x >>= fun b => if b then pure true else isiAny sbs x) : M Bool) c.st = (if b then pure true else isiAny sbs x : M Bool) c.st := by
        have : isiD sb x c.st = .ok b c.st := by unfold isiD; simp only [e, e2]
        simp only [Bind.bind, M.bind, this]
      rw [← z]; exact p
    have k := s.ok t b e2
    cases b with
    | true => exact ⟨true, kitAny_cons k (fun z => by cases z) (fun _ => rfl), p⟩
    | false =>
      obtain ⟨b2, k2, p4⟩ := ClsL.any o tx r e p
      exact ⟨b2, kitAny_cons k (fun _ => k2) (fun z => by cases z), p4⟩
theorem isi_tag {K : PySem.W.Frag} {c : Cf} {H : Hp} {x : D} {sb : Sub1} {sbs : List Sub1} {E : XK} {Q : Bool → Hp → Prop} (p : Post K G PBl E c H (isiAny (sb :: sbs) x c.st) Q) : ∃ t b, tagOf c.st x = some t ∧ sb t = some b := by
  unfold isiAny at p
  obtain ⟨t', b, e1, e2, _⟩ := isi_1 (Post.bind (P := PBl) (E := E) (f := fun b => (if b then pure true else isiAny sbs x : M Bool)) p)
  exact ⟨t', b, e1, e2⟩
/-- isinstance(x, (C1, C2, ..)) -/
theorem ve_isiT {e : Expr} {es : List Expr} {f : Env → M D} {cvs : List V} {cus : List Value} {sb : Sub1} {sbs : List Sub1} {k : Nat} {pt p pos : Pos} (hm : X.mg "isinstance" = none) (he : VR G X W e f) (hc : ClsL G X es cvs cus (sb :: sbs)) (hl : cvs.length ≤ 100) (hg : Gl X "isinstance" := by rfl)
    (h1 : starEach [e, .Tuple es k pt] X.env = [(false, eval e X.env), (false, eval (.Tuple es k pt) X.env)] := by rfl) (h2 : starEach [.Tuple es k pt] X.env = [(false, eval (.Tuple es k pt) X.env)] := by rfl) (hpl : (backTo pos (starEach [.Tuple es k pt] X.env)).any (·.1) = false := by rfl) :
    VE G X W (.Call (.Name "isinstance" p) [e, .Tuple es k pt] [] pos) (fun ρ => do let x ← f ρ; let b ← isiAny (sb :: sbs) x; pure (.bl b)) :=
  PE.imp (pe_callB call_isiT hg hm boot_isinstance (pa_cons he (pa_cons (pe_tup hc.pa) pa_nil h2) (by rw [h1, h2])) (he := by rw [h1, h2]) (hpl := hpl)) fun σ H Q ⟨H0, ρ, c, o, sl, p⟩ => tR_step rfl o sl p fun x v c1 H1 x1 o1 sl1 t1 p1 => by
    refine ⟨Nat.le_trans hl (by rw [sizeLine_eq]; decide), fun q hq => ?_⟩
    have p2 := Post.bind (P := PBl) (E := fun cls dx H' => W cls dx σ H') (f := fun b => (pure (.bl b) : M D)) p1
    obtain ⟨t, b1, e1, e2⟩ := isi_tag p2
    obtain ⟨b, k1, p3⟩ := ClsL.any o1 t1 hc e1 p2
    have gr := upd_keep (u := .tup cvs) hq
    have t2 : DenT X.K G c1 (upd H1 q (.tup cvs)) x v := t1.ext (Ext.heap gr)
    have o2 := o1.grow gr
    have own : ∀ k, t = .inr k → ClsF X.K (G k) := fun k hk => by
      cases hc with
      | cons _ _ s _ _ => exact s.own k b1 (hk ▸ e2)
    refine ⟨v, q, cvs, _, cus, b, rfl, upd_same, hc.paired, tyx_of o2 t2 e1 own, k1, ?_⟩
    have := p3.here o1 gr (v := b) rfl
    obtain ⟨a, c', x', o', q', r⟩ := this
    cases (show a = b from q')
    exact Post.here (a := D.bl _) r o' (fun _ _ h => h) .bl

/-! all, any, sum -/
def boolsD : List D → Option (List Bool)
  | [] => some []
  | .bl b :: r => (boolsD r).map (b :: ·)
  | _ => none
def intsD : List D → Option (List Int)
  | [] => some []
  | .int b :: r => (intsD r).map (b :: ·)
  | _ => none
def strsD : List D → Option (List Str)
  | [] => some []
  | .str b :: r => (strsD r).map (b :: ·)
  | _ => none
theorem bools_den {K : PySem.W.Frag} {As : List Addr} {F : Hp} : ∀ {ds : List D} {vs : List V} {bs : List Bool}, boolsD ds = some bs → DenL K G As F ds vs → vs = bs.map V.bl
  | [], _, _, h, .nil => by cases h; rfl
  | .bl b :: r, _, _, h, .cons t l => by
    obtain ⟨q, h1, rfl⟩ := Option.map_eq_some_iff.mp (show (boolsD r).map (b :: ·) = some _ from h)
    cases t; rw [bools_den h1 l]; rfl
  | .non :: _, _, _, h, _ | .int _ :: _, _, _, h, _ | .str _ :: _, _, _, h, _ | .lst _ :: _, _, _, h, _ | .tup _ :: _, _, _, h, _ | .dic _ :: _, _, _, h, _ | .ins _ _ :: _, _, _, h, _ | .cls _ :: _, _, _, h, _ | .ty _ :: _, _, _, h, _ | .obj _ :: _, _, _, h, _ => by cases h
theorem ints_den {K : PySem.W.Frag} {As : List Addr} {F : Hp} : ∀ {ds : List D} {vs : List V} {bs : List Int}, intsD ds = some bs → DenL K G As F ds vs → vs = bs.map V.int
  | [], _, _, h, .nil => by cases h; rfl
  | .int b :: r, _, _, h, .cons t l => by
    obtain ⟨q, h1, rfl⟩ := Option.map_eq_some_iff.mp (show (intsD r).map (b :: ·) = some _ from h)
    cases t; rw [ints_den h1 l]; rfl
  | .non :: _, _, _, h, _ | .bl _ :: _, _, _, h, _ | .str _ :: _, _, _, h, _ | .lst _ :: _, _, _, h, _ | .tup _ :: _, _, _, h, _ | .dic _ :: _, _, _, h, _ | .ins _ _ :: _, _, _, h, _ | .cls _ :: _, _, _, h, _ | .ty _ :: _, _, _, h, _ | .obj _ :: _, _, _, h, _ => by cases h
theorem strs_den {K : PySem.W.Frag} {As : List Addr} {F : Hp} : ∀ {ds : List D} {vs : List V} {bs : List Str}, strsD ds = some bs → DenL K G As F ds vs → vs = bs.map V.str
  | [], _, _, h, .nil => by cases h; rfl
  | .str b :: r, _, _, h, .cons t l => by
    obtain ⟨q, h1, rfl⟩ := Option.map_eq_some_iff.mp (show (strsD r).map (b :: ·) = some _ from h)
    cases t; rw [strs_den h1 l]; rfl
  | .non :: _, _, _, h, _ | .bl _ :: _, _, _, h, _ | .int _ :: _, _, _, h, _ | .lst _ :: _, _, _, h, _ | .tup _ :: _, _, _, h, _ | .dic _ :: _, _, _, h, _ | .ins _ _ :: _, _, _, h, _ | .cls _ :: _, _, _, h, _ | .ty _ :: _, _, _, h, _ | .obj _ :: _, _, _, h, _ => by cases h
def allD : D → M D
  | .lst xs => atM ((boolsD xs).map fun bs => .bl (bs.all id))
  | _ => no
def anyD : D → M D
  | .lst xs => atM ((boolsD xs).map fun bs => .bl (bs.any id))
  | _ => no
def sumD : D → M D
  | .lst xs => atM ((intsD xs).map fun bs => .int bs.sum)
  | _ => no
theorem h_all : Op1 X G (rAll X.K) (P0 X G) allD := by
  intro c H x v E Q o t p
  cases x with
  | lst xs =>
    obtain ⟨a, vs, rfl, ha, la⟩ := t.lst o
    obtain ⟨d, e, p⟩ := post_at (s := c.st) p
    obtain ⟨bs, e2, rfl⟩ := Option.map_eq_some_iff.mp e
    exact ⟨a, bs, rfl, bools_den e2 la ▸ ha, p.here o (fun _ _ h => h) .bl⟩
  | _ => exact p.elim
theorem h_any : Op1 X G (rAny X.K) (P0 X G) anyD := by
  intro c H x v E Q o t p
  cases x with
  | lst xs =>
    obtain ⟨a, vs, rfl, ha, la⟩ := t.lst o
    obtain ⟨d, e, p⟩ := post_at (s := c.st) p
    obtain ⟨bs, e2, rfl⟩ := Option.map_eq_some_iff.mp e
    exact ⟨a, bs, rfl, bools_den e2 la ▸ ha, p.here o (fun _ _ h => h) .bl⟩
  | _ => exact p.elim
theorem h_sum : Op1 X G (rSum X.K) (P0 X G) sumD := by
  intro c H x v E Q o t p
  cases x with
  | lst xs =>
    obtain ⟨a, vs, rfl, ha, la⟩ := t.lst o
    obtain ⟨d, e, p⟩ := post_at (s := c.st) p
    obtain ⟨bs, e2, rfl⟩ := Option.map_eq_some_iff.mp e
    exact ⟨a, bs, rfl, ints_den e2 la ▸ ha, p.here o (fun _ _ h => h) .int⟩
  | _ => exact p.elim
theorem ve_all {e : Expr} {f : Env → M D} {p pos : Pos} (hc : X.calm = true) (hm : X.mg "all" = none) (he : VR G X W e f) (hg : Gl X "all" := by rfl) (hst : starEach [e] X.env = [(false, eval e X.env)] := by rfl) : VE G X W (.Call (.Name "all" p) [e] [] pos) (fun ρ => do let x ← f ρ; allD x) := ve_b1 (cr_all hc) h_all hm (by decide +kernel) he hg (hst := hst)
theorem ve_any {e : Expr} {f : Env → M D} {p pos : Pos} (hc : X.calm = true) (hm : X.mg "any" = none) (he : VR G X W e f) (hg : Gl X "any" := by rfl) (hst : starEach [e] X.env = [(false, eval e X.env)] := by rfl) : VE G X W (.Call (.Name "any" p) [e] [] pos) (fun ρ => do let x ← f ρ; anyD x) := ve_b1 (cr_any hc) h_any hm (by decide +kernel) he hg (hst := hst)
theorem ve_sum {e : Expr} {f : Env → M D} {p pos : Pos} (hc : X.calm = true) (hm : X.mg "sum" = none) (he : VR G X W e f) (hg : Gl X "sum" := by rfl) (hst : starEach [e] X.env = [(false, eval e X.env)] := by rfl) : VE G X W (.Call (.Name "sum" p) [e] [] pos) (fun ρ => do let x ← f ρ; sumD x) := ve_b1 (cr_sum hc) h_sum hm (by decide +kernel) he hg (hst := hst)

/-! texts' methods -/
def asS : D → M Str
  | .str s => pure s
  | _ => no
def joinD (a : Str) : D → M D
  | .lst xs => match strsD xs with
    | some ys => if (ys.map (·.length)).sum + ys.length * a.length ≤ SIZE then pure (.str (Txt.join a ys)) else no
    | none => no
  | _ => no
theorem asS_step {K : PySem.W.Frag} {γ δ : Type} {c : Cf} {H : Hp} {x : D} {v : V} {k : Str → M γ} {P' : Cf → Hp → γ → δ → Prop} {E : XK} {Q : δ → Hp → Prop} (t : DenT K G c H x v) (p : Post K G P' E c H ((asS x >>= k) c.st) Q) : ∃ a, v = .str a ∧ Post K G P' E c H (k a c.st) Q := by
  cases x with
  | str a => exact ⟨a, t.str, p⟩
  | _ => exact p.elim
theorem ve_join {o e : Expr} {f g : Env → M D} {apos pos : Pos} (ho : VR G X W o f) (he : VR G X W e g) (hs : starEach [e] X.env = [(false, eval e X.env)] := by rfl) (hbase : attributeBase o "join" X.env (eval o X.env) = eval o X.env := by rfl) (hline : (apos.endLine == pos.line) = true := by rfl) :
    VE G X W (.Call (.Attribute o "join" apos) [e] [] pos) (fun ρ => do let x ← f ρ; let a ← asS x; let y ← g ρ; joinD a y) :=
  PE.imp (pe_join ho he hs hbase hline) fun σ H Q ⟨H0, ρ, c, o, sl, p⟩ => tR_step rfl o sl p fun x v c1 H1 x1 o1 sl1 t1 p1 => by
    obtain ⟨a, rfl, p1⟩ := asS_step t1 p1
    refine ⟨⟨a, rfl⟩, tR_step rfl o1 sl1 p1 fun y w c2 H2 x2 o2 sl2 t2 p2 => ?_⟩
    cases y with
    | lst xs =>
      obtain ⟨b, vs, rfl, hb, lb⟩ := t2.lst o2
      have p2 : Post X.K G (PDen X.K G) (fun cls dx H' => W cls dx σ H') c2 H2 (joinD a (.lst xs) c2.st) Q := p2
      unfold joinD at p2
      cases e : strsD xs with
      | none => simp only [e] at p2; exact p2.elim
      | some ys =>
        simp only [e] at p2
        obtain ⟨hz, p2⟩ := post_if p2
        exact ⟨a, b, ys, rfl, rfl, .inl (strs_den e lb ▸ hb), Nat.le_trans hz (by decide), p2.here o2 (fun _ _ h => h) .str⟩
    | _ => exact p2.elim
end
end PV
end

section
namespace PV
open PySem PySem.Spec L2
open PyProof.Rows hiding St

/-! the names of a piece of code: kind and slot -/
abbrev NT := List (Str × NameKind × Nat)
def visK : NameKind → Bool
  | .local => true | .cell => true | .free => true | _ => false
structure On (X : Cx) (T : NT) : Prop where
  calm : X.calm = true
  nd : X.N.Nodup
  ok : ∀ e ∈ T, X.env.scope.names.lookup e.1 = some e.2.1 ∧ (visK e.2.1 = true → X.N[e.2.2]? = some e.1) ∧ (e.1 == ("__debug__" : Str)) = false ∧ (e.1 == ("__classdict__" : Str)) = false ∧ e.1 ≠ "__name__"
def ntB (sc : Scope) (N : List Str) (T : NT) : Bool := T.all fun e => decide (sc.names.lookup e.1 = some e.2.1) && (!visK e.2.1 || decide (N[e.2.2]? = some e.1)) && !(e.1 == ("__debug__" : Str)) && !(e.1 == ("__classdict__" : Str)) && decide (e.1 ≠ "__name__")
theorem On.of {X : Cx} {T : NT} {N : List Str} {sc : Scope} (hc : X.calm = true) (hn : X.N = N) (hs : X.env.scope = sc) (nd : N.Nodup) (h : ntB sc N T = true) : On X T := by
  refine ⟨hc, hn ▸ nd, fun e he => ?_⟩
  have q := List.all_eq_true.mp h e he
  simp only [Bool.and_eq_true, Bool.or_eq_true, Bool.not_eq_true', decide_eq_true_eq] at q
  obtain ⟨⟨⟨⟨a, b⟩, c⟩, d⟩, f⟩ := q
  refine ⟨hs ▸ a, fun hv => ?_, c, d, f⟩
  rw [hn]
  rcases b with b | b
  · rw [hv] at b; cases b
  · exact b
section
variable {X : Cx} {G : ClsAt} {W : WX} {T : NT} {x : Str} {k : NameKind} {i : Nat}
theorem On.at {j : Nat} (on : On X T) (h : T[j]? = some (x, k, i)) (hv : visK k = true) : X.N[i]? = some x := (on.ok _ (List.mem_of_getElem? h)).2.1 hv
theorem On.kind {j : Nat} (on : On X T) (h : T[j]? = some (x, k, i)) : X.env.scope.names.lookup x = some k := (on.ok _ (List.mem_of_getElem? h)).1
theorem On.vis {j : Nat} (on : On X T) (h : T[j]? = some (x, k, i)) (hv : visK k = true) : Vis X.env.scope x := by
  have q := on.kind h
  cases k <;> first | exact .inl q | exact .inr (.inl q) | exact .inr (.inr q) | cases hv
theorem On.dbg {j : Nat} (on : On X T) (h : T[j]? = some (x, k, i)) : (x == ("__debug__" : Str)) = false := (on.ok _ (List.mem_of_getElem? h)).2.2.1
theorem On.cd {j : Nat} (on : On X T) (h : T[j]? = some (x, k, i)) : (x == ("__classdict__" : Str)) = false := (on.ok _ (List.mem_of_getElem? h)).2.2.2.1
theorem On.nn {j : Nat} (on : On X T) (h : T[j]? = some (x, k, i)) : x ≠ "__name__" := (on.ok _ (List.mem_of_getElem? h)).2.2.2.2
theorem On.gl {j : Nat} (on : On X T) (h : T[j]? = some (x, .globalImplicit, i)) : Gl X x := on.kind h
theorem On.loc {j : Nat} (on : On X T) (h : T[j]? = some (x, k, i)) (hv : k = .local ∨ k = .cell) : Loc X.env.scope x := by
  have q := on.kind h
  rcases hv with rfl | rfl
  · exact .inl q
  · exact .inr q
theorem v_var {pos : Pos} (on : On X T) (j : Nat) (h : T[j]? = some (x, k, i) := by rfl) (hv : visK k = true := by rfl) : VE G X W (.Name x pos) (getV i) := ve_var i (on.at h hv) (on.vis h hv) (on.dbg h) (on.cd h)
theorem r_var {pos : Pos} (on : On X T) (j : Nat) (h : T[j]? = some (x, k, i) := by rfl) (hv : visK k = true := by rfl) : VR G X W (.Name x pos) (getR i) := vr_var i (on.at h hv) (on.vis h hv) (on.dbg h) (on.cd h)
end

/-! statements -/
inductive SR where
  | nx (ρ : Env) (s : Stt) | rt (d : D) (s : Stt) | bk (ρ : Env) (s : Stt) | ct (ρ : Env) (s : Stt) | err (e : Err) (ρ : Env) (s : Stt) | no
abbrev SM := Env → Stt → SR
/-- a value's mirror, then the rest -/
def sB {α : Type} (x : M α) (ρ : Env) (k : α → Stt → SR) (s : Stt) : SR := match x s with
  | .ok a s' => k a s'
  | .err e s' => .err e ρ s'
  | .no => .no
def sSeq (a b : SM) : SM := fun ρ s => match a ρ s with
  | .nx ρ' s' => b ρ' s'
  | r => r
def sNil : SM := fun ρ s => .nx ρ s
/-- what a returned value is to be; H0: the heap at the entry -/
abbrev RPT := Hp → Cf → Hp → D → V → Prop
abbrev rDen (K : PySem.W.Frag) (G : ClsAt) : RPT := fun _ => PDen K G
abbrev rOwn (K : PySem.W.Frag) (G : ClsAt) : RPT := fun H0 => POwn K G H0
section
variable (K : PySem.W.Frag) (G : ClsAt)
def SPost (RP : RPT) (W : WX) (c0 : Cf) (H0 : Hp) (r : SR) (D : Ends) : Prop := match r with
  | .nx ρ' st' => ∀ σ' F' As' H', Ext c0 H0 ⟨F', As', st'⟩ H' → CfOk K G ⟨F', As', st'⟩ H' → Slots K G H0 ⟨F', As', st'⟩ H' ρ' σ' → D.nx σ' H'
  | .bk ρ' st' => ∀ σ' F' As' H', Ext c0 H0 ⟨F', As', st'⟩ H' → CfOk K G ⟨F', As', st'⟩ H' → Slots K G H0 ⟨F', As', st'⟩ H' ρ' σ' → D.bk σ' H'
  | .ct ρ' st' => ∀ σ' F' As' H', Ext c0 H0 ⟨F', As', st'⟩ H' → CfOk K G ⟨F', As', st'⟩ H' → Slots K G H0 ⟨F', As', st'⟩ H' ρ' σ' → D.ct σ' H'
  | .rt d st' => ∀ v F' As' H', Ext c0 H0 ⟨F', As', st'⟩ H' → CfOk K G ⟨F', As', st'⟩ H' → RP H0 ⟨F', As', st'⟩ H' d v → D.rt v H'
  | .err e ρ' st' => ∀ σ' F' As' H' cls dx, Ext c0 H0 ⟨F', As', st'⟩ H' → CfOk K G ⟨F', As', st'⟩ H' → Slots K G H0 ⟨F', As', st'⟩ H' ρ' σ' → ErrAt K G ⟨F', As', st'⟩ H' e cls dx → W cls dx σ' H'
  | .no => False
def tS (RP : RPT) (W : WX) (m : SM) : TS := fun D σ H => ∃ c0 H0 ρ c, Ext c0 H0 c H ∧ CfOk K G c H ∧ Slots K G H0 c H ρ σ ∧ SPost K G RP W c0 H0 (m ρ c.st) D
end
abbrev VS (G : ClsAt) (X : Cx) (W : WX) (RP : RPT) (s : Stmt) (m : SM) : Prop := PS X s (tS X.K G RP W m)
abbrev VSs (G : ClsAt) (X : Cx) (W : WX) (RP : RPT) (s : List Stmt) (m : SM) : Prop := PSs X s (tS X.K G RP W m)
section
variable {X : Cx} {G : ClsAt} {W : WX} {RP : RPT} {T : NT}
theorem vss_nil : VSs G X W RP [] sNil := PSs.imp pss_nil fun D σ H ⟨c0, H0, ρ, c, x, o, sl, p⟩ => p σ c.F c.As H x o sl
theorem vss_cons {s : Stmt} {r : List Stmt} {a b : SM} (h1 : VS G X W RP s a) (h2 : VSs G X W RP r b) : VSs G X W RP (s :: r) (sSeq a b) := PSs.imp (pss_cons h1 h2) fun D σ H ⟨c0, H0, ρ, c, x, o, sl, p⟩ => by
  refine ⟨c0, H0, ρ, c, x, o, sl, ?_⟩
  unfold sSeq at p
  cases e : a ρ c.st with
  | nx ρ' s' => rw [e] at p; exact fun σ' F' As' H' x' o' sl' => ⟨c0, H0, ρ', _, x', o', sl', p⟩
  | rt d s' => rw [e] at p; exact p
  | bk ρ' s' => rw [e] at p; exact p
  | ct ρ' s' => rw [e] at p; exact p
  | err e' ρ' s' => rw [e] at p; exact p
  | no => rw [e] at p; exact p
theorem vss_one {s : Stmt} {a : SM} (h1 : VS G X W RP s a) : VSs G X W RP [s] a := pss_one h1
theorem vs_pass {pos : Pos} : VS G X W RP (.Pass pos) sNil := PS.imp ps_pass fun D σ H ⟨c0, H0, ρ, c, x, o, sl, p⟩ => p σ c.F c.As H x o sl
theorem vs_break {pos : Pos} : VS G X W RP (.Break pos) (fun ρ s => .bk ρ s) := PS.imp ps_break fun D σ H ⟨c0, H0, ρ, c, x, o, sl, p⟩ => p σ c.F c.As H x o sl
theorem vs_continue {pos : Pos} : VS G X W RP (.Continue pos) (fun ρ s => .ct ρ s) := PS.imp ps_continue fun D σ H ⟨c0, H0, ρ, c, x, o, sl, p⟩ => p σ c.F c.As H x o sl

/-- a value first, then what the statement does with it -/
theorem s_step {α β : Type} {K : PySem.W.Frag} {P : Cf → Hp → α → β → Prop} {c0 c : Cf} {H0 H : Hp} {ρ : Env} {σ : L2.St} {f : M α} {k : α → Stt → SR} {D : Ends} (x : Ext c0 H0 c H) (sl : Slots K G H0 c H ρ σ)
    (p : SPost K G RP W c0 H0 (sB f ρ k c.st) D) {R : β → Hp → Prop} (next : ∀ a v c' H', Ext c H c' H' → Ext c0 H0 c' H' → CfOk K G c' H' → Slots K G H0 c' H' ρ σ → P c' H' a v → SPost K G RP W c0 H0 (k a c'.st) D → R v H') :
    Post K G P (fun cls dx H' => W cls dx σ H') c H (f c.st) R := by
  unfold sB at p
  cases e : f c.st with
  | no => rw [e] at p; exact p
  | err e' s' =>
    rw [e] at p
    exact fun F' As' H' cls dx x' o' z => p σ F' As' H' cls dx (x.trans x') o' (sl.ext x') z
  | ok a s' =>
    rw [e] at p
    exact fun v F' As' H' x' o' q => next a v _ H' x' (x.trans x') o' (sl.ext x') q p
def sRet (f : Env → M D) : SM := fun ρ s => sB (f ρ) ρ (fun d s' => .rt d s') s
theorem vs_ret {e : Expr} {f : Env → M D} {pos : Pos} (h : VE G X W e f) : VS G X W (rDen X.K G) (.Return (some e) pos) (sRet f) := PS.imp (ps_ret h) fun D σ H ⟨c0, H0, ρ, c, x, o, sl, p⟩ =>
  ⟨H0, ρ, c, o, sl, s_step x sl p fun d v c' H' _ x' o' sl' q p' => p' v c'.F c'.As H' x' o' q⟩
theorem vs_retN {pos : Pos} : VS G X W (rDen X.K G) (.Return none pos) (fun _ s => .rt .non s) := PS.imp ps_retN fun D σ H ⟨c0, H0, ρ, c, x, o, sl, p⟩ => p .non c.F c.As H x o .non
theorem POwn.entry {K : PySem.W.Frag} {c0 c c' : Cf} {H0 H H' : Hp} {d : D} {v : V} (x : Ext c0 H0 c H) (p : POwn K G H c' H' d v) : POwn K G H0 c' H' d v := let ⟨a, e1, e2, e3⟩ := p; ⟨a, e1, x.none e2, e3⟩
/-- a new object is handed back as one's own -/
theorem vs_retO {e : Expr} {f : Env → M D} {pos : Pos} (h : VN G X W e f) : VS G X W (rOwn X.K G) (.Return (some e) pos) (sRet f) := PS.imp (ps_ret h) fun D σ H ⟨c0, H0, ρ, c, x, o, sl, p⟩ =>
  ⟨H0, ρ, c, o, sl, s_step x sl p fun d v c' H' _ x' o' sl' q p' => p' v c'.F c'.As H' x' o' (POwn.entry x q)⟩
def sDrop {α : Type} (f : Env → M α) : SM := fun ρ s => sB (f ρ) ρ (fun _ s' => .nx ρ s') s
theorem vs_expr {e : Expr} {f : Env → M D} {pos : Pos} (h : VR G X W e f) (hs : swapsWith e none pos.line X.env = pure false := by rfl) : VS G X W RP (.Expr e pos) (sDrop f) := PS.imp (ps_expr h hs) fun D σ H ⟨c0, H0, ρ, c, x, o, sl, p⟩ =>
  ⟨H0, ρ, c, o, sl, s_step x sl p fun d v c' H' _ x' o' sl' q p' => p' σ c'.F c'.As H' x' o' sl'⟩
theorem vs_doc {x : Str} {j : Nat} {pos pos' : Pos} : VS G X W RP (.Expr (.Constant (.str x) j pos) pos') sNil := PS.imp ps_doc fun D σ H ⟨c0, H0, ρ, c, x, o, sl, p⟩ => p σ c.F c.As H x o sl
def sIf (t : Env → M Bool) (a b : SM) : SM := fun ρ s => sB (t ρ) ρ (fun k s' => if k then a ρ s' else b ρ s') s
theorem vs_if {t : Expr} {as bs : List Stmt} {f : Env → M Bool} {a b : SM} {pos : Pos} (ht : VT G X W t f) (ha : VSs G X W RP as a) (hb : VSs G X W RP bs b) : VS G X W RP (.If t as bs pos) (sIf f a b) := PS.imp (ps_if ht ha hb) fun D σ H ⟨c0, H0, ρ, c, x, o, sl, p⟩ =>
  ⟨H0, ρ, c, o, sl, s_step x sl p fun d v c' H' _ x' o' sl' q p' => by
    cases (show d = v from q)
    cases d with
    | true => exact iteT ⟨c0, H0, ρ, c', x', o', sl', p'⟩
    | false => exact iteF ⟨c0, H0, ρ, c', x', o', sl', p'⟩⟩

/-! slots stored -/
theorem get_set {α : Type} {l : List α} {i j : Nat} {a b : α} (h : (l.set i a)[j]? = some b) : (j = i ∧ b = a ∧ i < l.length) ∨ (j ≠ i ∧ l[j]? = some b) := by
  by_cases e : i = j
  · subst e
    by_cases hl : i < l.length
    · rw [List.getElem?_set_self hl] at h; cases h; exact .inl ⟨rfl, rfl, hl⟩
    · rw [List.getElem?_eq_none (by simpa using hl)] at h; cases h
  · rw [List.getElem?_set_ne e] at h; exact .inr ⟨fun z => e z.symm, h⟩
theorem Slots.val {K : PySem.W.Frag} {H0 H : Hp} {c : Cf} {ρ : Env} {σ : L2.St} (sl : Slots K G H0 c H ρ σ) (i : Nat) {d : D} {v : V} (h : Den K G c.As c.F d v) : Slots K G H0 c H (ρ.set i (.val d)) (σ.set i (some v)) where
  len := by simpa using sl.len
  ok := fun j s o e1 e2 => by
    rcases get_set e1 with ⟨rfl, rfl, h1⟩ | ⟨h1, e1⟩
    · rw [List.getElem?_set_self (by rw [← sl.len]; exact h1)] at e2; cases e2; exact ⟨v, rfl, h⟩
    · rcases get_set e2 with ⟨h2, _⟩ | ⟨_, e2⟩
      · exact absurd h2 h1
      · exact sl.ok j s o e1 e2
  sep := fun j l d d' a e1 e2 e3 e4 => by
    rcases get_set e1 with ⟨_, z, _⟩ | ⟨h1, e1⟩
    · cases z
    · rcases get_set e2 with ⟨_, z, _⟩ | ⟨h2, e2⟩
      · cases z
      · rcases get_set e3 with ⟨z, _⟩ | ⟨_, e3⟩
        · exact absurd z h1
        · rcases get_set e4 with ⟨z, _⟩ | ⟨_, e4⟩
          · exact absurd z h2
          · exact sl.sep j l d d' a e1 e2 e3 e4
  mine := fun j d a e1 e2 => by
    rcases get_set e1 with ⟨_, z, _⟩ | ⟨h1, e1⟩
    · cases z
    · rcases get_set e2 with ⟨z, _⟩ | ⟨_, e2⟩
      · exact absurd z h1
      · exact sl.mine j d a e1 e2
/-- Hb: the heap before the object came -/
theorem Slots.own {K : PySem.W.Frag} {H0 Hb H : Hp} {cb c : Cf} {ρ : Env} {σ : L2.St} (sb : Slots K G H0 cb Hb ρ σ) (sl : Slots K G H0 c H ρ σ) (i : Nat) {d : D} {v : V} (h : POwn K G Hb c H d v) (h0 : ∀ a, Hb a = none → H0 a = none) : Slots K G H0 c H (ρ.set i (.own d)) (σ.set i (some v)) := by
  obtain ⟨p, rfl, hn, na, f, w⟩ := h
  have new : ∀ (j : Nat) (d : D) (a : Addr), ρ[j]? = some (.own d) → σ[j]? = some (some (.ref a)) → a ≠ p := fun j d a e1 e2 z => by
    obtain ⟨a', e, _, _, w'⟩ := sb.ok j _ _ e1 e2
    cases e
    obtain ⟨u, hu⟩ := w'.some
    rw [z, hn] at hu; cases hu
  exact {
    len := by simpa using sl.len
    ok := fun j s o e1 e2 => by
      rcases get_set e1 with ⟨rfl, rfl, h1⟩ | ⟨h1, e1⟩
      · rw [List.getElem?_set_self (by rw [← sl.len]; exact h1)] at e2; cases e2; exact ⟨p, rfl, f, na, w⟩
      · rcases get_set e2 with ⟨h2, _⟩ | ⟨_, e2⟩
        · exact absurd h2 h1
        · exact sl.ok j s o e1 e2
    sep := fun j l d d' a e1 e2 e3 e4 => by
      rcases get_set e1 with ⟨h1, z, _⟩ | ⟨h1, e1⟩
      · rcases get_set e2 with ⟨h2, _, _⟩ | ⟨h2, e2⟩
        · rw [h1, h2]
        · rcases get_set e3 with ⟨_, z3, _⟩ | ⟨z3, _⟩
          · cases z3
            rcases get_set e4 with ⟨z4, _⟩ | ⟨_, e4⟩
            · exact absurd z4 h2
            · exact absurd rfl (new l d' p e2 e4)
          · exact absurd h1 z3
      · rcases get_set e3 with ⟨z3, _⟩ | ⟨_, e3⟩
        · exact absurd z3 h1
        · rcases get_set e2 with ⟨h2, _, _⟩ | ⟨h2, e2⟩
          · rcases get_set e4 with ⟨_, z4, _⟩ | ⟨z4, _⟩
            · cases z4; exact absurd rfl (new j d p e1 e3)
            · exact absurd h2 z4
          · rcases get_set e4 with ⟨z, _⟩ | ⟨_, e4⟩
            · exact absurd z h2
            · exact sl.sep j l d d' a e1 e2 e3 e4
    mine := fun j d a e1 e2 => by
      rcases get_set e1 with ⟨h1, z, _⟩ | ⟨h1, e1⟩
      · rcases get_set e2 with ⟨_, z2, _⟩ | ⟨z2, _⟩
        · cases z2; exact h0 _ hn
        · exact absurd h1 z2
      · rcases get_set e2 with ⟨z, _⟩ | ⟨_, e2⟩
        · exact absurd z h1
        · exact sl.mine j d a e1 e2 }
def sSet (i : Nat) (f : Env → M D) : SM := fun ρ s => sB (f ρ) ρ (fun d s' => .nx (ρ.set i (.val d)) s') s
def sSetO (i : Nat) (f : Env → M D) : SM := fun ρ s => sB (f ρ) ρ (fun d s' => .nx (ρ.set i (.own d)) s') s
section
variable {x : Str} {k : NameKind} {i : Nat}
theorem vs_set {e : Expr} {f : Env → M D} {pos pos' : Pos} (on : On X T) (j : Nat) (he : VE G X W e f) (h : T[j]? = some (x, k, i) := by rfl) (hk : k = .local ∨ k = .cell := by first | exact .inl rfl | exact .inr rfl) (hf : X.fn x = true ∨ k = .local := by first | exact .inr rfl | assumption) (hs : swapsWith e (some (.Name x pos')) pos.line X.env = pure false := by rfl) :
    VS G X W RP (.Assign [.Name x pos'] e pos) (sSet i f) :=
  PS.imp (ps_set on.nd (on.at h (by rcases hk with rfl | rfl <;> rfl)) (on.loc h hk) he hs (hf.elim .inl fun z => .inr (by rw [on.kind h, z]))) fun D σ H ⟨c0, H0, ρ, c, x, o, sl, p⟩ =>
    ⟨H0, ρ, c, o, sl, s_step x sl p fun d v c' H' _ x' o' sl' q p' => p' _ c'.F c'.As H' x' o' (sl'.val i q)⟩
theorem vs_setO {e : Expr} {f : Env → M D} {pos pos' : Pos} (on : On X T) (j : Nat) (he : VN G X W e f) (h : T[j]? = some (x, k, i) := by rfl) (hk : k = .local ∨ k = .cell := by first | exact .inl rfl | exact .inr rfl) (hf : X.fn x = true ∨ k = .local := by first | exact .inr rfl | assumption) (hs : swapsWith e (some (.Name x pos')) pos.line X.env = pure false := by rfl) :
    VS G X W RP (.Assign [.Name x pos'] e pos) (sSetO i f) :=
  PS.imp (ps_set on.nd (on.at h (by rcases hk with rfl | rfl <;> rfl)) (on.loc h hk) he hs (hf.elim .inl fun z => .inr (by rw [on.kind h, z]))) fun D σ H ⟨c0, H0, ρ, c, x, o, sl, p⟩ =>
    ⟨H0, ρ, c, o, sl, s_step x sl p fun d v c' H' _ x' o' sl' q p' => p' _ c'.F c'.As H' x' o' (Slots.own sl sl' i q fun a => x.none)⟩
end
end
end PV
end

section
namespace PV
open PySem PySem.Spec L2
open PyProof.Rows hiding St

/-! defs -/
/-- the promise: m of the arguments -/
def spPV (K : PySem.W.Frag) (G : ClsAt) (RP : RPT) (n : Nat) (m : List D → M D) : Sp := fun vs H Q E => vs.length = n ∧ ∃ c ds, CfOk K G c H ∧ DenL K G c.As c.F ds vs ∧ Post K G (RP H) E c H (m ds c.st) Q
/-- the mirror of a def's body: N slots -/
def runM (N : Nat) (m : SM) (ds : List D) : M D := fun s => match m (ds.map .val ++ List.replicate (N - ds.length) .no) s with
  | .nx _ s' => .ok .non s'
  | .rt d s' => .ok d s'
  | .err e _ s' => .err e s'
  | _ => .no
/-- .. whose end is always a return -/
def runO (N : Nat) (m : SM) (ds : List D) : M D := fun s => match m (ds.map .val ++ List.replicate (N - ds.length) .no) s with
  | .rt d s' => .ok d s'
  | .err e _ s' => .err e s'
  | _ => .no
abbrev WE0 (E : XK) : WX := fun cls d _ H => E cls d H
section
variable {P : Program} {w : World} {K : PySem.W.Frag} {mg : Str → Option Value} {base : Heap} {G : ClsAt}
theorem slots_start {c : Cf} {H : Hp} {N : Nat} {Ns : List Str} {ds : List D} {vs : List V} (hN : Ns.length = N) (l : DenL K G c.As c.F ds vs) : Slots K G H c H (ds.map .val ++ List.replicate (N - ds.length) .no) (L2.start Ns vs) := by
  have hl := l.length
  have noown : ∀ (i : Nat) (d : D), (ds.map Slot.val ++ List.replicate (N - ds.length) Slot.no)[i]? ≠ some (.own d) := fun i d e => by
    have hm := List.mem_of_getElem? e
    rcases List.mem_append.mp hm with h | h
    · obtain ⟨_, _, q⟩ := List.mem_map.mp h; cases q
    · have := List.eq_of_mem_replicate h; cases this
  refine ⟨?_, fun i s o e1 e2 => ?_, fun i j d d' a e1 => absurd e1 (noown i d), fun i d a e1 => absurd e1 (noown i d)⟩
  · unfold L2.start
    simp only [List.length_append, List.length_map, List.length_replicate, hl, hN]
  · by_cases hi : i < ds.length
    · rw [List.getElem?_append_left (by simpa using hi), List.getElem?_map] at e1
      unfold L2.start at e2
      rw [List.getElem?_append_left (by simpa [← hl] using hi), List.getElem?_map] at e2
      obtain ⟨v, q1, q2⟩ := Option.map_eq_some_iff.mp e2
      obtain ⟨d, q3, q4⟩ := l.get q1
      rw [q3] at e1
      cases e1
      exact ⟨v, q2.symm, q4⟩
    · rw [List.getElem?_append_right (by simpa using hi)] at e1
      have := List.eq_of_mem_replicate (List.mem_of_getElem? e1)
      subst this
      trivial
/-- a def's body, from its parts -/
theorem fn_body {RP : RPT} {Ns ps : List Str} {N k : Nat} {f : Addr} {fd : FuncData} {m : SM} {mm : List D → M D} {qual : Str} {body : List Stmt} {scope : Scope}
    (ok : ∀ {sp : Sp}, (∀ vs H Q E, sp vs H Q E → vs.length = ps.length) → (∀ (cdv : Value) (A : Around) (outer : List PySem.Env) (s : Shared) (H : Hp) (vs : List V) (Q : VK) (E : XK), Room k (A.deeper (envOfC qual scope s.heap.objs.size f cdv)) → sp vs H Q E →
      ∃ t, PSs (cxOf (L2.CX P w) P w K mg base Ns qual scope f cdv A outer s H E) body t ∧ t { nx := fun _ H' => Q .non H', rt := Q } (L2.start Ns vs) H) → FnOk P w K mg base (L2.CX P w) (k + 1) f fd ps sp)
    (hN : Ns.length = N)
    (hm : ∀ ds s, (match mm ds s with
      | .ok d s' => m (ds.map .val ++ List.replicate (N - ds.length) .no) s = .rt d s' ∨ ((∃ ρ, m (ds.map .val ++ List.replicate (N - ds.length) .no) s = .nx ρ s') ∧ d = .non ∧ ∀ H0 c H, RP H0 c H .non .non)
      | .err e s' => ∃ ρ, m (ds.map .val ++ List.replicate (N - ds.length) .no) s = .err e ρ s'
      | .no => True))
    (hb : ∀ (X : Cx) (E : XK), X.prog = P → X.w = w → X.K = K → X.mg = mg → X.base = base → X.calm = true → X.N = Ns → X.env.scope = scope → (∀ x, X.fn x = true) → Room k X.A → Takes X (WE0 E) → (X.stack = X.env :: X.outer ∧ X.env.frame = some X.env.locals) → PassesOwn (model X.prog X.w) X.A X.env X.xe → VSs G X (WE0 E) RP body m) :
    FnOk P w K mg base (L2.CX P w) (k + 1) f fd ps (spPV K G RP ps.length mm) := by
  refine ok (fun vs H Q E h => h.1) fun cdv A outer s H vs Q E hr h => ?_
  obtain ⟨hl, c, ds, o, l, p⟩ := h
  refine ⟨_, hb (cxOf (L2.CX P w) P w K mg base Ns qual scope f cdv A outer s H E) E rfl rfl rfl rfl rfl rfl rfl rfl (fun _ => rfl) hr (takes_of rfl rfl rfl rfl) ⟨rfl, rfl⟩ PassesOwn.leaving, ?_⟩
  refine ⟨c, H, _, c, Ext.refl c H, o, slots_start hN l, ?_⟩
  have q := hm ds c.st
  cases e : mm ds c.st with
  | no => rw [e] at p; exact p.elim
  | err e' s' =>
    rw [e] at p q
    obtain ⟨ρ, q⟩ := q
    rw [q]
    exact fun σ' F' As' H' cls dx x o _ z => p F' As' H' cls dx x o z
  | ok d s' =>
    rw [e] at p q
    rcases q with q | ⟨⟨ρ, q⟩, rfl, z⟩
    · rw [q]; exact fun v F' As' H' x o r => p v F' As' H' x o r
    · rw [q]; exact fun σ' F' As' H' x o _ => p .non F' As' H' x o (z _ _ _)
theorem hm_run {N : Nat} {m : SM} : ∀ ds s, (match runM N m ds s with
      | .ok d s' => m (ds.map .val ++ List.replicate (N - ds.length) .no) s = .rt d s' ∨ ((∃ ρ, m (ds.map .val ++ List.replicate (N - ds.length) .no) s = .nx ρ s') ∧ d = .non ∧ ∀ H0 c H, rDen K G H0 c H .non .non)
      | .err e s' => ∃ ρ, m (ds.map .val ++ List.replicate (N - ds.length) .no) s = .err e ρ s'
      | .no => True) := fun ds s => by
  unfold runM
  cases m (ds.map .val ++ List.replicate (N - ds.length) .no) s with
  | nx ρ s' => exact .inr ⟨⟨ρ, rfl⟩, rfl, fun _ _ _ => .non⟩
  | rt d s' => exact .inl rfl
  | err e ρ s' => exact ⟨ρ, rfl⟩
  | _ => trivial
theorem hm_runO {RP : RPT} {N : Nat} {m : SM} : ∀ ds s, (match runO N m ds s with
      | .ok d s' => m (ds.map .val ++ List.replicate (N - ds.length) .no) s = .rt d s' ∨ ((∃ ρ, m (ds.map .val ++ List.replicate (N - ds.length) .no) s = .nx ρ s') ∧ d = .non ∧ ∀ H0 c H, RP H0 c H .non .non)
      | .err e s' => ∃ ρ, m (ds.map .val ++ List.replicate (N - ds.length) .no) s = .err e ρ s'
      | .no => True) := fun ds s => by
  unfold runO
  cases m (ds.map .val ++ List.replicate (N - ds.length) .no) s with
  | rt d s' => exact .inl rfl
  | err e ρ s' => exact ⟨ρ, rfl⟩
  | _ => trivial
end

/-! calls -/
/-- how a call of n values and of keywords ks binds: the parameters' values -/
def Bnd (K : PySem.W.Frag) (G : ClsAt) (fd : FuncData) (ps : List Str) (n : Nat) (ks : List Str) (gD : List D → List D → List D) : Prop :=
  ∃ g gV, KBn K fd ps n ks g gV ∧ ∀ {As : List Addr} {F : Hp} {ds dk : List D} {vs zs : List V}, ds.length = n → dk.length = ks.length → DenL K G As F ds vs → DenL K G As F dk zs → DenL K G As F (gD ds dk) (gV vs zs)
abbrev Form := Nat × List Str × (List D → List D → List D)
/-- a def that may be called -/
structure Cal (P : Program) (w : World) (K : PySem.W.Frag) (mg : Str → Option Value) (base : Heap) (G : ClsAt) (k np : Nat) (x : Str) (RP : RPT) (fs : List Form) (m : List D → M D) : Prop where
  ex : ∃ f fd ps, ps.length = np ∧ FnOk P w K mg base (L2.CX P w) k f fd ps (spPV K G RP ps.length m) ∧ mg x = some (.ref f) ∧ PySem.W.keepIn K (.ref f) = true ∧ ∀ e ∈ fs, Bnd K G fd ps e.1 e.2.1 e.2.2
section
variable {X : Cx} {G : ClsAt} {W : WX}
/-- keywords, from the left -/
abbrev VK2 (G : ClsAt) (X : Cx) (W : WX) (es : List Keyword) (f : Env → M (List D)) : Prop := PK X es (tL X.K G W f)
theorem PK.imp {e : List Keyword} {t t' : TA} (h : PK X e t) (i : ∀ σ H Q, t' σ H Q → t σ H Q) : PK X e t' := ⟨fun pos pins s σ H Q I q => h.run pos pins s σ H Q I (i σ H Q q)⟩
theorem vk_nil : VK2 G X W [] (fun _ => pure []) := PK.imp pk_nil fun σ H Q ⟨H0, ρ, c, o, sl, p⟩ => p.here o (fun _ _ h => h) .nil
theorem vk_cons {e : Expr} {es : List Keyword} {nm : Option Str} {kpos : Pos} {f : Env → M D} {g : Env → M (List D)} (he : VE G X W e f) (hs : VK2 G X W es g) : VK2 G X W (⟨nm, e, kpos⟩ :: es) (fun ρ => do let x ← f ρ; let xs ← g ρ; pure (x :: xs)) :=
  PK.imp (pk_cons he hs) fun σ H Q ⟨H0, ρ, c, o, sl, p⟩ => tV_step rfl o sl p fun x v c1 H1 x1 o1 sl1 t1 p1 => tL_step rfl o1 sl1 p1 fun xs vs c2 H2 x2 o2 sl2 t2 p2 => p2.here o2 (fun _ _ h => h) (.cons (t1.mono x2.sub x2.pre) t2)

/-- the callee runs, wherever its values lie -/
theorem run_cal {k n : Nat} {f : Addr} {fd : FuncData} {ps ks : List Str} {RP : RPT} {m : List D → M D} {gD : List D → List D → List D} (F : FnOk X.prog X.w X.K X.mg X.base (L2.CX X.prog X.w) k f fd ps (spPV X.K G RP ps.length m)) (B : Bnd X.K G fd ps n ks gD) (hr : Room k X.A) (tk : Takes X W)
    {pins : List (Addr × Obj)} {σ : L2.St} {H : Hp} {s : Shared} {Q : VK} {c : Cf} {ds dk : List D} {us ws : List Value} {vs zs : List V} (I : Inv X pins σ H s) (r : Vals vs us) (rz : Vals zs ws) (o : CfOk X.K G c H) (l : DenL X.K G c.As c.F ds vs) (lk : DenL X.K G c.As c.F dk zs) (h1 : ds.length = n) (h2 : dk.length = ks.length)
    (p : Post X.K G (RP H) (fun cls dx H' => W cls dx σ H') c H (m (gD ds dk) c.st) Q) (hl : (gD ds dk).length = ps.length) : wpAny (model X.prog X.w) X.A (call (.ref f) us (ks.zip ws)) (EP X pins σ Q) X.xe s := by
  obtain ⟨g, gV, kb, hd⟩ := B
  have lg := hd h1 h2 l lk
  have rg := kb.rel r rz
  have e1 : us.length = n := by rw [← r.length, ← l.length]; exact h1
  have e2 : ws.length = ks.length := by rw [← rz.length, ← lk.length]; exact h2
  refine wpAny_call (codeAny_mono (F.run X.A X.stack s H ⟨us, ks.zip ws⟩ (g us ws) (gV vs zs) Q (WE W σ) hr I.env0 (kb.to s us ws I.kIn e1 e2) rg ⟨by rw [← lg.length]; exact hl, c, _, o, lg, p⟩) fun r s' hq => ?_)
  cases r with
  | error e => exact passAt tk σ pins H s e s' I hq
  | ok fl =>
    cases fl with
    | ret u => exact I.after hq
    | next => exact False.elim hq
    | brk => exact False.elim hq
    | cont => exact False.elim hq
/-- the values are of the right number -/
def chk (n : Nat) (ds : List D) : M (List D) := if ds.length = n then pure ds else no
/-- f(e, .., k = v, ..) -/
def tCalE (K : PySem.W.Frag) (G : ClsAt) (W : WX) (RP : RPT) (n n2 : Nat) (np : Nat) (gD : List D → List D → List D) (m : List D → M D) (σ : L2.St) (vs zs : List V) (H2 : Hp) (Q : VK) : Prop :=
  ∃ c ds dk, CfOk K G c H2 ∧ DenL K G c.As c.F ds vs ∧ DenL K G c.As c.F dk zs ∧ ds.length = n ∧ dk.length = n2 ∧ (gD ds dk).length = np ∧ Post K G (RP H2) (fun cls dx H' => W cls dx σ H') c H2 (m (gD ds dk) c.st) Q
def tCalK (K : PySem.W.Frag) (G : ClsAt) (W : WX) (RP : RPT) (n n2 : Nat) (np : Nat) (gD : List D → List D → List D) (m : List D → M D) (ta tk : TA) : TE := fun σ H Q => ta σ H fun vs H1 => tk σ H1 fun zs H2 => tCalE K G W RP n n2 np gD m σ vs zs H2 Q
theorem pe_cal {k n : Nat} {f : Addr} {fd : FuncData} {ps ks : List Str} {RP : RPT} {m : List D → M D} {gD : List D → List D → List D} {x : Str} {e : Expr} {es : List Expr} {kws : List Keyword} {ta tkk : TA} {p pos : Pos} (F : FnOk X.prog X.w X.K X.mg X.base (L2.CX X.prog X.w) k f fd ps (spPV X.K G RP ps.length m)) (B : Bnd X.K G fd ps n ks gD) (hr : Room k X.A) (tk : Takes X W)
    (hg : Gl X x) (hm : X.mg x = some (.ref f)) (hk : PySem.W.keepIn X.K (.ref f) = true) (ha : PA X (e :: es) ta) (hkw : PK X kws tkk) (hdb : (x == ("__debug__" : Str)) = false)
    (he : starEach (e :: es) X.env = (false, eval e X.env) :: starEach es X.env) (hall : (backToKw pos (keywordEach kws X.env)).all (·.1.isSome) = true) (hks : (backToKw pos (keywordEach kws X.env)).filterMap (·.1) = ks)
    (hpl : ((backTo pos (starEach (e :: es) X.env)).any (·.1) || (backToKw pos (keywordEach kws X.env)).any (·.1.isNone)) = false) :
    PE X (.Call (.Name x p) (e :: es) kws pos) (tCalK X.K G W RP n ks.length ps.length gD m ta tkk) := by
  refine ⟨fun pins s σ H Q I h => ?_⟩
  refine wpAny_Call_Name_kw (ld_glob I hg hm ?_ hdb)
  refine PySem.W.callWith_KW (h₀ := X.base) I.ok.mod.kin hk hall (thn (ha.run pos pins s σ H _ I h) fun us s1 ⟨vs, H1, I1, r, q⟩ => ?_) hpl he
  refine thn (hkw.run pos pins s1 σ H1 _ I1 q) fun ws s2 ⟨zs, H2, I2, rz, c, ds, dk, o, l, lk, h1, h2, hl, p⟩ => ⟨I2.kIn, ?_⟩
  rw [hks]
  exact run_cal F B hr tk I2 r rz o l lk h1 h2 p hl
theorem pe_cal0 {k n : Nat} {f : Addr} {fd : FuncData} {ps ks : List Str} {RP : RPT} {m : List D → M D} {gD : List D → List D → List D} {x : Str} {kws : List Keyword} {tkk : TA} {p pos : Pos} (F : FnOk X.prog X.w X.K X.mg X.base (L2.CX X.prog X.w) k f fd ps (spPV X.K G RP ps.length m)) (B : Bnd X.K G fd ps n ks gD) (hr : Room k X.A) (tk : Takes X W)
    (hg : Gl X x) (hm : X.mg x = some (.ref f)) (hk : PySem.W.keepIn X.K (.ref f) = true) (hkw : PK X kws tkk) (hdb : (x == ("__debug__" : Str)) = false)
    (hall : (backToKw pos (keywordEach kws X.env)).all (·.1.isSome) = true) (hks : (backToKw pos (keywordEach kws X.env)).filterMap (·.1) = ks)
    (hpl : ((backTo pos (starEach ([] : List Expr) X.env)).any (·.1) || (backToKw pos (keywordEach kws X.env)).any (·.1.isNone)) = false) :
    PE X (.Call (.Name x p) [] kws pos) (fun σ H Q => tkk σ H fun zs H2 => tCalE X.K G W RP n ks.length ps.length gD m σ [] zs H2 Q) := by
  refine ⟨fun pins s σ H Q I h => ?_⟩
  refine wpAny_Call_Name_kw (ld_glob I hg hm ?_ hdb)
  refine PySem.W.callWith_KW0 (h₀ := X.base) I.ok.mod.kin hk hall ?_ hpl
  refine thn (hkw.run pos pins s σ H _ I h) fun ws s2 ⟨zs, H2, I2, rz, c, ds, dk, o, l, lk, h1, h2, hl, p⟩ => ⟨I2.kIn, ?_⟩
  rw [hks]
  exact run_cal F B hr tk I2 .nil rz o l lk h1 h2 p hl
section
variable {P : Program} {w : World} {K : PySem.W.Frag} {mg : Str → Option Value} {base : Heap}
/-- X runs within this program -/
structure In (X : Cx) (P : Program) (w : World) (K : PySem.W.Frag) (mg : Str → Option Value) (base : Heap) : Prop where
  p : X.prog = P
  w : X.w = w
  K : X.K = K
  mg : X.mg = mg
  b : X.base = base
variable {T : NT} {x : Str} {i k n : Nat} {RP : RPT} {fs : List Form} {m : List D → M D} {ks : List Str} {gD : List D → List D → List D} {tj : Nat}
end
end
end PV
end

section
namespace PV
open PySem PySem.Spec L2
open PyProof.Rows hiding St

/-! anchors -/
theorem Ext.anchor {c0 c1 : Cf} {H0 H1 : Hp} (x : Ext c0 H0 c1 H1) : Ext c1 H0 c1 H1 where
  keep := fun a o h n => by
    by_cases z : a ∈ c0.As
    · exact absurd (x.pre.subset z) n
    · exact x.keep a o h z
  there := x.there
  sub := Sub.refl _
  new := fun _ _ h => .inl h
  pre := List.prefix_rfl
  anew := fun _ h => .inl h
theorem Ext.back {c0 c1 c' : Cf} {H0 H1 H' : Hp} (x : Ext c0 H0 c1 H1) (y : Ext c1 H0 c' H') : Ext c0 H0 c' H' where
  keep := fun a o h n => by
    refine y.keep a o h fun z => ?_
    rcases x.anew a z with z | z
    · exact n z
    · rw [h] at z; cases z
  there := y.there
  sub := Sub.trans x.sub y.sub
  new := fun a o h => (y.new a o h).elim (x.new a o) .inr
  pre := x.pre.trans y.pre
  anew := fun a h => (y.anew a h).elim (x.anew a) .inr

/-! what a loop walks -/
structure ItOk (K : PySem.W.Frag) (G : ClsAt) (c1 : Cf) (Gd : Hp → Prop) (ds : List D) (J : It) : Prop where
  go : ∀ c H i, Sub c1.F c.F → c1.As <+: c.As → CfOk K G c H → Gd H → i < ds.length → J.go i H
  stop : ∀ c H, Sub c1.F c.F → c1.As <+: c.As → CfOk K G c H → Gd H → J.stop ds.length H
  yld : ∀ c H i x H' d, Sub c1.F c.F → c1.As <+: c.As → CfOk K G c H → Gd H → ds[i]? = some d → J.yld i H x H' → ∃ F', Ext c H ⟨F', c.As, c.st⟩ H' ∧ CfOk K G ⟨F', c.As, c.st⟩ H' ∧ Den K G c.As F' d x
abbrev PIt (K : PySem.W.Frag) (G : ClsAt) : Cf → Hp → List D → It → Prop := fun c _ ds J => ItOk K G c (fun _ => True) ds J
def tI (K : PySem.W.Frag) (G : ClsAt) (W : WX) (f : Env → M (List D)) : TI := fun σ H Q => ∃ H0 ρ c, CfOk K G c H ∧ Slots K G H0 c H ρ σ ∧ Post K G (PIt K G) (fun cls dx H' => W cls dx σ H') c H (f ρ c.st) Q
abbrev VI (G : ClsAt) (X : Cx) (W : WX) (tg e : Expr) (f : Env → M (List D)) : Prop := PI X tg e (tI X.K G W f)
theorem PI.imp {X : Cx} {tg e : Expr} {t t' : TI} (h : PI X tg e t) (i : ∀ σ H Q, t' σ H Q → t σ H Q) : PI X tg e t' := ⟨fun pins s σ H Q I q => h.run pins s σ H Q I (i σ H Q q)⟩
theorem PI.or {X : Cx} {tg e : Expr} {t t' : TI} (h : PI X tg e t) (h' : PI X tg e t') : PI X tg e (fun σ H Q => t σ H Q ∨ t' σ H Q) := ⟨fun pins s σ H Q I q => q.elim (h.run pins s σ H Q I) (h'.run pins s σ H Q I)⟩
section
variable {K : PySem.W.Frag} {G : ClsAt}
theorem it_list {c1 : Cf} {a : Addr} {xs : List D} (h : Den K G c1.As c1.F (.lst xs) (.ref a)) : ItOk K G c1 (fun _ => True) xs (Itl K a) := by
  cases h with
  | lst r l =>
    rename_i vs
    refine ⟨fun c H i s p o _ hi => ?_, fun c H s p o _ => ?_, fun c H i x H' d s p o _ e y => ?_⟩
    · obtain ⟨v, e, _⟩ := l.getD (List.getElem?_eq_getElem hi)
      exact ⟨vs, v, o.le.lst (SqL.sub s r), e⟩
    · exact ⟨vs, o.le.lst (SqL.sub s r), by rw [l.length]; exact Nat.le_refl _⟩
    · obtain ⟨rfl, y⟩ := y
      obtain ⟨v, e', h⟩ := l.getD e
      have := y vs (o.le.lst (SqL.sub s r))
      rw [e'] at this; cases this
      exact ⟨c.F, Ext.refl _ _, o, h.mono s p⟩
theorem it_tup {c1 : Cf} {a : Addr} {xs : List D} (h : Den K G c1.As c1.F (.tup xs) (.ref a)) : ItOk K G c1 (fun _ => True) xs (Itt K a) := by
  cases h with
  | tup r l =>
    rename_i vs
    refine ⟨fun c H i s p o _ hi => ?_, fun c H s p o _ => ?_, fun c H i x H' d s p o _ e y => ?_⟩
    · obtain ⟨v, e, _⟩ := l.getD (List.getElem?_eq_getElem hi)
      exact ⟨vs, v, o.le.tup (SqT.sub s r), e⟩
    · exact ⟨vs, o.le.tup (SqT.sub s r), by rw [l.length]; exact Nat.le_refl _⟩
    · obtain ⟨rfl, y⟩ := y
      obtain ⟨v, e', h⟩ := l.getD e
      have := y vs (o.le.tup (SqT.sub s r))
      rw [e'] at this; cases this
      exact ⟨c.F, Ext.refl _ _, o, h.mono s p⟩
def chrD (z : Str) : List D := z.cps.toList.map fun c => .str ⟨#[c]⟩
theorem it_str {c1 : Cf} {z : Str} : ItOk K G c1 (fun _ => True) (chrD z) (Its z) := by
  have hl : (chrD z).length = z.cps.size := by simp [chrD]
  refine ⟨fun c H i s p o _ hi => by rw [hl] at hi; exact hi, fun c H s p o _ => Nat.le_of_eq hl.symm, fun c H i x H' d s p o _ e y => ?_⟩
  obtain ⟨rfl, ch, e', rfl⟩ := y
  refine ⟨c.F, Ext.refl _ _, o, ?_⟩
  have e2 : (chrD z)[i]? = some (.str ⟨#[ch]⟩) := by
    unfold chrD
    rw [List.getElem?_map]
    have : z.cps.toList[i]? = some ch := by rw [← e']; simp
    rw [this]; rfl
  rw [e2] at e; cases e
  exact .str
def rangeD (lo : Int) (n : Nat) : List D := (List.range n).map fun i => .int (lo + (i : Nat))
theorem it_range {c1 : Cf} {lo : Int} {n : Nat} : ItOk K G c1 (fun _ => True) (rangeD lo n) (Itr lo n) := by
  have hl : (rangeD lo n).length = n := by simp [rangeD]
  refine ⟨fun c H i s p o _ hi => by rw [hl] at hi; exact hi, fun c H s p o _ => Nat.le_of_eq hl.symm, fun c H i x H' d s p o _ e y => ?_⟩
  obtain ⟨rfl, rfl⟩ := y
  refine ⟨c.F, Ext.refl _ _, o, ?_⟩
  have hi : i < n := by rw [← hl]; exact (List.getElem?_eq_some_iff.mp e).1
  have e2 : (rangeD lo n)[i]? = some (.int (lo + (i : Nat))) := by
    unfold rangeD
    rw [List.getElem?_map, List.getElem?_range hi]; rfl
  rw [e2] at e; cases e
  exact .int
/-- a pair just made is shared -/
theorem pair_new {c : Cf} {H : Hp} {T : Addr} {x y : D} {v w : V} (o : CfOk K G c H) (hn : H T = none) (h1 : Den K G c.As c.F x v) (h2 : Den K G c.As c.F y w) :
    ∃ F', Ext c H ⟨F', c.As, c.st⟩ (upd H T (.tup [v, w])) ∧ CfOk K G ⟨F', c.As, c.st⟩ (upd H T (.tup [v, w])) ∧ Den K G c.As F' (.tup [x, y]) (.ref T) := by
  have f : c.F T = none := o.le.none hn
  have g : ∀ a u, H a = some u → upd H T (.tup [v, w]) a = some u := fun a u q => by rw [upd_ne (fun z => by rw [z, hn] at q; cases q)]; exact q
  have nA : T ∉ c.As := fun z => by
    obtain ⟨_, u, q⟩ := o.mem z
    rw [hn] at q; cases q
  have o' := (o.grow g).share (a := T) (u := .tup [v, w]) upd_same nA f
  refine ⟨_, ⟨fun a u q n => g a u q, fun a u q => ⟨u, g a u q⟩, sub_upd f, fun a u q => ?_, List.prefix_rfl, fun _ h => .inl h⟩, o', .tup (SqT.of upd_same) (.cons (h1.mono (sub_upd f) List.prefix_rfl) (.cons (h2.mono (sub_upd f) List.prefix_rfl) .nil))⟩
  by_cases z : a = T
  · subst z; exact .inr hn
  · have q' : upd c.F T (.tup [v, w]) a = some u := q
    rw [upd_ne z] at q'; exact .inl q'
def enumD (xs : List D) : List D := xs.zipIdx.map fun p => .tup [.int (p.2 : Nat), p.1]
theorem it_enum {c1 : Cf} {a : Addr} {xs : List D} (h : Den K G c1.As c1.F (.lst xs) (.ref a)) : ItOk K G c1 (fun _ => True) (enumD xs) (Ite K a) := by
  have hl : (enumD xs).length = xs.length := by simp [enumD]
  cases h with
  | lst r l =>
    rename_i vs
    refine ⟨fun c H i s p o _ hi => ?_, fun c H s p o _ => ?_, fun c H i x H' d s p o _ e y => ?_⟩
    · rw [hl] at hi
      obtain ⟨v, e, _⟩ := l.getD (List.getElem?_eq_getElem hi)
      exact ⟨vs, v, o.le.lst (SqL.sub s r), e⟩
    · exact ⟨vs, o.le.lst (SqL.sub s r), by rw [hl, l.length]; exact Nat.le_refl _⟩
    · obtain ⟨T, z, rfl, hn, rfl, y⟩ := y
      have hi : i < xs.length := by rw [← hl]; exact (List.getElem?_eq_some_iff.mp e).1
      obtain ⟨v, e', h⟩ := l.getD (List.getElem?_eq_getElem hi)
      have := y vs (o.le.lst (SqL.sub s r))
      rw [e'] at this; cases this
      have e2 : (enumD xs)[i]? = some (.tup [.int (i : Nat), xs[i]]) := by
        unfold enumD
        rw [List.getElem?_map, List.getElem?_zipIdx, List.getElem?_eq_getElem hi]
        simp
      rw [e2] at e; cases e
      exact pair_new o hn .int (h.mono s p)
def zipD (xs ys : List D) : List D := (xs.zip ys).map fun p => .tup [p.1, p.2]
theorem it_zip {c1 : Cf} {a b : Addr} {xs ys : List D} (h : Den K G c1.As c1.F (.lst xs) (.ref a)) (h' : Den K G c1.As c1.F (.lst ys) (.ref b)) : ItOk K G c1 (fun _ => True) (zipD xs ys) (Itz K a b) := by
  have hl : (zipD xs ys).length = min xs.length ys.length := by simp [zipD]
  cases h with
  | lst r l =>
    rename_i vs
    cases h' with
    | lst r' l' =>
      rename_i ws
      refine ⟨fun c H i s p o _ hi => ?_, fun c H s p o _ => ?_, fun c H i x H' d s p o _ e y => ?_⟩
      · rw [hl] at hi
        obtain ⟨v, e, _⟩ := l.getD (List.getElem?_eq_getElem (show i < xs.length by omega))
        obtain ⟨w, e', _⟩ := l'.getD (List.getElem?_eq_getElem (show i < ys.length by omega))
        exact ⟨vs, ws, v, w, o.le.lst (SqL.sub s r), o.le.lst (SqL.sub s r'), e, e'⟩
      · refine ⟨vs, ws, o.le.lst (SqL.sub s r), o.le.lst (SqL.sub s r'), ?_⟩
        rw [hl, ← l.length, ← l'.length]; omega
      · obtain ⟨T, z, z', rfl, hn, rfl, y, y'⟩ := y
        have hi : i < min xs.length ys.length := by rw [← hl]; exact (List.getElem?_eq_some_iff.mp e).1
        have h1 : i < xs.length := by omega
        have h2 : i < ys.length := by omega
        obtain ⟨v, e1, hv⟩ := l.getD (List.getElem?_eq_getElem h1)
        obtain ⟨w, e2, hw⟩ := l'.getD (List.getElem?_eq_getElem h2)
        have t1 := y vs (o.le.lst (SqL.sub s r))
        rw [e1] at t1; cases t1
        have t2 := y' ws (o.le.lst (SqL.sub s r'))
        rw [e2] at t2; cases t2
        have e3 : (zipD xs ys)[i]? = some (.tup [xs[i], ys[i]]) := by
          unfold zipD
          rw [List.getElem?_map, show (xs.zip ys)[i]? = some (xs[i], ys[i]) from List.getElem?_zip_eq_some.mpr ⟨List.getElem?_eq_getElem h1, List.getElem?_eq_getElem h2⟩]
          rfl
        rw [e3] at e; cases e
        exact pair_new o hn (hv.mono s p) (hw.mono s p)
end
/-- what is in it -/
def seqM : D → M (List D)
  | .lst xs => pure xs
  | .tup xs => pure xs
  | .str z => pure (chrD z)
  | _ => no
def lstM : D → M (List D)
  | .lst xs => pure xs
  | _ => no
def tupM : D → M (List D)
  | .tup xs => pure xs
  | _ => no
def strM : D → M (List D)
  | .str z => pure (chrD z)
  | _ => no
def orM {α : Type} (a b : M α) : M α := fun s => match a s with
  | .no => b s
  | .ok x s' => .ok x s'
  | .err e s' => .err e s'
theorem orM_no {α : Type} {a b : M α} {s : Stt} (h : a s = .no) : orM a b s = b s := by unfold orM; rw [h]
theorem orM_ok {α : Type} {a b : M α} {s s' : Stt} {x : α} (h : a s = .ok x s') : orM a b s = .ok x s' := by unfold orM; rw [h]
theorem orM_err {α : Type} {a b : M α} {s s' : Stt} {x : Err} (h : a s = .err x s') : orM a b s = .err x s' := by unfold orM; rw [h]
section
variable {X : Cx} {G : ClsAt} {W : WX} {tg : Expr}
theorem vi_or {e : Expr} {f g : Env → M (List D)} (h : VI G X W tg e f) (h' : VI G X W tg e g) : VI G X W tg e (fun ρ => orM (f ρ) (g ρ)) :=
  PI.imp (PI.or h h') fun σ H Q ⟨H0, ρ, c, o, sl, p⟩ => by
    have p : Post X.K G (PIt X.K G) (fun cls dx H' => W cls dx σ H') c H (orM (f ρ) (g ρ) c.st) Q := p
    cases e : f ρ c.st with
    | no => rw [orM_no e] at p; exact .inr ⟨H0, ρ, c, o, sl, p⟩
    | err e' s' => rw [orM_err e] at p; exact .inl ⟨H0, ρ, c, o, sl, by rw [e]; exact p⟩
    | ok d s' => rw [orM_ok e] at p; exact .inl ⟨H0, ρ, c, o, sl, by rw [e]; exact p⟩
theorem vi_lst {e : Expr} {f : Env → M D} (he : VE G X W e f) : VI G X W tg e (fun ρ => do let x ← f ρ; lstM x) :=
  PI.imp (pi_list he) fun σ H Q ⟨H0, ρ, c, o, sl, p⟩ => tV_step rfl o sl p fun d v c1 H1 x1 o1 sl1 t1 p1 => by
    cases d with
    | lst xs => exact (by
        have t2 := t1
        cases t1 with
        | lst r l => exact ⟨_, rfl, ⟨_, o1.le.lst r⟩, Post.here (P := PIt X.K G) p1 o1 (fun _ _ h => h) (it_list t2)⟩)
    | _ => exact p1.elim
theorem vi_tup {e : Expr} {f : Env → M D} (he : VE G X W e f) : VI G X W tg e (fun ρ => do let x ← f ρ; tupM x) :=
  PI.imp (pi_tup he) fun σ H Q ⟨H0, ρ, c, o, sl, p⟩ => tV_step rfl o sl p fun d v c1 H1 x1 o1 sl1 t1 p1 => by
    cases d with
    | tup xs => exact (by
        have t2 := t1
        cases t1 with
        | tup r l => exact ⟨_, rfl, ⟨_, o1.le.tup r⟩, Post.here (P := PIt X.K G) p1 o1 (fun _ _ h => h) (it_tup t2)⟩)
    | _ => exact p1.elim
theorem vi_str {e : Expr} {f : Env → M D} (he : VE G X W e f) : VI G X W tg e (fun ρ => do let x ← f ρ; strM x) :=
  PI.imp (pi_str he) fun σ H Q ⟨H0, ρ, c, o, sl, p⟩ => tV_step rfl o sl p fun d v c1 H1 x1 o1 sl1 t1 p1 => by
    cases d with
    | str z =>
      cases t1
      exact ⟨_, rfl, Post.here (P := PIt X.K G) p1 o1 (fun _ _ h => h) it_str⟩
    | _ => exact p1.elim
theorem vi_seq {e : Expr} {f : Env → M D} (he : VE G X W e f) : VI G X W tg e (fun ρ => do let x ← f ρ; seqM x) := by
  have h := vi_or (vi_lst (tg := tg) he) (vi_or (vi_tup he) (vi_str he))
  have e : (fun ρ => orM (do let x ← f ρ; lstM x) (orM (do let x ← f ρ; tupM x) (do let x ← f ρ; strM x))) = (fun ρ => do let x ← f ρ; seqM x) := by
    funext ρ s
    show orM (M.bind (f ρ) fun x => lstM x) (orM (M.bind (f ρ) fun x => tupM x) (M.bind (f ρ) fun x => strM x)) s = M.bind (f ρ) (fun x => seqM x) s
    unfold orM M.bind
    cases f ρ s with
    | ok d s' => cases d <;> rfl
    | err _ _ => rfl
    | no => rfl
  rw [← e]; exact h
abbrev NUM : Int := 4611686018427387904
def rng1 : D → M (List D)
  | .int j => if -NUM ≤ j ∧ j < NUM then pure (rangeD 0 j.toNat) else no
  | _ => no
def rng2 : D → D → M (List D)
  | .int i, .int j => if (-NUM ≤ i ∧ i < NUM) ∧ -NUM ≤ j ∧ j < NUM then pure (rangeD i (j - i).toNat) else no
  | _, _ => no
theorem vi_range1 {a : Expr} {f : Env → M D} {p pos : Pos} (hm : X.mg "range" = none) (ha : VR G X W a f) (hg : Gl X "range" := by rfl) (hs : starEach [a] X.env = [(false, eval a X.env)] := by rfl) : VI G X W tg (.Call (.Name "range" p) [a] [] pos) (fun ρ => do let x ← f ρ; rng1 x) :=
  PI.imp (pi_range1 hg hm (va1 ha hs) hs) fun σ H Q ⟨H0, ρ, c, o, sl, p⟩ => tR_step rfl o sl p fun d v c1 H1 x1 o1 sl1 t1 p1 => by
    cases d with
    | int j =>
      have e := t1.int
      subst e
      change Post X.K G (PIt X.K G) _ c1 H1 ((if -NUM ≤ j ∧ j < NUM then pure (rangeD 0 j.toNat) else no : M (List D)) c1.st) Q at p1
      by_cases hj : -NUM ≤ j ∧ j < NUM
      · rw [if_pos hj] at p1
        exact ⟨j, rfl, hj.1, hj.2, Post.here (P := PIt X.K G) p1 o1 (fun _ _ h => h) it_range⟩
      · rw [if_neg hj] at p1; exact p1.elim
    | _ => exact p1.elim
theorem vi_range2 {a b : Expr} {f g : Env → M D} {p pos : Pos} (hm : X.mg "range" = none) (ha : VR G X W a f) (hb : VR G X W b g) (hg : Gl X "range" := by rfl) (hs : starEach [a, b] X.env = [(false, eval a X.env), (false, eval b X.env)] := by rfl) (hs2 : starEach [b] X.env = [(false, eval b X.env)] := by rfl) :
    VI G X W tg (.Call (.Name "range" p) [a, b] [] pos) (fun ρ => do let x ← f ρ; let y ← g ρ; rng2 x y) :=
  PI.imp (pi_range2 hg hm (va2 ha hb hs hs2) hs hs2) fun σ H Q ⟨H0, ρ, c, o, sl, p⟩ => tR_step rfl o sl p fun d v c1 H1 x1 o1 sl1 t1 p1 => tR_step rfl o1 sl1 p1 fun d' v' c2 H2 x2 o2 sl2 t2 p2 => by
    cases d with
    | int i =>
      cases d' with
      | int j =>
        have e := t1.int
        subst e
        have e := t2.int
        subst e
        change Post X.K G (PIt X.K G) _ c2 H2 ((if (-NUM ≤ i ∧ i < NUM) ∧ -NUM ≤ j ∧ j < NUM then pure (rangeD i (j - i).toNat) else no : M (List D)) c2.st) Q at p2
        by_cases hj : (-NUM ≤ i ∧ i < NUM) ∧ -NUM ≤ j ∧ j < NUM
        · rw [if_pos hj] at p2
          exact ⟨i, j, rfl, ⟨hj.1.1, hj.1.2, hj.2.1, hj.2.2⟩, Post.here (P := PIt X.K G) p2 o2 (fun _ _ h => h) it_range⟩
        · rw [if_neg hj] at p2; exact p2.elim
      | _ => exact p2.elim
    | _ => cases d' <;> exact p2.elim
def tS1 (K : PySem.W.Frag) (G : ClsAt) (W : WX) (f : Env → M D) : TA := fun σ H Q => tV K G W f σ H fun v H' => Q [v] H'
theorem pa1 {e : Expr} {f : Env → M D} (he : VE G X W e f) (hst : starEach [e] X.env = [(false, eval e X.env)] := by rfl) : PA X [e] (tS1 X.K G W f) := PA.imp (pa_cons he pa_nil hst) fun σ H Q h => h
def tS2 (K : PySem.W.Frag) (G : ClsAt) (W : WX) (f g : Env → M D) : TA := fun σ H Q => tV K G W f σ H fun v H' => tV K G W g σ H' fun w H2 => Q [v, w] H2
theorem pa2 {e e' : Expr} {f g : Env → M D} (he : VE G X W e f) (he' : VE G X W e' g) (h1 : starEach [e, e'] X.env = (false, eval e X.env) :: starEach [e'] X.env := by rfl) (h2 : starEach [e'] X.env = [(false, eval e' X.env)] := by rfl) : PA X [e, e'] (tS2 X.K G W f g) := PA.imp (pa_cons he (pa_cons he' pa_nil h2) h1) fun σ H Q h => h
def enumM : D → M (List D)
  | .lst xs => pure (enumD xs)
  | _ => no
def zipM : D → D → M (List D)
  | .lst xs, .lst ys => pure (zipD xs ys)
  | _, _ => no
theorem vi_enum {e : Expr} {f : Env → M D} {elts : List Expr} {kk : Nat} {tpos p pos : Pos} (hm : X.mg "enumerate" = none) (he : VE G X W e f) (hg : Gl X "enumerate" := by rfl) (hs : starEach [e] X.env = [(false, eval e X.env)] := by rfl) :
    VI G X W (.Tuple elts kk tpos) (.Call (.Name "enumerate" p) [e] [] pos) (fun ρ => do let x ← f ρ; enumM x) :=
  PI.imp (pi_enum hg hm (pa1 he hs) hs) fun σ H Q ⟨H0, ρ, c, o, sl, p⟩ => tV_step rfl o sl p fun d v c1 H1 x1 o1 sl1 t1 p1 => by
    cases d with
    | lst xs =>
      have t2 := t1
      cases t1 with
      | lst r l => exact ⟨_, _, rfl, o1.le.lst r, Post.here (P := PIt X.K G) p1 o1 (fun _ _ h => h) (it_enum t2)⟩
    | _ => exact p1.elim
theorem vi_zip {e e2 : Expr} {f g : Env → M D} {elts : List Expr} {kk : Nat} {tpos p pos : Pos} (hm : X.mg "zip" = none) (he : VE G X W e f) (he2 : VE G X W e2 g) (hg : Gl X "zip" := by rfl) (hs : starEach [e, e2] X.env = (false, eval e X.env) :: starEach [e2] X.env := by rfl) (hs2 : starEach [e2] X.env = [(false, eval e2 X.env)] := by rfl)
    (hpl : (backTo pos (starEach [e2] X.env)).any (·.1) = false := by rfl) : VI G X W (.Tuple elts kk tpos) (.Call (.Name "zip" p) [e, e2] [] pos) (fun ρ => do let x ← f ρ; let y ← g ρ; zipM x y) :=
  PI.imp (pi_zip hg hm (pa2 he he2 hs hs2) hs hpl) fun σ H Q ⟨H0, ρ, c, o, sl, p⟩ => tV_step rfl o sl p fun d v c1 H1 x1 o1 sl1 t1 p1 => tV_step rfl o1 sl1 p1 fun d' v' c2 H2 x2 o2 sl2 t2 p2 => by
    cases d with
    | lst xs =>
      cases d' with
      | lst ys =>
        have t1 := t1.mono x2.sub x2.pre
        have u1 := t1
        have u2 := t2
        cases t1 with
        | lst r l =>
          cases t2 with
          | lst r' l' => exact ⟨_, _, _, _, rfl, o2.le.lst r, o2.le.lst r', Post.here (P := PIt X.K G) p2 o2 (fun _ _ h => h) (it_zip u1 u2)⟩
      | _ => exact p2.elim
    | _ => cases d' <;> exact p2.elim
end

/-! targets -/
/-- vs: the slots it may store to -/
def tG (K : PySem.W.Frag) (G : ClsAt) (vs : List Nat) (g : D → Env → Option Env) : TG := fun v σ H Q => ∃ H0 c ρ d ρ', CfOk K G c H ∧ Slots K G H0 c H ρ σ ∧ Den K G c.As c.F d v ∧ g d ρ = some ρ' ∧ ∀ σ', Slots K G H0 c H ρ' σ' → wipe σ' vs = wipe σ vs → Q σ' H
abbrev VG (G : ClsAt) (X : Cx) (tg : Expr) (vs : List Nat) (g : D → Env → Option Env) : Prop := PG X tg (tG X.K G vs g)
theorem PG.imp {X : Cx} {tg : Expr} {t t' : TG} (h : PG X tg t) (i : ∀ v σ H Q, t' v σ H Q → t v σ H Q) : PG X tg t' := ⟨fun pins s σ H v u Q I r q => h.run pins s σ H v u Q I r (i v σ H Q q)⟩
theorem PGs.imp {X : Cx} {tg : List Expr} {t t' : TGs} (h : PGs X tg t) (i : ∀ v σ H Q, t' v σ H Q → t v σ H Q) : PGs X tg t' := ⟨fun pins s σ H v u Q I r q => h.run pins s σ H v u Q I r (i v σ H Q q)⟩
theorem wipe_set {σ : L2.St} {i : Nat} {v : Option V} : ∀ {vs : List Nat}, i ∈ vs → wipe (σ.set i v) vs = wipe σ vs
  | j :: vs, h => by
    unfold wipe
    by_cases z : i ∈ vs
    · rw [wipe_set z]
    · rcases List.mem_cons.mp h with e | e
      · subst e
        have key : ∀ (vs : List Nat), i ∉ vs → wipe (σ.set i v) vs = (wipe σ vs).set i v := fun vs => by
          induction vs with
          | nil => intro _; rfl
          | cons j vs ih =>
            intro n
            simp only [List.mem_cons, not_or] at n
            unfold wipe
            rw [ih n.2, List.set_comm _ _ (fun e => n.1 e)]
        rw [key vs z, List.set_set]
      · exact absurd e z
theorem DenL.inv {K : PySem.W.Frag} {G : ClsAt} {As : List Addr} {F : Hp} {ds : List D} {vs : List V} (h : DenL K G As F ds vs) : (ds = [] ∧ vs = []) ∨ ∃ d dr v vr, ds = d :: dr ∧ vs = v :: vr ∧ Den K G As F d v ∧ DenL K G As F dr vr := by
  cases h with
  | nil => exact .inl ⟨rfl, rfl⟩
  | cons h l => exact .inr ⟨_, _, _, _, rfl, rfl, h, l⟩
def gNm (i : Nat) : D → Env → Option Env := fun d ρ => some (ρ.set i (.val d))
def tGs (K : PySem.W.Frag) (G : ClsAt) (vs : List Nat) (g : List D → Env → Option Env) : TGs := fun v σ H Q => ∃ H0 c ρ d ρ', CfOk K G c H ∧ Slots K G H0 c H ρ σ ∧ DenL K G c.As c.F d v ∧ g d ρ = some ρ' ∧ ∀ σ', Slots K G H0 c H ρ' σ' → wipe σ' vs = wipe σ vs → Q σ' H
abbrev VGs (G : ClsAt) (X : Cx) (tg : List Expr) (vs : List Nat) (g : List D → Env → Option Env) : Prop := PGs X tg (tGs X.K G vs g)
def gsNil : List D → Env → Option Env
  | [], ρ => some ρ
  | _, _ => none
def gsCons (g : D → Env → Option Env) (gs : List D → Env → Option Env) : List D → Env → Option Env
  | d :: ds, ρ => (g d ρ).bind (gs ds)
  | [], _ => none
def gTp (n : Nat) (gs : List D → Env → Option Env) : D → Env → Option Env
  | .tup ds, ρ => if ds.length = n then gs ds ρ else none
  | _, _ => none
section
variable {X : Cx} {G : ClsAt} {W : WX} {T : NT} {vs : List Nat}
theorem vg_name {x : Str} {k : NameKind} {i : Nat} {pos : Pos} (on : On X T) (j : Nat) (hv : i ∈ vs) (h : T[j]? = some (x, k, i) := by rfl) (hk : k = .local ∨ k = .cell := by first | exact .inl rfl | exact .inr rfl) (hf : X.fn x = true ∨ k = .local := by first | exact .inr rfl | assumption) : VG G X (.Name x pos) vs (gNm i) :=
  PG.imp (pg_name on.nd (on.at h (by rcases hk with rfl | rfl <;> rfl)) (on.loc h hk) (hf.elim .inl fun z => .inr (by rw [on.kind h, z]))) fun v σ H Q ⟨H0, c, ρ, d, ρ', o, sl, t, e, q⟩ => by
    cases e
    exact q _ (sl.val i t) (wipe_set hv)
theorem vgs_nil : VGs G X [] vs gsNil := PGs.imp pgs_nil fun v σ H Q ⟨H0, c, ρ, d, ρ', o, sl, t, e, q⟩ => by
  cases t with
  | nil => cases e; exact ⟨rfl, q _ sl rfl⟩
  | cons _ _ => cases e
theorem vgs_cons {e : Expr} {es : List Expr} {g : D → Env → Option Env} {gs : List D → Env → Option Env} (h1 : VG G X e vs g) (h2 : VGs G X es vs gs) (hs : (assignEach (e :: es) X.env).map (·.2) = assign e X.env :: (assignEach es X.env).map (·.2) := by rfl) : VGs G X (e :: es) vs (gsCons g gs) :=
  PGs.imp (pgs_cons h1 h2 hs) fun v σ H Q ⟨H0, c, ρ, d, ρ', o, sl, t, e, q⟩ => by
    rcases t.inv with ⟨rfl, rfl⟩ | ⟨d, ds, v, vs', rfl, rfl, t, ts⟩
    · cases e
    · have e : (g d ρ).bind (gs ds) = some ρ' := e
      cases e1 : g d ρ with
      | none => rw [e1] at e; cases e
      | some ρ1 =>
        rw [e1] at e
        exact ⟨_, _, rfl, H0, c, ρ, d, ρ1, o, sl, t, e1, fun σ1 sl1 w1 => ⟨H0, c, ρ1, ds, ρ', o, sl1, ts, e, fun σ2 sl2 w2 => q σ2 sl2 (w2.trans w1)⟩⟩
theorem vg_tup {es : List Expr} {k n : Nat} {gs : List D → Env → Option Env} {pos : Pos} (on : On X T) (h : VGs G X es vs gs) (hn : (assignEach es X.env).length = n := by rfl) (hst : (assignEach es X.env).findIdx? (·.1) = none := by rfl) : VG G X (.Tuple es k pos) vs (gTp n gs) :=
  PG.imp (pg_tup on.calm h hn hst) fun v σ H Q ⟨H0, c, ρ, d, ρ', o, sl, t, e, q⟩ => by
    cases d with
    | tup ds =>
      cases t with
      | tup r l =>
        have e : (if ds.length = n then gs ds ρ else none) = some ρ' := e
        by_cases hl : ds.length = n
        · rw [if_pos hl] at e
          exact ⟨_, _, rfl, o.le.tup r, by rw [← l.length]; exact hl, H0, c, ρ, ds, ρ', o, sl, l, e, q⟩
        · rw [if_neg hl] at e; cases e
    | _ => cases e

/-! for -/
def sFor (g : D → Env → Option Env) (m : SM) : List D → SM
  | [] => sNil
  | d :: ds => fun ρ s => match g d ρ with
    | none => .no
    | some ρ' => match m ρ' s with
      | .nx ρ2 s2 => sFor g m ds ρ2 s2
      | .ct ρ2 s2 => sFor g m ds ρ2 s2
      | .bk ρ2 s2 => .nx ρ2 s2
      | r => r
def sForM (f : Env → M (List D)) (g : D → Env → Option Env) (m : SM) : SM := fun ρ s => sB (f ρ) ρ (fun ds s' => sFor g m ds ρ s') s
theorem for_core {RP : RPT} {tg : Expr} {m : SM} {g : D → Env → Option Env} {c0 c : Cf} {H0 H : Hp} {σ : L2.St} {ρ : Env} {ds : List D} {J : It} {D : Ends} {Gd : Hp → Prop} (it : ItOk X.K G c0 Gd ds J) (hG : ∀ c H, Ext c0 H0 c H → Gd H) (x : Ext c0 H0 c H) (o : CfOk X.K G c H) (sl : Slots X.K G H0 c H ρ σ)
    (p : SPost X.K G RP W c0 H0 (sFor g m ds ρ c.st) D) :
    ∃ Wf : Nat → Nat → L2.St → Hp → Prop, (∃ m, Wf 0 m σ H) ∧ ∀ i n σ H, Wf i n σ H →
      (J.stop i H ∧ D.nx σ H) ∨ (J.go i H ∧ ∃ N : L2.St → Hp → Prop, (∀ σ' H', N σ' H' → ∃ m', m' < n ∧ Wf (i + 1) m' σ' H') ∧ ∀ x H', J.yld i H x H' → tG X.K G vs g x σ H' fun σ2 H2 => tS X.K G RP W m { D with nx := N, ct := N, bk := D.nx } σ2 H2) := by
  let Pv : Nat → L2.St → Hp → Prop := fun i σ H => ∃ ρ c, Ext c0 H0 c H ∧ CfOk X.K G c H ∧ Slots X.K G H0 c H ρ σ ∧ SPost X.K G RP W c0 H0 (sFor g m (ds.drop i) ρ c.st) D
  refine ⟨fun i n σ H => n = ds.length - i ∧ i ≤ ds.length ∧ Pv i σ H, ⟨ds.length, by simp, Nat.zero_le _, ρ, c, x, o, sl, p⟩, ?_⟩
  rintro i n σ H ⟨rfl, hi, ρ, c, x, o, sl, p⟩
  by_cases hlt : i < ds.length
  · refine .inr ⟨it.go c H i x.sub x.pre o (hG c H x) hlt, Pv (i + 1), fun σ' H' q => ⟨ds.length - (i + 1), by omega, rfl, hlt, q⟩, fun v H' y => ?_⟩
    have ei : ds[i]? = some ds[i] := List.getElem?_eq_getElem hlt
    obtain ⟨F', x', o', h'⟩ := it.yld c H i v H' ds[i] x.sub x.pre o (hG c H x) ei y
    rw [List.drop_eq_getElem_cons hlt] at p
    unfold sFor at p
    cases e : g ds[i] ρ with
    | none => rw [e] at p; exact p.elim
    | some ρ' =>
      rw [e] at p
      refine ⟨H0, _, ρ, ds[i], ρ', o', sl.ext x', h', e, fun σ2 sl2 _ => ⟨c0, H0, ρ', _, x.trans x', o', sl2, ?_⟩⟩
      show SPost X.K G RP W c0 H0 (m ρ' c.st) _
      have p : SPost X.K G RP W c0 H0 (match m ρ' c.st with
        | .nx ρ2 s2 => sFor g m (ds.drop (i + 1)) ρ2 s2
        | .ct ρ2 s2 => sFor g m (ds.drop (i + 1)) ρ2 s2
        | .bk ρ2 s2 => .nx ρ2 s2
        | r => r) D := p
      cases e2 : m ρ' c.st with
      | nx ρ2 s2 => rw [e2] at p; exact fun σ3 F3 As3 H3 x3 o3 sl3 => ⟨ρ2, _, x3, o3, sl3, p⟩
      | ct ρ2 s2 => rw [e2] at p; exact fun σ3 F3 As3 H3 x3 o3 sl3 => ⟨ρ2, _, x3, o3, sl3, p⟩
      | bk ρ2 s2 => rw [e2] at p; exact p
      | rt d s2 => rw [e2] at p; exact p
      | err e' ρ2 s2 => rw [e2] at p; exact p
      | no => rw [e2] at p; exact p.elim
  · have e : i = ds.length := by omega
    subst e
    rw [List.drop_length] at p
    exact .inl ⟨it.stop c H x.sub x.pre o (hG c H x), p σ c.F c.As H x o sl⟩
/-- another anchor -/
theorem SPost.anchor {RP : RPT} {K : PySem.W.Frag} {c0 c1 : Cf} {H0 H1 : Hp} {r : SR} {D : Ends} (x : Ext c0 H0 c1 H1) (p : SPost K G RP W c0 H0 r D) : SPost K G RP W c1 H0 r D := by
  cases r with
  | nx ρ' st' => exact fun σ' F' As' H' x' => p σ' F' As' H' (x.back x')
  | bk ρ' st' => exact fun σ' F' As' H' x' => p σ' F' As' H' (x.back x')
  | ct ρ' st' => exact fun σ' F' As' H' x' => p σ' F' As' H' (x.back x')
  | rt d st' => exact fun v F' As' H' x' => p v F' As' H' (x.back x')
  | err e ρ' st' => exact fun σ' F' As' H' cls dx x' => p σ' F' As' H' cls dx (x.back x')
  | no => exact p
theorem vs_for {RP : RPT} {tg iter : Expr} {body : List Stmt} {f : Env → M (List D)} {g : D → Env → Option Env} {m : SM} {pos : Pos} (hp : PassesOwn (model X.prog X.w) X.A X.env X.xe) (on : On X T) (hi : VI G X W tg iter f) (hg : VG G X tg vs g) (hb : VSs G X W RP body m)
    (hs : ∀ x, foldedSetIterable iter X.env x = pure x := by intro _; rfl) : VS G X W RP (.For tg iter body [] pos) (sForM f g m) :=
  PS.imp (ps_for hp on.calm hi hg hb hs) fun D σ H ⟨c0, H0, ρ, c, x, o, sl, p⟩ =>
    ⟨H0, ρ, c, o, sl, s_step x sl p fun ds J c' H' _ x' o' sl' it p' => for_core (tg := tg) it (fun _ _ _ => trivial) x'.anchor o' sl' (p'.anchor x')⟩
end
end PV
end

section
namespace PV
open PySem PySem.Spec L2
open PyProof.Rows hiding St

/-! an object written -/
section
variable {K : PySem.W.Frag} {G : ClsAt}
theorem CfOk.updFree {c : Cf} {H : Hp} (o : CfOk K G c H) {a : Addr} {u : HO} (n : a ∉ c.As) (f : c.F a = none) : CfOk K G c (upd H a u) := by
  refine ⟨fun b v q => ?_, o.len, o.nd, fun i b d e1 e2 => ?_⟩
  · have z : b ≠ a := fun z => by rw [z, f] at q; cases q
    rw [upd_ne z]; exact o.le b v q
  · obtain ⟨q1, q2⟩ := o.obj i b d e1 e2
    have z : b ≠ a := fun z => n (by rw [← z]; exact List.mem_of_getElem? e1)
    exact ⟨q1, q2.mono (Sub.refl _) List.prefix_rfl fun v q => by rw [upd_ne z]; exact q⟩
theorem ext_updNew {c0 c : Cf} {H0 H : Hp} (x : Ext c0 H0 c H) {a : Addr} {u : HO} (n : H0 a = Option.none) : Ext c0 H0 c (upd H a u) where
  keep := fun b o h m => by rw [upd_ne (fun z => by rw [z, n] at h; cases h)]; exact x.keep b o h m
  there := fun b o h => by
    obtain ⟨o', h'⟩ := x.there b o h
    by_cases z : b = a
    · subst z; exact ⟨_, upd_same⟩
    · exact ⟨o', by rw [upd_ne z]; exact h'⟩
  sub := x.sub
  new := x.new
  pre := x.pre
  anew := x.anew
/-- one's own object behind slot i is written -/
theorem own_write {c0 c : Cf} {H0 H : Hp} {ρ : Env} {σ : L2.St} {i : Nat} {d d' : D} (x : Ext c0 H0 c H) (o : CfOk K G c H) (sl : Slots K G H0 c H ρ σ) (e : ρ[i]? = some (.own d)) : ∃ a, σ[i]? = some (some (.ref a)) ∧ OwnAt K G c.As c.F H a d ∧
    ∀ u, OwnAt K G c.As c.F (upd H a u) a d' → Ext c0 H0 c (upd H a u) ∧ CfOk K G c (upd H a u) ∧ Slots K G H0 c (upd H a u) (ρ.set i (.own d')) σ := by
  have hl : i < σ.length := by rw [← sl.len]; exact (List.getElem?_eq_some_iff.mp e).1
  obtain ⟨a, e2, f, n, w⟩ := sl.ok i _ _ e (List.getElem?_eq_getElem hl)
  have e3 : σ[i]? = some (some (.ref a)) := by rw [List.getElem?_eq_getElem hl, e2]
  have h0 := sl.mine i d a e e3
  refine ⟨a, e3, w, fun u w' => ⟨ext_updNew x h0, o.updFree n f, ?_⟩⟩
  have old : ∀ {j : Nat} {s : Slot}, (ρ.set i (.own d'))[j]? = some s → (j = i ∧ s = .own d') ∨ (j ≠ i ∧ ρ[j]? = some s) := fun h => by
    rcases get_set h with ⟨h1, h2, _⟩ | h
    · exact .inl ⟨h1, h2⟩
    · exact .inr h
  refine ⟨by simpa using sl.len, fun j s oo e1 e9 => ?_, fun j l d1 d2 b e1 e2 e4 e5 => ?_, fun j d1 b e1 e9 => ?_⟩
  · rcases old e1 with ⟨rfl, rfl⟩ | ⟨hj, e1⟩
    · rw [e3] at e9; cases e9; exact ⟨a, rfl, f, n, w'⟩
    · have k := sl.ok j s oo e1 e9
      cases s with
      | no => trivial
      | val d1 => exact k
      | own d1 =>
        obtain ⟨b, rfl, f1, n1, w1⟩ := k
        have z : b ≠ a := fun z => hj (sl.sep j i d1 d a e1 e (by rw [← z]; exact e9) e3)
        exact ⟨b, rfl, f1, n1, w1.mono (Sub.refl _) List.prefix_rfl fun v q => by rw [upd_ne z]; exact q⟩
  · have un : ∀ {j : Nat} {d1 : D}, (ρ.set i (.own d'))[j]? = some (.own d1) → ∃ d2, ρ[j]? = some (.own d2) := fun h => by
      rcases old h with ⟨rfl, _⟩ | ⟨_, h⟩
      · exact ⟨_, e⟩
      · exact ⟨_, h⟩
    obtain ⟨d3, e1⟩ := un e1
    obtain ⟨d4, e2⟩ := un e2
    exact sl.sep j l d3 d4 b e1 e2 e4 e5
  · rcases old e1 with ⟨rfl, _⟩ | ⟨_, e1⟩
    · exact sl.mine j d b e e9
    · exact sl.mine j d1 b e1 e9
/-- a store's object is written -/
theorem obj_write {c0 c : Cf} {H0 H : Hp} {ρ : Env} {σ : L2.St} {n : Nat} {a : Addr} {d' : D} {u : HO} (x : Ext c0 H0 c H) (o : CfOk K G c H) (sl : Slots K G H0 c H ρ σ) (e : c.As[n]? = some a) (w' : OwnAt K G c.As c.F (upd H a u) a d') :
    Ext c0 H0 ⟨c.F, c.As, c.st.set n d'⟩ (upd H a u) ∧ CfOk K G ⟨c.F, c.As, c.st.set n d'⟩ (upd H a u) ∧ Slots K G H0 ⟨c.F, c.As, c.st.set n d'⟩ (upd H a u) ρ σ := by
  have hm : a ∈ c.As := List.mem_of_getElem? e
  obtain ⟨f, v0, hv0⟩ := o.mem hm
  refine ⟨⟨fun b v h m => ?_, fun b v h => ?_, x.sub, x.new, x.pre, x.anew⟩, ⟨fun b v q => ?_, by simpa using o.len, o.nd, fun i b d e1 e2 => ?_⟩, sl.len, fun j s oo e1 e2 => ?_, sl.sep, sl.mine⟩
  · have z : b ≠ a := fun z => by
      rcases x.anew a hm with k | k
      · exact m (by rw [z]; exact k)
      · rw [z, k] at h; cases h
    rw [upd_ne z]; exact x.keep b v h m
  · obtain ⟨o', h'⟩ := x.there b v h
    by_cases z : b = a
    · subst z; exact ⟨_, upd_same⟩
    · exact ⟨o', by rw [upd_ne z]; exact h'⟩
  · have z : b ≠ a := fun z => by
      have q' : c.F b = some v := q
      rw [z, f] at q'; cases q'
    rw [upd_ne z]; exact o.le b v q
  · have e2 : (c.st.set n d')[i]? = some d := e2
    have e1 : c.As[i]? = some b := e1
    rcases get_set e2 with ⟨rfl, rfl, _⟩ | ⟨hi, e2⟩
    · rw [e] at e1; cases e1; exact ⟨f, w'⟩
    · have z : b ≠ a := fun z => by
        subst z
        obtain ⟨h1, g1⟩ := List.getElem?_eq_some_iff.mp e
        obtain ⟨h2, g2⟩ := List.getElem?_eq_some_iff.mp e1
        exact hi ((List.getElem_inj (h₀ := h2) (h₁ := h1) o.nd).mp (g2.trans g1.symm))
      obtain ⟨q1, q2⟩ := o.obj i b d e1 e2
      exact ⟨q1, q2.mono (Sub.refl _) List.prefix_rfl fun v q => by rw [upd_ne z]; exact q⟩
  · have k := sl.ok j s oo e1 e2
    cases s with
    | no => trivial
    | val d1 => exact k
    | own d1 =>
      obtain ⟨b, rfl, f1, n1, w1⟩ := k
      have z : b ≠ a := fun z => n1 (by rw [z]; exact hm)
      exact ⟨b, rfl, f1, n1, w1.mono (Sub.refl _) List.prefix_rfl fun v q => by rw [upd_ne z]; exact q⟩
theorem own_den {c : Cf} {H : Hp} {a : Addr} {d : D} (f : c.F a = none) (w : OwnAt K G c.As c.F H a d) : ∃ u, H a = some u ∧ Den K G c.As (upd c.F a u) d (.ref a) := by
  cases d with
  | lst xs =>
    obtain ⟨vs, h, l⟩ := w
    exact ⟨_, h, .lst (SqL.of upd_same) (l.mono (sub_upd f) List.prefix_rfl)⟩
  | dic ks =>
    obtain ⟨vs, h, l⟩ := w
    exact ⟨_, h, .dic (.inl upd_same) (l.mono (sub_upd f) List.prefix_rfl)⟩
  | ins k fs =>
    obtain ⟨dx, vs, h, l⟩ := w
    exact ⟨_, h, .ins upd_same (l.mono (sub_upd f) List.prefix_rfl)⟩
  | _ => exact w.elim
/-- one's own becomes shared: no code -/
theorem own_share {c0 c : Cf} {H0 H : Hp} {ρ : Env} {σ : L2.St} {i : Nat} {d : D} (x : Ext c0 H0 c H) (o : CfOk K G c H) (sl : Slots K G H0 c H ρ σ) (e : ρ[i]? = some (.own d)) :
    ∃ F2, Ext c0 H0 ⟨F2, c.As, c.st⟩ H ∧ CfOk K G ⟨F2, c.As, c.st⟩ H ∧ Slots K G H0 ⟨F2, c.As, c.st⟩ H (ρ.set i (.val d)) σ := by
  have hl : i < σ.length := by rw [← sl.len]; exact (List.getElem?_eq_some_iff.mp e).1
  obtain ⟨a, e2, f, n, w⟩ := sl.ok i _ _ e (List.getElem?_eq_getElem hl)
  have e3 : σ[i]? = some (some (.ref a)) := by rw [List.getElem?_eq_getElem hl, e2]
  have h0 := sl.mine i d a e e3
  obtain ⟨u, hu, t⟩ := own_den f w
  refine ⟨upd c.F a u, ⟨x.keep, x.there, Sub.trans x.sub (sub_upd f), fun b v q => ?_, x.pre, x.anew⟩, o.share hu n f, ⟨by simpa using sl.len, fun j s oo e1 e9 => ?_, fun j l d1 d2 b e1 e2 e4 e5 => ?_, fun j d1 b e1 e9 => ?_⟩⟩
  · by_cases z : b = a
    · subst z; exact .inr h0
    · have q' : upd c.F a u b = some v := q
      rw [upd_ne z] at q'
      exact x.new b v q'
  · rcases get_set e1 with ⟨rfl, rfl, _⟩ | ⟨hj, e1⟩
    · rw [e3] at e9; cases e9; exact ⟨_, rfl, t⟩
    · have k := sl.ok j s oo e1 e9
      cases s with
      | no => trivial
      | val d1 => obtain ⟨v, rfl, k⟩ := k; exact ⟨v, rfl, k.mono (sub_upd f) List.prefix_rfl⟩
      | own d1 =>
        obtain ⟨b, rfl, f1, n1, w1⟩ := k
        have z : b ≠ a := fun z => hj (sl.sep j i d1 d a e1 e (by rw [← z]; exact e9) e3)
        exact ⟨b, rfl, by show upd c.F a u b = none; rw [upd_ne z]; exact f1, n1, w1.mono (sub_upd f) List.prefix_rfl fun v q => q⟩
  · rcases get_set e1 with ⟨_, z, _⟩ | ⟨_, e1⟩
    · cases z
    · rcases get_set e2 with ⟨_, z, _⟩ | ⟨_, e2⟩
      · cases z
      · exact sl.sep j l d1 d2 b e1 e2 e4 e5
  · rcases get_set e1 with ⟨_, z, _⟩ | ⟨_, e1⟩
    · cases z
    · exact sl.mine j d1 b e1 e9
end
/-- slot i is shared from here on -/
def sFrz (i : Nat) : SM := fun ρ s => match ρ[i]? with
  | some (.own d) => .nx (ρ.set i (.val d)) s
  | some (.val _) => .nx ρ s
  | _ => .no
section
variable {X : Cx} {G : ClsAt} {W : WX} {RP : RPT} {T : NT}
theorem frz_pre {K : PySem.W.Frag} {m : SM} {i : Nat} {σ : L2.St} {H : Hp} {D : Ends} (h : tS K G RP W (sSeq (sFrz i) m) D σ H) : tS K G RP W m D σ H := by
  obtain ⟨c0, H0, ρ, c, x, o, sl, p⟩ := h
  unfold sSeq sFrz at p
  cases e : ρ[i]? with
  | none => rw [e] at p; exact p.elim
  | some s =>
    rw [e] at p
    cases s with
    | no => exact p.elim
    | val d => exact ⟨c0, H0, ρ, c, x, o, sl, p⟩
    | own d =>
      obtain ⟨F2, x2, o2, sl2⟩ := own_share x o sl e
      exact ⟨c0, H0, _, _, x2, o2, sl2, p⟩
/-- ahead of a statement: slot i frozen -/
theorem vs_frz {s : Stmt} {m : SM} (i : Nat) (h : VS G X W RP s m) : VS G X W RP s (sSeq (sFrz i) m) := PS.imp h fun _ _ _ q => frz_pre q
theorem vss_frz {s : List Stmt} {m : SM} (i : Nat) (h : VSs G X W RP s m) : VSs G X W RP s (sSeq (sFrz i) m) := PSs.imp h fun _ _ _ q => frz_pre q

/-! x.append(e) -/
theorem SIZE_le : SIZE ≤ sizeLine := by decide
theorem Slots.at {K : PySem.W.Frag} {H0 H : Hp} {c : Cf} {ρ : Env} {σ : L2.St} {i : Nat} {d : D} (sl : Slots K G H0 c H ρ σ) (e : ρ[i]? = some (.val d)) : ∃ v, σ[i]? = some (some v) ∧ Den K G c.As c.F d v := by
  have hl : i < σ.length := by rw [← sl.len]; exact (List.getElem?_eq_some_iff.mp e).1
  obtain ⟨v, e2, h⟩ := sl.ok i _ _ e (List.getElem?_eq_getElem hl)
  exact ⟨v, by rw [List.getElem?_eq_getElem hl, e2], h⟩
def appAt (i : Nat) (ρ : Env) (v : D) : Stt → SR := fun s => match ρ[i]? with
  | some (.own (.lst xs)) => if xs.length < SIZE then .nx (ρ.set i (.own (.lst (xs ++ [v])))) s else .no
  | some (.val (.obj n)) => match s[n]? with
    | some (.lst xs) => if xs.length < SIZE then .nx ρ (s.set n (.lst (xs ++ [v]))) else .no
    | _ => .no
  | _ => .no
def lstAt (i : Nat) (ρ : Env) (s : Stt) : Bool := match ρ[i]? with
  | some (.own (.lst _)) => true
  | some (.val (.obj n)) => match s[n]? with
    | some (.lst _) => true
    | _ => false
  | _ => false
def sApp (i : Nat) (f : Env → M D) : SM := fun ρ s => if lstAt i ρ s then sB (f ρ) ρ (fun v s' => appAt i ρ v s') s else .no
theorem lstAt_at {K : PySem.W.Frag} {H0 H : Hp} {c : Cf} {ρ : Env} {σ : L2.St} {i : Nat} (o : CfOk K G c H) (sl : Slots K G H0 c H ρ σ) (h : lstAt i ρ c.st = true) : ∃ a xs, σ[i]? = some (some (.ref a)) ∧ H a = some (.lst xs) := by
  unfold lstAt at h
  split at h
  · rename_i xs e
    have hl : i < σ.length := by rw [← sl.len]; exact (List.getElem?_eq_some_iff.mp e).1
    obtain ⟨a, e2, f, n, vs, hv, _⟩ := sl.ok i _ _ e (List.getElem?_eq_getElem hl)
    exact ⟨a, vs, by rw [List.getElem?_eq_getElem hl, e2], hv⟩
  · rename_i n e
    split at h
    · rename_i xs e2
      obtain ⟨v, e3, t⟩ := sl.at e
      cases t with
      | obj e4 =>
        obtain ⟨_, vs, hv, _⟩ := o.obj n _ _ e4 e2
        exact ⟨_, vs, e3, hv⟩
    · cases h
  · cases h
/-- the list written -/
theorem app_at {RP : RPT} {K : PySem.W.Frag} {c0 c : Cf} {H0 H : Hp} {ρ : Env} {σ : L2.St} {i : Nat} {v : D} {w : V} {a : Addr} {D : Ends} (x : Ext c0 H0 c H) (o : CfOk K G c H) (sl : Slots K G H0 c H ρ σ) (t : Den K G c.As c.F v w) (ea : σ[i]? = some (some (.ref a)))
    (p : SPost K G RP W c0 H0 (appAt i ρ v c.st) D) : ∃ xs, H a = some (.lst xs) ∧ xs.length < sizeLine ∧ D.nx σ (upd H a (.lst (xs ++ [w]))) := by
  unfold appAt at p
  split at p
  · rename_i xs e
    split at p
    · rename_i hz
      obtain ⟨b, eb, ⟨vs, hv, l⟩, wr⟩ := own_write (d' := .lst (xs ++ [v])) x o sl e
      rw [ea] at eb; cases eb
      obtain ⟨x2, o2, sl2⟩ := wr (.lst (vs ++ [w])) ⟨_, upd_same, l.app (.cons t .nil)⟩
      exact ⟨vs, hv, by rw [← l.length]; exact Nat.lt_of_lt_of_le hz SIZE_le, p σ c.F c.As _ x2 o2 sl2⟩
    · exact p.elim
  · rename_i n e
    split at p
    · rename_i xs e2
      split at p
      · rename_i hz
        obtain ⟨v', e3, t'⟩ := sl.at e
        rw [ea] at e3; cases e3
        cases t' with
        | obj e4 =>
          obtain ⟨_, vs, hv, l⟩ := o.obj n _ _ e4 e2
          obtain ⟨x2, o2, sl2⟩ := obj_write (d' := .lst (xs ++ [v])) (u := .lst (vs ++ [w])) x o sl e4 ⟨_, upd_same, l.app (.cons t .nil)⟩
          exact ⟨vs, hv, by rw [← l.length]; exact Nat.lt_of_lt_of_le hz SIZE_le, p σ c.F c.As _ x2 o2 sl2⟩
      · exact p.elim
    · exact p.elim
  · exact p.elim
theorem vs_app {x : Str} {k : NameKind} {i : Nat} {e : Expr} {f : Env → M D} {xp apos cpos pos : Pos} (on : On X T) (j : Nat) (he : VE G X W e f) (h : T[j]? = some (x, k, i) := by rfl) (hv : visK k = true := by rfl)
    (hs : starEach [e] X.env = [(false, eval e X.env)] := by rfl) (hline : (apos.endLine == cpos.line) = true := by rfl) (hfew : ((backTo cpos (starEach [e] X.env)).all (fun x => !x.1) && (backToKw cpos (keywordEach [] X.env)).all (fun x => x.1.isSome)
      && decide ([e].length + ([] : List Keyword).length + (if ([] : List Keyword).isEmpty then 0 else 1) < 30)) = true := by rfl) (hbase : attributeBase (.Name x xp) "append" X.env (eval (.Name x xp) X.env) = eval (.Name x xp) X.env := by rfl)
    (hsw : swapsWith (.Call (.Attribute (.Name x xp) "append" apos) [e] [] cpos) none pos.line X.env = pure false := by rfl) :
    VS G X W RP (.Expr (.Call (.Attribute (.Name x xp) "append" apos) [e] [] cpos) pos) (sApp i f) :=
  PS.imp (ps_expr (pe_bm (T := "list") (id := "list.append") (F.plainAttrs_list) F.slot_list_append F.type_list_append mt_append (pe_var (i := i) (on.at h hv) (on.vis h hv) (on.dbg h) (on.cd h)) (pa1 he hs) hbase hfew hline hs rfl) hsw) fun D σ H ⟨c0, H0, ρ, c, x, o, sl, p⟩ => by
    unfold sApp at p
    by_cases hc : lstAt i ρ c.st = true
    · have p : SPost X.K G RP W c0 H0 (sB (f ρ) ρ (fun v s' => appAt i ρ v s') c.st) D := by
        have p : SPost X.K G RP W c0 H0 (if lstAt i ρ c.st = true then sB (f ρ) ρ (fun v s' => appAt i ρ v s') c.st else .no) D := p
        rw [if_pos hc] at p; exact p
      obtain ⟨a, xs, ea, hx⟩ := lstAt_at o sl hc
      refine ⟨.ref a, ea, .inl ⟨rfl, xs, SqL.of hx⟩, H0, ρ, c, o, sl, s_step x sl p fun v w c' H' x1 x' o' sl' t p' => ?_⟩
      obtain ⟨ys, h1, h2, h3⟩ := app_at x' o' sl' t ea p'
      exact ⟨a, ys, w, rfl, rfl, h1, h2, h3⟩
    · have p : SPost X.K G RP W c0 H0 (if lstAt i ρ c.st = true then sB (f ρ) ρ (fun v s' => appAt i ρ v s') c.st else .no) D := p
      rw [if_neg hc] at p; exact p.elim
/-! x[i] = e -/
def putD (ks : List (Key × D)) (k : Key) (v : D) : List (Key × D) := if (ks.any fun p => decide (p.1 = k)) = true then ks.map (fun p => if p.1 = k then (p.1, v) else p) else ks ++ [(k, v)]
theorem denK_any {K : PySem.W.Frag} {As : List Addr} {F : Hp} (k : Key) : ∀ {ds : List (Key × D)} {vs : List (Key × V)}, DenK K G As F ds vs → (ds.any fun p => decide (p.1 = k)) = (vs.any fun p => decide (p.1 = k))
  | _, _, .nil => rfl
  | _, _, .cons h l => by simp only [List.any_cons, denK_any k l]
theorem denK_map {K : PySem.W.Frag} {As : List Addr} {F : Hp} {k : Key} {d : D} {v : V} (h : Den K G As F d v) : ∀ {ds : List (Key × D)} {vs : List (Key × V)}, DenK K G As F ds vs → DenK K G As F (ds.map (fun p => if p.1 = k then (p.1, d) else p)) (vs.map (fun p => if p.1 = k then (p.1, v) else p))
  | _, _, .nil => .nil
  | _, _, .cons (k := k') h' l => by
    simp only [List.map_cons]
    by_cases e : k' = k
    · rw [if_pos e, if_pos e]; exact .cons h (denK_map h l)
    · rw [if_neg e, if_neg e]; exact .cons h' (denK_map h l)
theorem DenK.app {K : PySem.W.Frag} {As : List Addr} {F : Hp} : ∀ {d d' : List (Key × D)} {v v' : List (Key × V)}, DenK K G As F d v → DenK K G As F d' v' → DenK K G As F (d ++ d') (v ++ v')
  | _, _, _, _, .nil, h => h
  | _, _, _, _, .cons h l, h' => .cons h (DenK.app l h')
theorem putD_den {K : PySem.W.Frag} {As : List Addr} {F : Hp} {ds : List (Key × D)} {vs : List (Key × V)} {k : Key} {d : D} {v : V} (l : DenK K G As F ds vs) (h : Den K G As F d v) : DenK K G As F (putD ds k d) (putK vs k v) := by
  unfold putD putK
  rw [denK_any k l]
  split
  · exact denK_map h l
  · exact l.app (.cons h .nil)
def putAt (i : Nat) (ρ : Env) (ix v : D) : Stt → SR := fun s => match ρ[i]? with
  | some (.own (.lst xs)) => match ix with
    | .int k => match ixN xs.length k with
      | some j => .nx (ρ.set i (.own (.lst (xs.set j v)))) s
      | none => .no
    | _ => .no
  | some (.own (.dic ks)) => match ix.key with
    | some k => if ks.length < SIZE then .nx (ρ.set i (.own (.dic (putD ks k v)))) s else .no
    | none => .no
  | some (.val (.obj n)) => match s[n]? with
    | some (.lst xs) => match ix with
      | .int k => match ixN xs.length k with
        | some j => .nx ρ (s.set n (.lst (xs.set j v)))
        | none => .no
      | _ => .no
    | some (.dic ks) => match ix.key with
      | some k => if ks.length < SIZE then .nx ρ (s.set n (.dic (putD ks k v))) else .no
      | none => .no
    | _ => .no
  | _ => .no
def refAt (i : Nat) (ρ : Env) : Bool := match ρ[i]? with
  | some (.own _) => true
  | some (.val (.obj _)) => true
  | _ => false
def sPut (i : Nat) (fi fe : Env → M D) : SM := fun ρ s => if refAt i ρ then sB (fe ρ) ρ (fun v s1 => sB (fi ρ) ρ (fun ix s2 => putAt i ρ ix v s2) s1) s else .no
theorem refAt_at {K : PySem.W.Frag} {H0 H : Hp} {c : Cf} {ρ : Env} {σ : L2.St} {i : Nat} (sl : Slots K G H0 c H ρ σ) (h : refAt i ρ = true) : ∃ a, σ[i]? = some (some (.ref a)) := by
  unfold refAt at h
  split at h
  · rename_i d e
    have hl : i < σ.length := by rw [← sl.len]; exact (List.getElem?_eq_some_iff.mp e).1
    obtain ⟨a, e2, _⟩ := sl.ok i _ _ e (List.getElem?_eq_getElem hl)
    exact ⟨a, by rw [List.getElem?_eq_getElem hl, e2]⟩
  · rename_i n e
    obtain ⟨v, e3, t⟩ := sl.at e
    cases t with
    | obj _ => exact ⟨_, e3⟩
  · cases h
theorem DenL.set {K : PySem.W.Frag} {As : List Addr} {F : Hp} {d : D} {v : V} (h : Den K G As F d v) : ∀ {ds : List D} {vs : List V} (j : Nat), DenL K G As F ds vs → DenL K G As F (ds.set j d) (vs.set j v)
  | _, _, _, .nil => .nil
  | _, _, 0, .cons _ l => .cons h l
  | _, _, j + 1, .cons h' l => .cons h' (DenL.set h j l)

/-- lists and dicts -/
def rPut : TSet := fun o ix v H Q => rSetL o ix v H Q ∨ rSetD o ix v H Q
theorem put_any (hu : X.A.units + 1 < cLine) : PSet X rPut := fun pins s σ H o i v ov iv u Q I r1 r2 r3 h => h.elim (set_list pins s σ H o i v ov iv u Q I r1 r2 r3) (set_dict hu pins s σ H o i v ov iv u Q I r1 r2 r3)
theorem put_at {RP : RPT} {K : PySem.W.Frag} {c0 c : Cf} {H0 H : Hp} {ρ : Env} {σ : L2.St} {i : Nat} {v ix : D} {w y : V} {D : Ends} (x : Ext c0 H0 c H) (o : CfOk K G c H) (sl : Slots K G H0 c H ρ σ) (t : Den K G c.As c.F v w) (ti : DenT K G c H ix y)
    (p : SPost K G RP W c0 H0 (putAt i ρ ix v c.st) D) : ∃ a, σ[i]? = some (some (.ref a)) ∧ rPut (.ref a) y w H fun H' => D.nx σ H' := by
  unfold putAt at p
  split at p
  · rename_i xs e
    split at p
    · rename_i k
      split at p
      · rename_i j ej
        obtain ⟨b, eb, ⟨vs, hv, l⟩, wr⟩ := own_write (d' := .lst (xs.set j v)) x o sl e
        obtain ⟨x2, o2, sl2⟩ := wr (.lst (vs.set j w)) ⟨_, upd_same, DenL.set t j l⟩
        have := ti.int
        subst this
        exact ⟨b, eb, .inl ⟨b, vs, k, j, rfl, rfl, hv, by rw [← l.length]; exact ej, p σ c.F c.As _ x2 o2 sl2⟩⟩
      · exact p.elim
    · exact p.elim
  · rename_i ks e
    split at p
    · rename_i k ek
      split at p
      · rename_i hz
        obtain ⟨b, eb, ⟨vs, hv, l⟩, wr⟩ := own_write (d' := .dic (putD ks k v)) x o sl e
        obtain ⟨x2, o2, sl2⟩ := wr (.dK (putK vs k w)) ⟨_, upd_same, putD_den l t⟩
        have := key_denT ek ti
        subst this
        exact ⟨b, eb, .inr ⟨b, _, rfl, DPut.k hv (by rw [← DenK.length l]; exact Nat.lt_of_lt_of_le hz SIZE_le), p σ c.F c.As _ x2 o2 sl2⟩⟩
      · exact p.elim
    · exact p.elim
  · rename_i n e
    obtain ⟨v', e3, t'⟩ := sl.at e
    split at p
    · rename_i xs e2
      cases t' with
      | obj e4 =>
      split at p
      · rename_i k
        split at p
        · rename_i j ej
          obtain ⟨_, vs, hv, l⟩ := o.obj n _ _ e4 e2
          obtain ⟨x2, o2, sl2⟩ := obj_write (d' := .lst (xs.set j v)) (u := .lst (vs.set j w)) x o sl e4 ⟨_, upd_same, DenL.set t j l⟩
          have := ti.int
          subst this
          exact ⟨_, e3, .inl ⟨_, vs, k, j, rfl, rfl, hv, by rw [← l.length]; exact ej, p σ c.F c.As _ x2 o2 sl2⟩⟩
        · exact p.elim
      · exact p.elim
    · rename_i ks e2
      cases t' with
      | obj e4 =>
      split at p
      · rename_i k ek
        split at p
        · rename_i hz
          obtain ⟨_, vs, hv, l⟩ := o.obj n _ _ e4 e2
          obtain ⟨x2, o2, sl2⟩ := obj_write (d' := .dic (putD ks k v)) (u := .dK (putK vs k w)) x o sl e4 ⟨_, upd_same, putD_den l t⟩
          have := key_denT ek ti
          subst this
          exact ⟨_, e3, .inr ⟨_, _, rfl, DPut.k hv (by rw [← DenK.length l]; exact Nat.lt_of_lt_of_le hz SIZE_le), p σ c.F c.As _ x2 o2 sl2⟩⟩
        · exact p.elim
      · exact p.elim
    · exact p.elim
  · exact p.elim
theorem vs_put {x : Str} {k : NameKind} {i : Nat} {ie e : Expr} {fi fe : Env → M D} {xp tp pos : Pos} (on : On X T) (j : Nat) (hu : X.A.units + 1 < cLine) (hi : VR G X W ie fi) (he : VE G X W e fe) (h : T[j]? = some (x, k, i) := by rfl) (hv : visK k = true := by rfl)
    (ha : ∀ v, assign (.Subscript (.Name x xp) ie tp) X.env v = (do
      let ov ← holding [v] (eval (.Name x xp) X.env)
      let iv ← holding [v, ov] (eval ie X.env)
      standAt tp
      holding [v, ov, iv] (setItem ov iv v)
      release [v, ov, iv] []) := by intro _; rfl)
    (hs : swapsWithSole [.Subscript (.Name x xp) ie tp] e pos.line X.env = pure false := by rfl) (hw : swappedStores [.Subscript (.Name x xp) ie tp] e X.env = pure none := by rfl) (h1 : (assignEach [.Subscript (.Name x xp) ie tp] X.env).map (·.2) = [assign (.Subscript (.Name x xp) ie tp) X.env] := by rfl) :
    VS G X W RP (.Assign [.Subscript (.Name x xp) ie tp] e pos) (sPut i fi fe) :=
  PS.imp (ps_asg he (pg_sub (pe_var (i := i) (on.at h hv) (on.vis h hv) (on.dbg h) (on.cd h)) hi (put_any hu) ha) hs hw h1) fun D σ H ⟨c0, H0, ρ, c, x, o, sl, p⟩ => by
    by_cases hr : refAt i ρ = true
    · have p : SPost X.K G RP W c0 H0 (if refAt i ρ = true then sB (fe ρ) ρ (fun v s1 => sB (fi ρ) ρ (fun ix s2 => putAt i ρ ix v s2) s1) c.st else .no) D := p
      rw [if_pos hr] at p
      refine ⟨H0, ρ, c, o, sl, s_step x sl p fun v w c' H' x1 x' o' sl' t p' => ?_⟩
      obtain ⟨u, eu⟩ := refAt_at sl hr
      refine ⟨_, eu, H0, ρ, c', o', sl', s_step x' sl' p' fun ix y c2 H2 x2 x2' o2 sl2 ti p2 => ?_⟩
      obtain ⟨a, ea, q⟩ := put_at x2' o2 sl2 (t.mono x2.sub x2.pre) ti p2
      rw [eu] at ea; cases ea
      exact q
    · have p : SPost X.K G RP W c0 H0 (if refAt i ρ = true then sB (fe ρ) ρ (fun v s1 => sB (fi ρ) ρ (fun ix s2 => putAt i ρ ix v s2) s1) c.st else .no) D := p
      rw [if_neg hr] at p; exact p.elim
/-- target = value, the target a name or a tuple of them -/
def sAsg (g : D → Env → Option Env) (f : Env → M D) : SM := fun ρ s => sB (f ρ) ρ (fun d s' => match g d ρ with
  | some ρ' => .nx ρ' s'
  | none => .no) s
theorem vs_asg {vs : List Nat} {tg e : Expr} {g : D → Env → Option Env} {f : Env → M D} {pos : Pos} (he : VE G X W e f) (hg : VG G X tg vs g) (hs : swapsWithSole [tg] e pos.line X.env = pure false := by rfl) (hw : swappedStores [tg] e X.env = pure none := by rfl)
    (h1 : (assignEach [tg] X.env).map (·.2) = [assign tg X.env] := by rfl) : VS G X W RP (.Assign [tg] e pos) (sAsg g f) :=
  PS.imp (ps_asg he hg hs hw h1) fun D σ H ⟨c0, H0, ρ, c, x, o, sl, p⟩ =>
    ⟨H0, ρ, c, o, sl, s_step x sl p fun d v c' H' _ x' o' sl' t p' => by
      cases e : g d ρ with
      | none => rw [e] at p'; exact p'.elim
      | some ρ' => rw [e] at p'; exact ⟨H0, c', ρ, d, ρ', o', sl', t, e, fun σ2 sl2 _ => p' σ2 c'.F c'.As H' x' o' sl2⟩⟩
/-! a, b = x, y -/
def VN1 (G : ClsAt) (X : Cx) (W : WX) (own : Bool) (e : Expr) (f : Env → M D) : Prop := PE X e (if own then tN X.K G W f else tV X.K G W f)
def slotOf (own : Bool) (d : D) : Slot := if own then .own d else .val d
def sPar (i j : Nat) (w1 w2 : Bool) (f g : Env → M D) : SM := fun ρ s => sB (f ρ) ρ (fun d s1 => sB (g ρ) ρ (fun d' s2 => .nx ((ρ.set i (slotOf w1 d)).set j (slotOf w2 d')) s2) s1) s
def PVN (K : PySem.W.Frag) (G : ClsAt) (own : Bool) (Hb : Hp) : Cf → Hp → D → V → Prop := if own then POwn K G Hb else PDen K G
def tNV (K : PySem.W.Frag) (G : ClsAt) (own : Bool) (W : WX) (f : Env → M D) : TE := fun σ H Q => ∃ H0 ρ c, CfOk K G c H ∧ Slots K G H0 c H ρ σ ∧ Post K G (PVN K G own H) (fun cls dx H' => W cls dx σ H') c H (f ρ c.st) Q
theorem PVN.ext {K : PySem.W.Frag} {own : Bool} {Hb : Hp} {c c' : Cf} {H H' : Hp} {d : D} {v : V} (x : Ext c H c' H') (p : PVN K G own Hb c H d v) : PVN K G own Hb c' H' d v := by
  cases own with
  | false => exact Den.mono x.sub x.pre p
  | true =>
    obtain ⟨a, rfl, h, n, f, w⟩ := p
    have t : DenT K G c' H' d (.ref a) := DenT.ext x (.inr ⟨a, rfl, n, f, w⟩)
    obtain ⟨u, hu⟩ := w.some
    refine ⟨a, rfl, h, fun z => ?_, ?_, w.mono x.sub x.pre fun o q => x.keep a o q n⟩
    · rcases x.anew a z with z | z
      · exact n z
      · rw [hu] at z; cases z
    · cases q : c'.F a with
      | none => rfl
      | some o =>
        rcases x.new a o q with z | z
        · rw [f] at z; cases z
        · rw [hu] at z; cases z
/-- Hb: before the object came; a slot in between is kept apart -/
theorem Slots.vn {K : PySem.W.Frag} {H0 Hb H : Hp} {cb c : Cf} {ρ : Env} {σ : L2.St} {own : Bool} (sb : Slots K G H0 cb Hb ρ σ) (sl : Slots K G H0 c H ρ σ) (i : Nat) {d : D} {v : V} (h : PVN K G own Hb c H d v) (h0 : ∀ a, Hb a = none → H0 a = none) : Slots K G H0 c H (ρ.set i (slotOf own d)) (σ.set i (some v)) := by
  cases own with
  | false => exact sl.val i h
  | true => exact Slots.own sb sl i h h0
theorem ps_parV {i j : Nat} {x y : Str} {a b : Expr} {f g : Env → M D} {w1 w2 : Bool} {px py pt pos : Pos} {kt k2 pt2} (on : On X T) (jx jy : Nat) (ha : PE X a (tNV X.K G w1 W f)) (hb : PE X b (tNV X.K G w2 W g)) (hx : T[jx]? = some (x, .local, i) := by rfl) (hy : T[jy]? = some (y, .local, j) := by rfl) (hij : i ≠ j := by decide)
    (hst : starEach [a, b] X.env = (false, eval a X.env) :: starEach [b] X.env := by rfl) (hst2 : starEach [b] X.env = [(false, eval b X.env)] := by rfl)
    (hw : swappedStores [.Tuple [.Name x px, .Name y py] kt pt] (.Tuple [a, b] k2 pt2) X.env = pure (some [x, y]))
    (hs : swapsWithSole [.Tuple [.Name x px, .Name y py] kt pt] (.Tuple [a, b] k2 pt2) pos.line X.env = pure false := by rfl) :
    VS G X W RP (.Assign [.Tuple [.Name x px, .Name y py] kt pt] (.Tuple [a, b] k2 pt2) pos) (sPar i j w1 w2 f g) :=
  PS.imp (ps_par on.calm on.nd (on.at hx rfl) (on.at hy rfl) hij (on.kind hx) (on.kind hy) (pa_cons ha (pa_cons hb pa_nil hst2) hst) hw hs) fun D σ H ⟨c0, H0, ρ, c, x, o, sl, p⟩ => by
    refine ⟨H0, ρ, c, o, sl, s_step x sl p fun d v c1 H1 x1 x1' o1 sl1 t1 p1 => ⟨H0, ρ, c1, o1, sl1, s_step x1' sl1 p1 fun d' v' c2 H2 x2 x2' o2 sl2 t2 p2 => ⟨v, v', rfl, p2 _ c2.F c2.As H2 x2' o2 ?_⟩⟩⟩
    have s1 : Slots X.K G H0 c1 H1 (ρ.set i (slotOf w1 d)) (σ.set i (some v)) := Slots.vn sl sl1 i t1 fun a h => x.none h
    exact Slots.vn s1 (s1.ext x2) j t2 fun a h => x1'.none h
theorem vnv_n {e : Expr} {f : Env → M D} (h : VN G X W e f) : PE X e (tNV X.K G true W f) := h
theorem vnv_v {e : Expr} {f : Env → M D} (h : VE G X W e f) : PE X e (tNV X.K G false W f) := h

/-! while -/
def sWh (t : Env → M Bool) (m : SM) : Nat → SM
  | 0 => fun _ _ => .no
  | n + 1 => fun ρ s => sB (t ρ) ρ (fun b s1 => if b then (match m ρ s1 with
      | .nx ρ2 s2 => sWh t m n ρ2 s2
      | .ct ρ2 s2 => sWh t m n ρ2 s2
      | .bk ρ2 s2 => .nx ρ2 s2
      | r => r) else .nx ρ s1) s
open Classical in
/-- as many turns as it takes -/
noncomputable def sWhile (t : Env → M Bool) (m : SM) : SM := fun ρ s => if h : ∃ n, sWh t m n ρ s ≠ .no then sWh t m (Classical.choose h) ρ s else .no
theorem sB_no {α : Type} {x : M α} {ρ : Env} {k : α → Stt → SR} {s : Stt} (h : sB x ρ k s ≠ .no) : x s ≠ .no := fun e => h (by unfold sB; rw [e])
theorem sWh_up {t : Env → M Bool} {m : SM} : ∀ {n : Nat} {ρ : Env} {s : Stt}, sWh t m n ρ s ≠ .no → sWh t m (n + 1) ρ s = sWh t m n ρ s
  | 0, _, _, h => absurd rfl h
  | n + 1, ρ, s, h => by
    have key : ∀ {ρ : Env} {s : Stt}, sWh t m n ρ s ≠ .no → sWh t m (n + 1) ρ s = sWh t m n ρ s := fun h => sWh_up h
    unfold sWh at h
    show sB (t ρ) ρ _ s = sB (t ρ) ρ _ s
    unfold sB at h ⊢
    cases e : t ρ s with
    | no => rfl
    | err _ _ => rfl
    | ok b s1 =>
      rw [e] at h
      cases b with
      | false => rfl
      | true =>
        simp only [if_true] at h ⊢
        cases e2 : m ρ s1 with
        | nx ρ2 s2 => rw [e2] at h; exact key h
        | ct ρ2 s2 => rw [e2] at h; exact key h
        | bk _ _ => rfl
        | rt _ _ => rfl
        | err _ _ _ => rfl
        | no => rfl
theorem sWh_le {t : Env → M Bool} {m : SM} {n : Nat} {ρ : Env} {s : Stt} (h : sWh t m n ρ s ≠ .no) : ∀ k, sWh t m (n + k) ρ s = sWh t m n ρ s
  | 0 => rfl
  | k + 1 => by
    have ih := sWh_le h k
    have := sWh_up (t := t) (m := m) (n := n + k) (ρ := ρ) (s := s) (by rw [ih]; exact h)
    rw [← ih]; exact this
theorem sWhile_eq {t : Env → M Bool} {m : SM} {n : Nat} {ρ : Env} {s : Stt} (h : sWh t m n ρ s ≠ .no) : sWhile t m ρ s = sWh t m n ρ s := by
  have hx : ∃ n, sWh t m n ρ s ≠ .no := ⟨n, h⟩
  unfold sWhile
  rw [dif_pos hx]
  have h2 := Classical.choose_spec hx
  have a := sWh_le h2 n
  have b := sWh_le h (Classical.choose hx)
  rw [← a, ← b, Nat.add_comm]
theorem vs_while {te : Expr} {body : List Stmt} {t : Env → M Bool} {m : SM} {pos : Pos} (hp : PassesOwn (model X.prog X.w) X.A X.env X.xe) (ht : VT G X W te t) (hb : VSs G X W RP body m) : VS G X W RP (.While te body [] pos) (sWhile t m) :=
  PS.imp (ps_while hp ht hb) fun D σ H ⟨c0, H0, ρ, c, x, o, sl, p⟩ => by
    have hx : ∃ n, SPost X.K G RP W c0 H0 (sWh t m n ρ c.st) D := by
      unfold sWhile at p
      by_cases h : ∃ n, sWh t m n ρ c.st ≠ .no
      · rw [dif_pos h] at p; exact ⟨_, p⟩
      · rw [dif_neg h] at p; exact p.elim
    obtain ⟨n0, p⟩ := hx
    refine ⟨fun n σ H => ∃ ρ c, Ext c0 H0 c H ∧ CfOk X.K G c H ∧ Slots X.K G H0 c H ρ σ ∧ SPost X.K G RP W c0 H0 (sWh t m n ρ c.st) D, ⟨n0, ρ, c, x, o, sl, p⟩, ?_⟩
    rintro n σ H ⟨ρ, c, x, o, sl, p⟩
    cases n with
    | zero => exact p.elim
    | succ n =>
      refine ⟨H0, ρ, c, o, sl, s_step x sl p fun b b' c1 H1 x1 x1' o1 sl1 e p1 => ?_⟩
      cases (show b = b' from e)
      cases b with
      | false => exact (if_neg Bool.false_ne_true) ▸ p1 σ c1.F c1.As H1 x1' o1 sl1
      | true =>
        rw [if_pos rfl]
        have p1 : SPost X.K G RP W c0 H0 (match m ρ c1.st with
          | .nx ρ2 s2 => sWh t m n ρ2 s2
          | .ct ρ2 s2 => sWh t m n ρ2 s2
          | .bk ρ2 s2 => .nx ρ2 s2
          | r => r) D := p1
        refine ⟨fun σ H => ∃ ρ c, Ext c0 H0 c H ∧ CfOk X.K G c H ∧ Slots X.K G H0 c H ρ σ ∧ SPost X.K G RP W c0 H0 (sWh t m n ρ c.st) D, fun σ' H' h => ⟨n, Nat.lt_succ_self n, h⟩, c0, H0, ρ, c1, x1', o1, sl1, ?_⟩
        cases e2 : m ρ c1.st with
        | nx ρ2 s2 => rw [e2] at p1; exact fun σ3 F3 As3 H3 x3 o3 sl3 => ⟨ρ2, _, x3, o3, sl3, p1⟩
        | ct ρ2 s2 => rw [e2] at p1; exact fun σ3 F3 As3 H3 x3 o3 sl3 => ⟨ρ2, _, x3, o3, sl3, p1⟩
        | bk ρ2 s2 => rw [e2] at p1; exact p1
        | rt d s2 => rw [e2] at p1; exact p1
        | err e' ρ2 s2 => rw [e2] at p1; exact p1
        | no => rw [e2] at p1; exact p1.elim
end
end PV
end

section
namespace PV
open PySem PySem.Spec L2
open PyProof.Rows hiding St

/-! list comprehensions -/
def ne {α : Type} (x : M α) : M α := fun s => match x s with
  | .ok a s' => .ok a s'
  | _ => .no
def wipeE (ρ : Env) : List Nat → Env
  | [] => ρ
  | v :: vs => (wipeE ρ vs).set v .no
theorem Slots.no {K : PySem.W.Frag} {G : ClsAt} {H0 H : Hp} {c : Cf} {ρ : Env} {σ : L2.St} (sl : Slots K G H0 c H ρ σ) (i : Nat) : Slots K G H0 c H (ρ.set i .no) (σ.set i none) where
  len := by simpa using sl.len
  ok := fun j s o e1 e2 => by
    rcases get_set e1 with ⟨_, rfl, _⟩ | ⟨h1, e1⟩
    · trivial
    · rcases get_set e2 with ⟨h2, _⟩ | ⟨_, e2⟩
      · exact absurd h2 h1
      · exact sl.ok j s o e1 e2
  sep := fun j l d d' a e1 e2 e3 e4 => by
    rcases get_set e1 with ⟨_, z, _⟩ | ⟨h1, e1⟩
    · cases z
    · rcases get_set e2 with ⟨_, z, _⟩ | ⟨h2, e2⟩
      · cases z
      · rcases get_set e3 with ⟨z, _⟩ | ⟨_, e3⟩
        · exact absurd z h1
        · rcases get_set e4 with ⟨z, _⟩ | ⟨_, e4⟩
          · exact absurd z h2
          · exact sl.sep j l d d' a e1 e2 e3 e4
  mine := fun j d a e1 e2 => by
    rcases get_set e1 with ⟨_, z, _⟩ | ⟨h1, e1⟩
    · cases z
    · rcases get_set e2 with ⟨z, _⟩ | ⟨_, e2⟩
      · exact absurd z h1
      · exact sl.mine j d a e1 e2
theorem Slots.wipe {K : PySem.W.Frag} {G : ClsAt} {H0 H : Hp} {c : Cf} {ρ : Env} {σ : L2.St} (sl : Slots K G H0 c H ρ σ) : ∀ vs : List Nat, Slots K G H0 c H (wipeE ρ vs) (L2.wipe σ vs)
  | [] => sl
  | v :: vs => (Slots.wipe sl vs).no v
theorem wipe_put {σ : L2.St} {i : Nat} {o : Option V} : ∀ {vs : List Nat}, (L2.wipe (σ.set i o) vs).set i none = (L2.wipe σ vs).set i none
  | [] => by simp [L2.wipe, List.set_set]
  | j :: vs => by
    unfold L2.wipe
    by_cases e : j = i
    · subst e; rw [List.set_set, List.set_set]; exact wipe_put
    · rw [List.set_comm _ _ e, wipe_put, List.set_comm _ _ e]
theorem wipe_idem {σ : L2.St} : ∀ {vs : List Nat}, L2.wipe (L2.wipe σ vs) vs = L2.wipe σ vs
  | [] => rfl
  | j :: vs => by
    show (L2.wipe ((L2.wipe σ vs).set j none) vs).set j none = (L2.wipe σ vs).set j none
    rw [wipe_put, wipe_idem]
def lcM (g : D → Env → Option Env) (t : Env → M Bool) (e : Env → M D) (ρ : Env) : List D → M (List D)
  | [] => pure []
  | d :: ds => match g d ρ with
    | none => no
    | some ρ' => do
      let b ← ne (t ρ')
      if b then do
        let y ← ne (e ρ')
        let ys ← lcM g t e ρ ds
        pure (y :: ys)
      else lcM g t e ρ ds
/-- vs: the block's own names -/
def lcD (f : Env → M (List D)) (g : D → Env → Option Env) (t : Env → M Bool) (e : Env → M D) (vs : List Nat) : Env → M D := fun ρ => do
  let ds ← f ρ
  if ds.length < SIZE then do
    let ys ← lcM g t e (wipeE ρ vs) ds
    pure (.lst ys)
  else no
theorem ne_ok {α : Type} {x : M α} {s s' : Stt} {a : α} (h : ne x s = .ok a s') : x s = .ok a s' := by
  unfold ne at h
  cases e : x s with
  | ok b s2 => rw [e] at h; exact h
  | err _ _ => rw [e] at h; cases h
  | no => rw [e] at h; cases h
theorem ne_err {α : Type} {x : M α} {s s' : Stt} {a : Err} : ne x s ≠ .err a s' := by
  unfold ne
  cases e : x s with
  | ok b s2 => intro h; cases h
  | err _ _ => intro h; cases h
  | no => intro h; cases h
theorem bind_ok {α β : Type} {x : M α} {f : α → M β} {s s' : Stt} {b : β} (h : (x >>= f) s = .ok b s') : ∃ a s1, x s = .ok a s1 ∧ f a s1 = .ok b s' := by
  have h : M.bind x f s = .ok b s' := h
  unfold M.bind at h
  cases e : x s with
  | ok a s1 => rw [e] at h; exact ⟨a, s1, rfl, h⟩
  | err _ _ => rw [e] at h; cases h
  | no => rw [e] at h; cases h
theorem bind_err {α β : Type} {x : M α} {f : α → M β} {s s' : Stt} {b : Err} (h : (x >>= f) s = .err b s') : x s = .err b s' ∨ ∃ a s1, x s = .ok a s1 ∧ f a s1 = .err b s' := by
  have h : M.bind x f s = .err b s' := h
  unfold M.bind at h
  cases e : x s with
  | ok a s1 => rw [e] at h; exact .inr ⟨a, s1, rfl, h⟩
  | err _ _ => rw [e] at h; cases h; exact .inl rfl
  | no => rw [e] at h; cases h
theorem bind_eq {α β : Type} {x : M α} {f : α → M β} {s s' : Stt} {a : α} (h : x s = .ok a s') : (x >>= f) s = f a s' := by
  show M.bind x f s = _
  unfold M.bind
  rw [h]
section
variable {g : D → Env → Option Env} {t : Env → M Bool} {e : Env → M D} {ρ : Env}
theorem lcM_err : ∀ {ds : List D} {s s' : Stt} {x : Err}, lcM g t e ρ ds s ≠ .err x s'
  | [], _, _, _ => fun h => by cases h
  | d :: ds, s, s', x => fun h => by
    unfold lcM at h
    cases eg : g d ρ with
    | none => rw [eg] at h; cases h
    | some ρ' =>
      rw [eg] at h
      rcases bind_err h with h | ⟨b, s1, e1, h⟩
      · exact ne_err h
      · cases b with
        | false => exact lcM_err (ds := ds) h
        | true =>
          rcases bind_err h with h | ⟨y, s2, e2, h⟩
          · exact ne_err h
          · rcases bind_err h with h | ⟨ys, s3, e3, h⟩
            · exact lcM_err (ds := ds) h
            · cases h
theorem lcM_cons {d : D} {ds ys : List D} {s s' : Stt} (h : lcM g t e ρ (d :: ds) s = .ok ys s') : ∃ ρ', g d ρ = some ρ' ∧ ∃ b s1, t ρ' s = .ok b s1 ∧
    ((b = true ∧ ∃ y s2 ys', e ρ' s1 = .ok y s2 ∧ lcM g t e ρ ds s2 = .ok ys' s' ∧ ys = y :: ys') ∨ (b = false ∧ lcM g t e ρ ds s1 = .ok ys s')) := by
  unfold lcM at h
  cases eg : g d ρ with
  | none => rw [eg] at h; cases h
  | some ρ' =>
    rw [eg] at h
    obtain ⟨b, s1, e1, h⟩ := bind_ok h
    refine ⟨ρ', rfl, b, s1, ne_ok e1, ?_⟩
    cases b with
    | false => exact .inr ⟨rfl, h⟩
    | true =>
      obtain ⟨y, s2, e2, h⟩ := bind_ok h
      obtain ⟨ys', s3, e3, h⟩ := bind_ok h
      cases h
      exact .inl ⟨rfl, y, s2, ys', ne_ok e2, e3, rfl⟩
end
abbrev W0 : WX := fun _ _ _ _ => False
section
variable {X : Cx} {G : ClsAt} {W : WX} {RP : RPT} {T : NT}
theorem lc_core {K : PySem.W.Frag} {g : D → Env → Option Env} {t : Env → M Bool} {e : Env → M D} {vs : List Nat} {H0 H1 : Hp} {c1 : Cf} {ρ : Env} {σ : L2.St} {ds ys : List D} {s' : Stt} {J : It} {Gd : Hp → Prop} (it : ItOk K G c1 Gd ds J) (hG : ∀ c H, Ext c1 H1 c H → Gd H)
    (o : CfOk K G c1 H1) (sl : Slots K G H0 c1 H1 ρ σ) (hz : ds.length < SIZE) (h : lcM g t e (wipeE ρ vs) ds c1.st = .ok ys s') {Q : VK} (fin : ∀ v F' As' H', Ext c1 H1 ⟨F', As', s'⟩ H' → CfOk K G ⟨F', As', s'⟩ H' → POwn K G H1 ⟨F', As', s'⟩ H' (.lst ys) v → Q v H') (D : Addr) (hD : H1 D = none) :
    ∃ Wf : Nat → Nat → Hp → Prop, (∃ m, Wf 0 m (upd H1 D (.lst []))) ∧ ∀ i m H, Wf i m H →
      (J.stop i H ∧ Q (.ref D) H) ∨ (J.go i H ∧ ∃ Nx : Hp → Prop, (∀ H', Nx H' → ∃ m', m' < m ∧ Wf (i + 1) m' H') ∧ ∀ x H', J.yld i H x H' → tG K G vs g x (L2.wipe σ vs) H' fun σ2 H2 => L2.wipe σ2 vs = L2.wipe σ vs ∧ tT K G W0 t σ2 H2 fun b H3 =>
        if b = true then tV K G W0 e σ2 H3 fun y H4 => ∃ acc, H4 D = some (.lst acc) ∧ acc.length < sizeLine ∧ Nx (upd H4 D (.lst (acc ++ [y]))) else Nx H3) := by
  let Pv : Nat → Hp → Prop := fun i H => ∃ (c : Cf) (acc : List PV.D) (vacc : List V) (ys' : List PV.D), Ext c1 H1 c H ∧ CfOk K G c H ∧ D ∉ c.As ∧ c.F D = none ∧ H D = some (.lst vacc) ∧ DenL K G c.As c.F acc vacc ∧ acc.length ≤ i ∧ lcM g t e (wipeE ρ vs) (ds.drop i) c.st = .ok ys' s' ∧ acc ++ ys' = ys
  have f1 : c1.F D = none := o.le.none hD
  have n1 : D ∉ c1.As := fun z => by
    obtain ⟨_, u, q⟩ := o.mem z
    rw [hD] at q; cases q
  refine ⟨fun i m H => m = ds.length - i ∧ i ≤ ds.length ∧ Pv i H, ⟨ds.length, by simp, Nat.zero_le _, c1, [], [], ys, ext_updNew (Ext.refl _ _) hD, o.updFree n1 f1, n1, f1, upd_same, .nil, Nat.le_refl _, h, rfl⟩, ?_⟩
  rintro i m H ⟨rfl, hi, c, acc, vacc, ys', x, o, nD, fD, hDv, l, hl, hm, he⟩
  by_cases hlt : i < ds.length
  · refine .inr ⟨it.go c H i x.sub x.pre o (hG c H x) hlt, Pv (i + 1), fun H' q => ⟨ds.length - (i + 1), by omega, rfl, hlt, q⟩, fun v H' y => ?_⟩
    have ei : ds[i]? = some ds[i] := List.getElem?_eq_getElem hlt
    obtain ⟨F', x2, o2, h2⟩ := it.yld c H i v H' ds[i] x.sub x.pre o (hG c H x) ei y
    rw [List.drop_eq_getElem_cons hlt] at hm
    obtain ⟨ρ', eg, b, s1, et, alt⟩ := lcM_cons hm
    have xx := x.trans x2
    refine ⟨H0, _, _, ds[i], ρ', o2, (sl.ext xx).wipe vs, h2, eg, fun σ2 sl2 w2 => ⟨w2.trans wipe_idem, H0, ρ', _, o2, sl2, ?_⟩⟩
    -- what stays of the list at D
    have stay : ∀ {cc : Cf} {HH : Hp}, Ext c H cc HH → HH D = some (.lst vacc) ∧ D ∉ cc.As ∧ cc.F D = none := fun {cc HH} xx => by
      refine ⟨xx.keep D _ hDv nD, fun z => ?_, ?_⟩
      · rcases xx.anew D z with z | z
        · exact nD z
        · rw [hDv] at z; cases z
      · cases q : cc.F D with
        | none => rfl
        | some u =>
          rcases xx.new D u q with z | z
          · rw [fD] at z; cases z
          · rw [hDv] at z; cases z
    show Post K G PBl _ ⟨F', c.As, c.st⟩ H' (t ρ' c.st) _
    rw [et]
    intro b' F3 As3 H3 x3 o3 eb
    cases (show b = b' from eb)
    have x23 := x2.trans x3
    rcases alt with ⟨rfl, y, s2, ys2, ey, hr, rfl⟩ | ⟨rfl, hr⟩
    · rw [if_pos rfl]
      refine ⟨H0, ρ', _, o3, sl2.ext x3, ?_⟩
      show Post K G (PDen K G) _ _ H3 (e ρ' s1) _
      rw [ey]
      intro w F4 As4 H4 x4 o4 tw
      have x24 := x23.trans x4
      obtain ⟨k1, k2, k3⟩ := stay x24
      refine ⟨vacc, k1, ?_, ⟨F4, As4, s2⟩, acc ++ [y], vacc ++ [w], ys2, ext_updNew (x.trans x24) hD, o4.updFree k2 k3, k2, k3, upd_same, (l.mono x24.sub x24.pre).app (.cons tw .nil), ?_, hr, ?_⟩
      · have := l.length
        have hs := SIZE_le
        omega
      · rw [List.length_append, List.length_singleton]; omega
      · rw [List.append_assoc]; exact he
    · rw [if_neg Bool.false_ne_true]
      obtain ⟨k1, k2, k3⟩ := stay x23
      exact ⟨⟨F3, As3, s1⟩, acc, vacc, ys', x.trans x23, o3, k2, k3, k1, l.mono x23.sub x23.pre, by omega, hr, he⟩
  · have ei : i = ds.length := by omega
    subst ei
    rw [List.drop_length] at hm
    cases hm
    rw [List.append_nil] at he
    subst he
    exact .inl ⟨it.stop c H x.sub x.pre o (hG c H x), fin _ c.F c.As H x o ⟨D, rfl, hD, nD, fD, vacc, hDv, l⟩⟩
theorem lc_tr {K : PySem.W.Frag} {f : Env → M (List D)} {g : D → Env → Option Env} {t : Env → M Bool} {e : Env → M D} {vs : List Nat} {σ : L2.St} {H : Hp} {Q : VK} (h : tN K G W (lcD f g t e vs) σ H Q) : tLc (tI K G W f) (tG K G vs g) (tT K G W0 t) (tV K G W0 e) vs σ H Q := by
  obtain ⟨H0, ρ, c, o, sl, p⟩ := h
  refine ⟨H0, ρ, c, o, sl, ?_⟩
  have p : Post K G (POwn K G H) _ c H (M.bind (f ρ) (fun ds => if ds.length < SIZE then (do
    let ys ← lcM g t e (wipeE ρ vs) ds
    pure (PV.D.lst ys) : M PV.D) else no) c.st) Q := p
  have p := Post.bind (P := PIt K G) p
  refine p.imp (fun _ _ _ _ _ _ q => q) (fun J H1 ⟨ds, c1, x, o1, it, p1⟩ D hD => ?_) fun _ _ _ q => q
  by_cases hz : ds.length < SIZE
  · rw [if_pos hz] at p1
    cases em : lcM g t e (wipeE ρ vs) ds c1.st with
    | no =>
      have q : (lcM g t e (wipeE ρ vs) ds >>= fun ys => (pure (.lst ys) : M PV.D)) c1.st = .no := by
        show M.bind _ _ _ = _
        unfold M.bind
        rw [em]
      rw [q] at p1; exact p1.elim
    | err x s' => exact absurd em lcM_err
    | ok ys s' =>
      rw [bind_eq em] at p1
      exact lc_core it (fun _ _ _ => trivial) o1 (sl.ext x) hz em (fun v F' As' H' x' o' q => p1 v F' As' H' x' o' (let ⟨a, e1, e2, e3⟩ := q; ⟨a, e1, x.none e2, e3⟩)) D hD
  · rw [if_neg hz] at p1; exact p1.elim
abbrev VTs (G : ClsAt) (X : Cx) (W : WX) (es : List Expr) (f : Env → M Bool) : Prop := PTs X es (tT X.K G W f)
theorem vts_nil : VTs G X W [] (fun _ => pure true) := ⟨fun pins s σ H Q I ⟨H0, ρ, c, o, sl, p⟩ => pts_nil.run pins s σ H Q I (Post.here (P := PBl) (a := true) p o (fun _ _ h => h) rfl)⟩
theorem vts_one {c : Expr} {f : Env → M Bool} (h : VT G X W c f) : VTs G X W [c] f := pts_one h
theorem vn_lc {elt tg iter : Expr} {ifs : List Expr} {scope : Scope} {own : List (Str × Nat)} {vs : List Nat} {pos : Pos} {f : Env → M (List D)} {g : D → Env → Option Env} {t : Env → M Bool} {e : Env → M D} (on : On X T) (hi : VI G X W tg iter f) (ok : BlkOk X.N X.env.scope scope own) (hv : own.map (·.2) = vs)
    (hg : ∀ (s : Shared) (H : Hp) (C : Addr) (cl : List (Str × Addr)) (fp : List Addr), VG G (X.blk s H scope (compEnvC scope cl C X.env) fp) tg vs g) (ht : ∀ (s : Shared) (H : Hp) (C : Addr) (cl : List (Str × Addr)) (fp : List Addr), VTs G (X.blk s H scope (compEnvC scope cl C X.env) fp) W0 ifs t)
    (he : ∀ (s : Shared) (H : Hp) (C : Addr) (cl : List (Str × Addr)) (fp : List Addr), VE G (X.blk s H scope (compEnvC scope cl C X.env) fp) W0 elt e) (hs : ∀ x, foldedSetIterable iter X.env x = pure x := by intro _; rfl) :
    VN G X W (.ListComp elt [⟨tg, iter, ifs, 0⟩] scope pos) (lcD f g t e vs) := by
  subst hv
  exact PE.imp (pe_lc on.calm on.nd hi ok hg ht he hs) fun σ H Q h => lc_tr h
/-- name = [..] on one line, the name a plain local -/
theorem vs_setLc {x : Str} {i : Nat} {px spos : Pos} {elt tg iter : Expr} {ifs : List Expr} {scope : Scope} {own : List (Str × Nat)} {vs : List Nat} {pos : Pos} {f : Env → M (List D)} {g : D → Env → Option Env} {t : Env → M Bool} {e : Env → M D} (on : On X T) (j : Nat) (hi : VI G X W tg iter f) (ok : BlkOk X.N X.env.scope scope own) (hv : own.map (·.2) = vs)
    (hg : ∀ (s : Shared) (H : Hp) (C : Addr) (cl : List (Str × Addr)) (fp : List Addr), VG G (X.blk s H scope (compEnvC scope cl C X.env) fp) tg vs g) (ht : ∀ (s : Shared) (H : Hp) (C : Addr) (cl : List (Str × Addr)) (fp : List Addr), VTs G (X.blk s H scope (compEnvC scope cl C X.env) fp) W0 ifs t)
    (he : ∀ (s : Shared) (H : Hp) (C : Addr) (cl : List (Str × Addr)) (fp : List Addr), VE G (X.blk s H scope (compEnvC scope cl C X.env) fp) W0 elt e) (hk : X.env.scope.kind = .function)
    (hl : (px.line == pos.line) = true := by rfl) (ha : (scope.names.any fun (n, k) => n == x && (k == .local || k == .cell)) = false := by decide) (hj : T[j]? = some (x, .local, i) := by rfl) (hs : ∀ x, foldedSetIterable iter X.env x = pure x := by intro _; rfl) :
    VS G X W RP (.Assign [.Name x px] (.ListComp elt [⟨tg, iter, ifs, 0⟩] scope pos) spos) (sSetO i (lcD f g t e vs)) := by
  subst hv
  exact PS.imp (ps_setLc on.calm on.nd (on.at hj rfl) (on.kind hj) (sw_true hk (on.kind hj) hl ha) hi ok hg ht he hs) fun D σ H ⟨c0, H0, ρ, c, x, o, sl, p⟩ => lc_tr
    ⟨H0, ρ, c, o, sl, s_step x sl p fun d v c' H' _ x' o' sl' q p' => p' _ c'.F c'.As H' x' o' (Slots.own sl sl' i q fun a => x.none)⟩
/-- what the block's context gives -/
theorem on_blk {N : List Str} {sc scope : Scope} {T' : NT} (hc : X.calm = true) (hn : X.N = N) (hs : X.env.scope = sc) (nd : N.Nodup) (h : ntB (relS scope sc) N T' = true) : ∀ (s : Shared) (H : Hp) (C : Addr) (cl : List (Str × Addr)) (fp : List Addr), On (X.blk s H scope (compEnvC scope cl C X.env) fp) T' :=
  fun s H C cl fp => On.of hc hn (by show relS scope X.env.scope = _; rw [hs]) nd h
theorem takes0 : Takes X W0 := fun _ _ ⟨_, _, _, _, _, _, _, _, _, _, _, _, _, _, _, _, w⟩ => w.elim
end
end PV
end

section
namespace PV
open PySem PySem.Spec L2
open PyProof.Rows hiding St

/-! calls of defs -/
/-- the chosen ones -/
def pk {α : Type} (is : List Nat) (l : List α) : List α := is.filterMap fun i => l[i]?
theorem pk_vals {vs : List V} {us : List Value} (h : Vals vs us) : ∀ is : List Nat, Vals (pk is vs) (pk is us)
  | [] => .nil
  | i :: is => by
    have ih := pk_vals h is
    unfold pk at ih ⊢
    rw [List.filterMap_cons, List.filterMap_cons]
    cases e : vs[i]? with
    | none =>
      have hl := h.length
      have : us[i]? = none := by
        rw [List.getElem?_eq_none_iff] at e ⊢; omega
      rw [this]; exact ih
    | some v =>
      obtain ⟨u, hu, r⟩ := h.get e
      rw [hu]; exact .cons r ih
theorem pk_den {K : PySem.W.Frag} {G : ClsAt} {As : List Addr} {F : Hp} {ds : List D} {vs : List V} (h : DenL K G As F ds vs) : ∀ is : List Nat, DenL K G As F (pk is ds) (pk is vs)
  | [] => .nil
  | i :: is => by
    have ih := pk_den h is
    unfold pk at ih ⊢
    rw [List.filterMap_cons, List.filterMap_cons]
    cases e : vs[i]? with
    | none =>
      have hl := h.length
      have : ds[i]? = none := by
        rw [List.getElem?_eq_none_iff] at e ⊢; omega
      rw [this]; exact ih
    | some v =>
      obtain ⟨d, hd, r⟩ := h.get e
      rw [hd]; exact .cons r ih
theorem Vals.app {a b : List V} {us vs : List Value} (h : Vals a us) (h' : Vals b vs) : Vals (a ++ b) (us ++ vs) := by
  induction h with
  | nil => exact h'
  | cons r _ ih => exact .cons r ih
/-- a form of call of a def without defaults -/
def fmt (is : List Nat) : List D → List D → List D := fun ds dk => pk is (ds ++ dk)
theorem bnd0 {K : PySem.W.Frag} {G : ClsAt} {x qual : Str} {params : Arguments} {body : List Stmt} {scope : Scope} {f : Addr} {fd : FuncData} {ps : List Str} (F : FunD K x qual params body scope [] [] f fd) (n : Nat) (ks : List Str) (is : List Nat)
    (h : ∀ (kV doc pm : Value) (an : Option Addr) (cdv ct : Value) (us ws : List Value), us.length = n → ws.length = ks.length → bindArgs (PySem.W.fnOf x qual params body scope .none kV doc pm an cdv ct) ⟨us, ks.zip ws⟩ = pure (ps.zip (pk is (us ++ ws)))) : Bnd K G fd ps n ks (fmt is) := by
  obtain ⟨oc, od, dV, kV, doc, pm, an, cdv, ct, osl, rfl, lk, hcd, hD, hK⟩ := F.ex
  rcases hD with ⟨_, rfl⟩ | ⟨e, _⟩
  · refine ⟨fun us ws => pk is (us ++ ws), fun vs zs => pk is (vs ++ zs), ⟨fun s us ws hin e1 e2 => .of_eq (h kV doc pm an cdv ct us ws e1 e2), fun r1 r2 => pk_vals (Vals.app r1 r2) is⟩, fun h1 h2 l1 l2 => pk_den (l1.app l2) is⟩
  · exact absurd rfl e
def callM (n nk np : Nat) (gD : List D → List D → List D) (m : List D → M D) (ds dk : List D) : M D := if ds.length = n ∧ dk.length = nk ∧ (gD ds dk).length = np then m (gD ds dk) else no
section
variable {P : Program} {w : World} {K : PySem.W.Frag} {mg : Str → Option Value} {base : Heap} {X : Cx} {G : ClsAt} {W : WX} {T : NT} {x : Str} {i k j n np : Nat} {fs : List Form} {m : List D → M D} {ks : List Str} {gD : List D → List D → List D} {tj : Nat}
theorem ve_calls {RP : RPT} {PP : Hp → Cf → Hp → D → V → Prop} {e : Expr} {es : List Expr} {kws : List Keyword} {fa fk : Env → M (List D)} {p pos : Pos} (inn : In X P w K mg base) (on : On X T) (hr : Room j X.A) (tk : Takes X W) (C : Cal P w K mg base G k np x RP fs m) (hkj : k ≤ j) (h : T[tj]? = some (x, .globalImplicit, i))
    (hRP : ∀ {c c' c2 H H' H2 d v}, Ext c H c' H' → RP H' c2 H2 d v → PP H c2 H2 d v)
    (hf : (n, ks, gD) ∈ fs) (ha : VA G X W (e :: es) fa) (hkw : VK2 G X W kws fk)
    (he : starEach (e :: es) X.env = (false, eval e X.env) :: starEach es X.env) (hall : (backToKw pos (keywordEach kws X.env)).all (·.1.isSome) = true) (hks : (backToKw pos (keywordEach kws X.env)).filterMap (·.1) = ks)
    (hpl : ((backTo pos (starEach (e :: es) X.env)).any (·.1) || (backToKw pos (keywordEach kws X.env)).any (·.1.isNone)) = false) :
    PE X (.Call (.Name x p) (e :: es) kws pos) (fun σ H Q => ∃ H0 ρ c, CfOk X.K G c H ∧ Slots X.K G H0 c H ρ σ ∧ Post X.K G (PP H) (fun cls dx H' => W cls dx σ H') c H ((do let ds ← fa ρ; let dk ← fk ρ; callM n ks.length np gD m ds dk) c.st) Q) := by
  obtain ⟨hP, hw, hK, hmg, hb⟩ := inn
  subst hP hw hK hmg hb
  obtain ⟨f, fd, ps, hnp, F, hm, hk, B⟩ := C.ex
  refine PE.imp (pe_cal F (B _ hf) (hr.mono hkj) tk (on.gl h) hm hk ha hkw (on.dbg h) he hall hks hpl) fun σ H Q ⟨H0, ρ, c, o, sl, p⟩ => tL_step rfl o sl p fun ds vs c1 H1 x1 o1 sl1 t1 p1 => tL_step rfl o1 sl1 p1 fun dk zs c2 H2 x2 o2 sl2 t2 p2 => ?_
  have p2 : Post X.K G (PP H) _ c2 H2 ((if ds.length = n ∧ dk.length = ks.length ∧ (gD ds dk).length = np then m (gD ds dk) else no) c2.st) Q := p2
  by_cases hc : ds.length = n ∧ dk.length = ks.length ∧ (gD ds dk).length = np
  · rw [if_pos hc] at p2
    exact ⟨c2, ds, dk, o2, t1.mono x2.sub x2.pre, t2, hc.1, hc.2.1, by rw [hnp]; exact hc.2.2, p2.imp (fun _ _ _ _ _ _ q => hRP (x1.trans x2) q) (fun _ _ q => q) fun _ _ _ q => q⟩
  · rw [if_neg hc] at p2; exact p2.elim
theorem ve_calls0 {RP : RPT} {PP : Hp → Cf → Hp → D → V → Prop} {kws : List Keyword} {fk : Env → M (List D)} {p pos : Pos} (inn : In X P w K mg base) (on : On X T) (hr : Room j X.A) (tk : Takes X W) (C : Cal P w K mg base G k np x RP fs m) (hkj : k ≤ j) (h : T[tj]? = some (x, .globalImplicit, i))
    (hRP : ∀ {c c' c2 H H' H2 d v}, Ext c H c' H' → RP H' c2 H2 d v → PP H c2 H2 d v)
    (hf : (n, ks, gD) ∈ fs) (hn : n = 0) (hkw : VK2 G X W kws fk)
    (hall : (backToKw pos (keywordEach kws X.env)).all (·.1.isSome) = true) (hks : (backToKw pos (keywordEach kws X.env)).filterMap (·.1) = ks)
    (hpl : ((backTo pos (starEach ([] : List Expr) X.env)).any (·.1) || (backToKw pos (keywordEach kws X.env)).any (·.1.isNone)) = false) :
    PE X (.Call (.Name x p) [] kws pos) (fun σ H Q => ∃ H0 ρ c, CfOk X.K G c H ∧ Slots X.K G H0 c H ρ σ ∧ Post X.K G (PP H) (fun cls dx H' => W cls dx σ H') c H ((do let dk ← fk ρ; callM 0 ks.length np gD m [] dk) c.st) Q) := by
  obtain ⟨hP, hw, hK, hmg, hb⟩ := inn
  subst hP hw hK hmg hb
  subst hn
  obtain ⟨f, fd, ps, hnp, F, hm, hk, B⟩ := C.ex
  refine PE.imp (pe_cal0 F (B _ hf) (hr.mono hkj) tk (on.gl h) hm hk hkw (on.dbg h) hall hks hpl) fun σ H Q ⟨H0, ρ, c, o, sl, p⟩ => tL_step rfl o sl p fun dk zs c2 H2 x2 o2 sl2 t2 p2 => ?_
  have p2 : Post X.K G (PP H) _ c2 H2 ((if ([] : List D).length = 0 ∧ dk.length = ks.length ∧ (gD [] dk).length = np then m (gD [] dk) else no) c2.st) Q := p2
  by_cases hc : ([] : List D).length = 0 ∧ dk.length = ks.length ∧ (gD [] dk).length = np
  · rw [if_pos hc] at p2
    exact ⟨c2, [], dk, o2, .nil, t2, rfl, hc.2.1, by rw [hnp]; exact hc.2.2, p2.imp (fun _ _ _ _ _ _ q => hRP x2 q) (fun _ _ q => q) fun _ _ _ q => q⟩
  · rw [if_neg hc] at p2; exact p2.elim
theorem rp_den {K : PySem.W.Frag} {c c' c2 : Cf} {H H' H2 : Hp} {d : D} {v : V} (_ : Ext c H c' H') (h : rDen K G H' c2 H2 d v) : PDen K G c2 H2 d v := h
theorem rp_own {K : PySem.W.Frag} {c c' c2 : Cf} {H H' H2 : Hp} {d : D} {v : V} (x : Ext c H c' H') (h : rOwn K G H' c2 H2 d v) : POwn K G H c2 H2 d v := POwn.entry x h

/-! one's own to the store -/
theorem own_store {K : PySem.W.Frag} {c0 c : Cf} {H0 H : Hp} {ρ : Env} {σ : L2.St} {i : Nat} {d : D} (x : Ext c0 H0 c H) (o : CfOk K G c H) (sl : Slots K G H0 c H ρ σ) (e : ρ[i]? = some (.own d)) :
    ∃ a, Ext c0 H0 ⟨c.F, c.As ++ [a], c.st ++ [d]⟩ H ∧ CfOk K G ⟨c.F, c.As ++ [a], c.st ++ [d]⟩ H ∧ Slots K G H0 ⟨c.F, c.As ++ [a], c.st ++ [d]⟩ H (ρ.set i (.val (.obj c.st.length))) σ := by
  have hl : i < σ.length := by rw [← sl.len]; exact (List.getElem?_eq_some_iff.mp e).1
  obtain ⟨a, e2, f, n, w⟩ := sl.ok i _ _ e (List.getElem?_eq_getElem hl)
  have e3 : σ[i]? = some (some (.ref a)) := by rw [List.getElem?_eq_getElem hl, e2]
  have h0 := sl.mine i d a e e3
  have pre : c.As <+: c.As ++ [a] := List.prefix_append _ _
  refine ⟨a, ⟨fun b v h m => x.keep b v h m, x.there, x.sub, x.new, x.pre.trans pre, fun b hb => ?_⟩, ⟨o.le, by simp [o.len], ?_, fun j b d1 e1 e4 => ?_⟩, ⟨by simpa using sl.len, fun j s oo e1 e9 => ?_, fun j l d1 d2 b e1 e2 e4 e5 => ?_, fun j d1 b e1 e9 => ?_⟩⟩
  · rcases List.mem_append.mp hb with hb | hb
    · exact x.anew b hb
    · have : b = a := by simpa using hb
      subst this; exact .inr h0
  · refine List.nodup_append.mpr ⟨o.nd, by simp, fun p hp q hq => ?_⟩
    have : q = a := by simpa using hq
    subst this
    exact fun z => n (z ▸ hp)
  · have e1 : (c.As ++ [a])[j]? = some b := e1
    have e4 : (c.st ++ [d])[j]? = some d1 := e4
    by_cases hj : j < c.As.length
    · rw [List.getElem?_append_left hj] at e1
      rw [List.getElem?_append_left (by rw [← o.len]; exact hj)] at e4
      obtain ⟨q1, q2⟩ := o.obj j b d1 e1 e4
      exact ⟨q1, q2.mono (Sub.refl _) pre fun _ q => q⟩
    · have hj2 : j = c.As.length := by
        have := (List.getElem?_eq_some_iff.mp e1).1
        simp at this; omega
      subst hj2
      rw [List.getElem?_append_right (Nat.le_refl _)] at e1
      rw [List.getElem?_append_right (by rw [o.len]; exact Nat.le_refl _), o.len] at e4
      simp at e1 e4
      subst e1 e4
      exact ⟨f, w.mono (Sub.refl _) pre fun _ q => q⟩
  · rcases get_set e1 with ⟨rfl, rfl, _⟩ | ⟨hj, e1⟩
    · rw [e3] at e9; cases e9
      refine ⟨_, rfl, .obj ?_⟩
      show (c.As ++ [a])[c.st.length]? = _
      rw [← o.len]; simp
    · have k := sl.ok j s oo e1 e9
      cases s with
      | no => trivial
      | val d1 => obtain ⟨v, rfl, k⟩ := k; exact ⟨v, rfl, k.mono (Sub.refl _) pre⟩
      | own d1 =>
        obtain ⟨b, rfl, f1, n1, w1⟩ := k
        have z : b ≠ a := fun z => hj (sl.sep j i d1 d a e1 e (by rw [← z]; exact e9) e3)
        refine ⟨b, rfl, f1, fun hb => ?_, w1.mono (Sub.refl _) pre fun v q => q⟩
        rcases List.mem_append.mp hb with hb | hb
        · exact n1 hb
        · exact z (by simpa using hb)
  · rcases get_set e1 with ⟨_, z, _⟩ | ⟨_, e1⟩
    · cases z
    · rcases get_set e2 with ⟨_, z, _⟩ | ⟨_, e2⟩
      · cases z
      · exact sl.sep j l d1 d2 b e1 e2 e4 e5
  · rcases get_set e1 with ⟨_, z, _⟩ | ⟨_, e1⟩
    · cases z
    · exact sl.mine j d1 b e1 e9
def sSto (i : Nat) : SM := fun ρ s => match ρ[i]? with
  | some (.own d) => .nx (ρ.set i (.val (.obj s.length))) (s ++ [d])
  | _ => .no
theorem vss_sto {RP : RPT} {s : List Stmt} {m : SM} (i : Nat) (h : VSs G X W RP s m) : VSs G X W RP s (sSeq (sSto i) m) := PSs.imp h fun D σ H ⟨c0, H0, ρ, c, x, o, sl, p⟩ => by
  unfold sSeq sSto at p
  cases e : ρ[i]? with
  | none => rw [e] at p; exact p.elim
  | some s =>
    rw [e] at p
    cases s with
    | no => exact p.elim
    | val d => exact p.elim
    | own d =>
      obtain ⟨a, x2, o2, sl2⟩ := own_store x o sl e
      exact ⟨c0, H0, _, _, x2, o2, sl2, p⟩
end
/-- a < b < c as a value -/
theorem ve_chain {X : Cx} {G : ClsAt} {W : WX} {a b d : Expr} {f g h : Env → M D} {op op' : CmpOp} {r r' : R2} {F2 F2' : D → D → M D} {pos : Pos} (ho : OpR X (compareOp op) r) (h2 : Op2 X G r (P0 X G) F2) (ho' : OpR X (compareOp op') r') (h2' : Op2 X G r' (P0 X G) F2') (ha : VR G X W a f) (hb : VR G X W b g) (hc : VR G X W d h) (hm : lastMarks [op, op'] [b, d] = false := by rfl) :
    VE G X W (.Compare a [op, op'] [b, d] pos) (fun ρ => do let x ← f ρ; let y ← g ρ; let z ← F2 x y; let k ← asB z; if k then do let u ← h ρ; F2' y u else pure (.bl false)) :=
  PE.imp (pe_chain ho ho' ha hb hc hm) fun σ H Q ⟨H0, ρ, c, o, sl, p⟩ => tR_step rfl o sl p fun x v c1 H1 x1 o1 sl1 t1 p1 => tR_step rfl o1 sl1 p1 fun y w c2 H2 x2 o2 sl2 t2 p2 => h2 _ _ _ _ _ _ _ _ o2 (t1.ext x2) t2
    ((Post.bind (P := PDen X.K G) p2).imp (fun _ _ _ _ _ _ p => p) (fun v3 H3 ⟨d3, c3, x3, o3, q, r⟩ => by
      cases d3 with
      | bl k =>
        cases q
        refine ⟨k, rfl, ?_⟩
        cases k with
        | false => exact iteF (r.here o3 (fun _ _ h => h) .bl)
        | true =>
          refine iteT ?_
          exact tR_step rfl o3 (sl2.ext x3) r fun u w2 c4 H4 x4 o4 sl4 t4 p4 => h2' _ _ _ _ _ _ _ _ o4 (t2.ext (x3.trans x4)) t4 p4
      | _ => exact r.elim) fun _ _ _ z => z)
/-- what each def's context gives -/
structure Ct (P : Program) (w : World) (K : PySem.W.Frag) (mg : Str → Option Value) (base : Heap) (N : List Str) (sc : Scope) (T : NT) (k : Nat) (X : Cx) (W : WX) : Prop where
  inn : In X P w K mg base
  on : On X T
  n : X.N = N
  s : X.env.scope = sc
  nd : N.Nodup
  kd : sc.kind = .function
  room : Room k X.A
  tk : Takes X W
section
variable {P : Program} {w : World} {K : PySem.W.Frag} {mg : Str → Option Value} {base : Heap} {N : List Str} {sc : Scope} {T : NT} {k : Nat} {X : Cx} {W : WX}
theorem Ct.hu (c : Ct P w K mg base N sc T k X W) : X.A.units + 1 < cLine := by have := c.room.units; omega
theorem Ct.mg' (c : Ct P w K mg base N sc T k X W) {x : Str} {o : Option Value} (h : mg x = o) : X.mg x = o := by rw [c.inn.mg]; exact h
theorem Ct.kd' (c : Ct P w K mg base N sc T k X W) : X.env.scope.kind = .function := by rw [c.s]; exact c.kd
theorem Ct.calm (c : Ct P w K mg base N sc T k X W) : X.calm = true := c.on.calm
theorem Ct.blk (c : Ct P w K mg base N sc T k X W) {scope : Scope} (T' : NT) (h : ntB (relS scope sc) N T' = true) (hk : (relS scope sc).kind = .function) (s : Shared) (H : Hp) (C : Addr) (cl : List (Str × Addr)) (fp : List Addr) :
    Ct P w K mg base N (relS scope sc) T' k (X.blk s H scope (compEnvC scope cl C X.env) fp) W0 :=
  have hs : (X.blk s H scope (compEnvC scope cl C X.env) fp).env.scope = relS scope sc := by show relS scope X.env.scope = _; rw [c.s]
  ⟨⟨c.inn.p, c.inn.w, c.inn.K, c.inn.mg, c.inn.b⟩, On.of c.on.calm c.n hs c.nd h, c.n, hs, c.nd, hk, c.room, takes0⟩
end
end PV
end

section
namespace PV
open PySem PySem.Spec L2
open PyProof.Rows hiding St
section
variable {X : Cx} {G : ClsAt} {W : WX}
theorem vt_isN {a : Expr} {f : Env → M D} {j : Nat} {pos pos' : Pos} (h : VR G X W a f) : VT G X W (.Compare a [.Is] [.Constant .none j pos'] pos) (fun ρ => do let x ← f ρ; pure (isNonB x)) :=
  PT.imp (pt_cmp (pc_isN h) (by rfl)) fun σ H Q ⟨H0, ρ, c, o, sl, p⟩ => tR_step rfl o sl p fun x v c1 H1 x1 o1 sl1 t1 p1 => by rw [isNon_of t1]; exact ⟨_, rfl, Post.here (P := PBl) p1 o1 (fun _ _ h => h) rfl⟩
theorem vt_notN {a : Expr} {f : Env → M D} {j : Nat} {pos pos' : Pos} (h : VR G X W a f) : VT G X W (.Compare a [.IsNot] [.Constant .none j pos'] pos) (fun ρ => do let x ← f ρ; pure !(isNonB x)) :=
  PT.imp (pt_cmp (pc_notN h) (by rfl)) fun σ H Q ⟨H0, ρ, c, o, sl, p⟩ => tR_step rfl o sl p fun x v c1 H1 x1 o1 sl1 t1 p1 => by rw [isNon_of t1]; exact ⟨_, rfl, Post.here (P := PBl) p1 o1 (fun _ _ h => h) rfl⟩
end
/-! short names for mirrors -/
abbrev kI (i : Int) : Env → M D := fun _ => pure (.int i)
abbrev kS (s : Str) : Env → M D := fun _ => pure (.str s)
abbrev kB (b : Bool) : Env → M D := fun _ => pure (.bl b)
abbrev kN : Env → M D := fun _ => pure .non
abbrev e1 {α β : Type} (F : α → M β) (f : Env → M α) : Env → M β := fun ρ => do let x ← f ρ; F x
abbrev e2 {α β γ : Type} (F : α → β → M γ) (f : Env → M α) (g : Env → M β) : Env → M γ := fun ρ => do let x ← f ρ; let y ← g ρ; F x y
abbrev eNil : Env → M (List D) := fun _ => pure []
abbrev eCons (f : Env → M D) (g : Env → M (List D)) : Env → M (List D) := fun ρ => do let x ← f ρ; let xs ← g ρ; pure (x :: xs)
abbrev tCmp (F : D → D → M D) (f g : Env → M D) : Env → M Bool := fun ρ => do let x ← f ρ; let y ← g ρ; let z ← F x y; asB z
abbrev tChn (F F' : D → D → M D) (f g h : Env → M D) : Env → M Bool := fun ρ => do let x ← f ρ; let y ← g ρ; let z ← F x y; let k ← asB z; if k then do let u ← h ρ; let z2 ← F' y u; asB z2 else pure false
abbrev eChn (F F' : D → D → M D) (f g h : Env → M D) : Env → M D := fun ρ => do let x ← f ρ; let y ← g ρ; let z ← F x y; let k ← asB z; if k then do let u ← h ρ; F' y u else pure (.bl false)
abbrev tNot (f : Env → M Bool) : Env → M Bool := fun ρ => do let b ← f ρ; pure !b
abbrev tAnd (f g : Env → M Bool) : Env → M Bool := fun ρ => do let x ← f ρ; if x then g ρ else pure false
abbrev tOr (f g : Env → M Bool) : Env → M Bool := fun ρ => do let x ← f ρ; if x then pure true else g ρ
abbrev eAnd (f g : Env → M D) : Env → M D := fun ρ => do let x ← f ρ; let k ← asB x; if k then g ρ else pure (.bl false)
abbrev eOr (f g : Env → M D) : Env → M D := fun ρ => do let x ← f ρ; let k ← asB x; if k then pure (.bl true) else g ρ
abbrev eIf (k : Env → M Bool) (f g : Env → M D) : Env → M D := fun ρ => do let x ← k ρ; if x then f ρ else g ρ
abbrev eIsi (sb : Sub1) (f : Env → M D) : Env → M D := fun ρ => do let x ← f ρ; let b ← isiD sb x; pure (.bl b)
abbrev eIsiT (sbs : List Sub1) (f : Env → M D) : Env → M D := fun ρ => do let x ← f ρ; let b ← isiAny sbs x; pure (.bl b)
abbrev eIsN (f : Env → M D) : Env → M D := fun ρ => do let x ← f ρ; pure (.bl (isNonB x))
abbrev eNotN (f : Env → M D) : Env → M D := fun ρ => do let x ← f ρ; pure (.bl !(isNonB x))
abbrev tIsN (f : Env → M D) : Env → M Bool := fun ρ => do let x ← f ρ; pure (isNonB x)
abbrev tNotN (f : Env → M D) : Env → M Bool := fun ρ => do let x ← f ρ; pure !(isNonB x)
abbrev eJoin (f g : Env → M D) : Env → M D := fun ρ => do let x ← f ρ; let a ← asS x; let y ← g ρ; joinD a y
abbrev eSl (F : D → Option Int → Option Int → M D) (f : Env → M D) (l h : Env → M (Option Int)) : Env → M D := fun ρ => do let x ← f ρ; let lo ← l ρ; let hi ← h ρ; F x lo hi
abbrev pN : Env → M (Option Int) := fun _ => pure none
abbrev eCal (n nk np : Nat) (gD : List D → List D → List D) (m : List D → M D) (fa fk : Env → M (List D)) : Env → M D := fun ρ => do let ds ← fa ρ; let dk ← fk ρ; callM n nk np gD m ds dk
abbrev eCal0 (nk np : Nat) (gD : List D → List D → List D) (m : List D → M D) (fk : Env → M (List D)) : Env → M D := fun ρ => do let dk ← fk ρ; callM 0 nk np gD m [] dk
abbrev tYesM : Env → M Bool := fun _ => pure true
section
variable {P : Program} {w : World} {K : PySem.W.Frag} {mg : Str → Option Value} {base : Heap} {N : List Str} {sc : Scope} {T : NT} {X : Cx} {G : ClsAt} {W : WX} {x : Str} {i k j n np tj : Nat} {fs : List Form} {m : List D → M D} {ks : List Str} {gD : List D → List D → List D}
theorem ve_call {e : Expr} {es : List Expr} {kws : List Keyword} {fa fk : Env → M (List D)} {p pos : Pos} (c : Ct P w K mg base N sc T j X W) (C : Cal P w K mg base G k np x (rDen K G) fs m) (hkj : k ≤ j) (tj : Nat) (hf : (n, ks, gD) ∈ fs) (ha : VA G X W (e :: es) fa) (hkw : VK2 G X W kws fk) (h : T[tj]? = some (x, .globalImplicit, i) := by rfl)
    (he : starEach (e :: es) X.env = (false, eval e X.env) :: starEach es X.env := by rfl) (hall : (backToKw pos (keywordEach kws X.env)).all (·.1.isSome) = true := by rfl) (hks : (backToKw pos (keywordEach kws X.env)).filterMap (·.1) = ks := by rfl)
    (hpl : ((backTo pos (starEach (e :: es) X.env)).any (·.1) || (backToKw pos (keywordEach kws X.env)).any (·.1.isNone)) = false := by rfl) : VE G X W (.Call (.Name x p) (e :: es) kws pos) (eCal n ks.length np gD m fa fk) :=
  ve_calls (PP := fun _ => PDen X.K G) c.inn c.on c.room c.tk C hkj h (fun _ q => by rw [c.inn.K]; exact q) hf ha hkw he hall hks hpl
theorem vn_call {e : Expr} {es : List Expr} {kws : List Keyword} {fa fk : Env → M (List D)} {p pos : Pos} (c : Ct P w K mg base N sc T j X W) (C : Cal P w K mg base G k np x (rOwn K G) fs m) (hkj : k ≤ j) (tj : Nat) (hf : (n, ks, gD) ∈ fs) (ha : VA G X W (e :: es) fa) (hkw : VK2 G X W kws fk) (h : T[tj]? = some (x, .globalImplicit, i) := by rfl)
    (he : starEach (e :: es) X.env = (false, eval e X.env) :: starEach es X.env := by rfl) (hall : (backToKw pos (keywordEach kws X.env)).all (·.1.isSome) = true := by rfl) (hks : (backToKw pos (keywordEach kws X.env)).filterMap (·.1) = ks := by rfl)
    (hpl : ((backTo pos (starEach (e :: es) X.env)).any (·.1) || (backToKw pos (keywordEach kws X.env)).any (·.1.isNone)) = false := by rfl) : VN G X W (.Call (.Name x p) (e :: es) kws pos) (eCal n ks.length np gD m fa fk) :=
  ve_calls (PP := fun H => POwn X.K G H) c.inn c.on c.room c.tk C hkj h (fun x1 q => by rw [c.inn.K]; exact POwn.entry x1 q) hf ha hkw he hall hks hpl
theorem ve_call0 {kws : List Keyword} {fk : Env → M (List D)} {p pos : Pos} (c : Ct P w K mg base N sc T j X W) (C : Cal P w K mg base G k np x (rDen K G) fs m) (hkj : k ≤ j) (tj : Nat) (hf : (0, ks, gD) ∈ fs) (hkw : VK2 G X W kws fk) (h : T[tj]? = some (x, .globalImplicit, i) := by rfl)
    (hall : (backToKw pos (keywordEach kws X.env)).all (·.1.isSome) = true := by rfl) (hks : (backToKw pos (keywordEach kws X.env)).filterMap (·.1) = ks := by rfl)
    (hpl : ((backTo pos (starEach ([] : List Expr) X.env)).any (·.1) || (backToKw pos (keywordEach kws X.env)).any (·.1.isNone)) = false := by rfl) : VE G X W (.Call (.Name x p) [] kws pos) (eCal0 ks.length np gD m fk) :=
  ve_calls0 (PP := fun _ => PDen X.K G) c.inn c.on c.room c.tk C hkj h (fun _ q => by rw [c.inn.K]; exact q) hf rfl hkw hall hks hpl
theorem vn_call0 {kws : List Keyword} {fk : Env → M (List D)} {p pos : Pos} (c : Ct P w K mg base N sc T j X W) (C : Cal P w K mg base G k np x (rOwn K G) fs m) (hkj : k ≤ j) (tj : Nat) (hf : (0, ks, gD) ∈ fs) (hkw : VK2 G X W kws fk) (h : T[tj]? = some (x, .globalImplicit, i) := by rfl)
    (hall : (backToKw pos (keywordEach kws X.env)).all (·.1.isSome) = true := by rfl) (hks : (backToKw pos (keywordEach kws X.env)).filterMap (·.1) = ks := by rfl)
    (hpl : ((backTo pos (starEach ([] : List Expr) X.env)).any (·.1) || (backToKw pos (keywordEach kws X.env)).any (·.1.isNone)) = false := by rfl) : VN G X W (.Call (.Name x p) [] kws pos) (eCal0 ks.length np gD m fk) :=
  ve_calls0 (PP := fun H => POwn X.K G H) c.inn c.on c.room c.tk C hkj h (fun x1 q => by rw [c.inn.K]; exact POwn.entry x1 q) hf rfl hkw hall hks hpl
theorem Ct.bo (c : Ct P w K mg base N sc T k X W) {scope : Scope} {own : List (Str × Nat)} (h : blkC N sc scope own = true) : BlkOk X.N X.env.scope scope own := by rw [c.n, c.s]; exact blkOk_by h
theorem Ct.gl (c : Ct P w K mg base N sc T k X W) (tj : Nat) (h : T[tj]? = some (x, .globalImplicit, i) := by rfl) : Gl X x := c.on.gl h
theorem sw_cell {elt : Expr} {gs : List Comprehension} {scope : Scope} {pos py : Pos} {y : Str} {l : Nat} {env : PySem.Env} (hy : env.scope.names.lookup y = some .cell) : swapsWith (.ListComp elt gs scope pos) (some (.Name y py)) l env = pure false := by
  have ky : env.kindOf y = some .cell := hy
  unfold swapsWith
  simp only [ky]
  have : (some NameKind.cell == some NameKind.local) = false := by decide
  rw [this]
  simp
theorem sw_env {ts : List Expr} {v : Expr} {env env' : PySem.Env} (h : env.scope = env'.scope) : swappedStores ts v env = swappedStores ts v env' := by
  have k1 : env.kindOf = env'.kindOf := by funext y; unfold PySem.Env.kindOf; rw [h]
  have k2 : env.blockKind = env'.blockKind := by unfold PySem.Env.blockKind; rw [h]
  unfold swappedStores
  rw [k1, k2]
theorem Ct.sw (c : Ct P w K mg base N sc T k X W) {ts : List Expr} {v : Expr} {r : Option (List Str)} (h : swappedStores ts v { X.env with scope := sc } = pure r) : swappedStores ts v X.env = pure r := by
  rw [← h]; exact sw_env c.s
end
end PV
end

section
namespace PV
open PySem PySem.Spec L2
open PyProof.Rows hiding St
theorem den_ints {K : PySem.W.Frag} {G : ClsAt} {As : List Addr} {F : Hp} : ∀ ns : List Int, DenL K G As F (ns.map D.int) (ns.map V.int)
  | [] => .nil
  | _ :: ns => .cons .int (den_ints ns)
/-- the law's promise, from its mirror's answer -/
theorem sp_law {K : PySem.W.Frag} {G : ClsAt} {m : List D → M D} {H : Hp} {a : Addr} {ns : List Int} (hS : SqL K H a (ns.map V.int)) (h : ∃ st, m [.lst (ns.map D.int)] [] = .ok (.bl true) st) :
    spPV K G (rDen K G) 1 m [.ref a] H (fun v _ => v = .bl true) fun _ _ _ => False := by
  obtain ⟨st, h⟩ := h
  refine ⟨rfl, ⟨H, [], []⟩, [.lst (ns.map D.int)], ⟨fun b o q => .inl q, rfl, List.nodup_nil, fun i b d e => by simp at e⟩, .cons (.lst hS (den_ints ns)) .nil, ?_⟩
  show Post K G _ _ _ H (m [.lst (ns.map D.int)] []) _
  rw [h]
  intro v F' As' H' _ _ t
  cases t
  rfl
theorem walk_pv {l : PySem.W.OpenLaw} {n k : Nat} {q : Program} {loose : List Str} {XP : (Str → Option Value) → Heap → Prop} {YP : World → Heap → Prop} {d : DefRec} {x : Str}
    (hn : l.most = some n) (hn2 : n ≤ sizeLine) (hdf : d.params.defaults = []) (hr : Room k callerA)
    (F : ∀ (w : World) (mg : Str → Option Value) (fa : Addr) (h : Heap), YP w h → h.Ns mainGlobals mg → mg d.name = some (.ref fa) →
      ∃ (K : PySem.W.Frag) (G : ClsAt) (fd : FuncData) (m : List D → M D), K.In h ∧ (∀ (s : Shared) (u : Value), BindsTo s fd ⟨[u], []⟩ [(x, u)]) ∧
        (∀ ns : List Int, ns.length ≤ n → (∀ z ∈ ns, Builtin.Int.intBits z ≤ 1048576) → ∃ st, m [.lst (ns.map D.int)] [] = .ok (.bl true) st) ∧
        ∀ base : Heap, K.In base → base.Ns mainGlobals mg → FnOk l.prog w K mg base (L2.CX l.prog w) k fa fd [x] (spPV K G (rDen K G) 1 m)) :
    PySem.W.WalkO q loose XP YP l.row.toRowW d [] (fun f vs => PySem.call f vs) := by
  refine Att.attach_callB hn hdf fun w s₀ s₁ mg mb fa o pm cd doc a vs ns G Y ho hd hcd hmg hobj hints hlen hbits hg => ?_
  obtain ⟨K, G', fd, m, KX, hb, hm, hF⟩ := F w mg fa _ Y G.T.g hmg
  exact law_call KX G.T.g G.T.b G.T.builtins G.T.nolimit hg hobj hints (Nat.le_trans hlen hn2) hr hF hb (fun H hO hS => sp_law hS (hm ns hlen hbits)) fun H e s' => fun ⟨_, _, _, _, _, _, _, _, _, _, _, _, z⟩ => z.elim
end PV
end

section
/-! mirrors' answers, plainly -/
namespace PV
open PySem PySem.Spec L2
open PyProof.Rows hiding St
theorem bind_def {α β : Type} (x : M α) (f : α → M β) (s : Stt) : (x >>= f) s = match x s with
  | .ok a s' => f a s'
  | .err e s' => .err e s'
  | .no => .no := rfl
theorem pure_def {α : Type} (a : α) (s : Stt) : (pure a : M α) s = .ok a s := rfl
theorem getR_own {i : Nat} {ρ : Env} {d : D} (h : ρ[i]? = some (.own d)) : getR i ρ = pure d := by unfold getR; rw [h]
theorem getR_val {i : Nat} {ρ : Env} {d : D} (h : ρ[i]? = some (.val d)) : getR i ρ = pure d := by unfold getR; rw [h]
theorem getV_val {i : Nat} {ρ : Env} {d : D} (h : ρ[i]? = some (.val d)) : getV i ρ = pure d := by unfold getV; rw [h]
theorem sB_ok {α : Type} {x : M α} {ρ : Env} {k : α → Stt → SR} {s s' : Stt} {a : α} (h : x s = .ok a s') : sB x ρ k s = k a s' := by unfold sB; rw [h]
theorem atI0 {α : Type} (xs : List α) (k : Nat) : atI xs (k : Int) = xs[k]? := by
  unfold atI ixN
  by_cases h : k < xs.length
  · rw [if_pos (by omega), if_pos (by omega)]; simp
  · rw [if_pos (by omega), if_neg (by omega)]; simp [List.getElem?_eq_none (Nat.le_of_not_lt h)]
/-- the script's bag -/
structure Bag where
  cells : List Int
  p : Nat
  b : Int
  mx : Int
  cnt : Nat
def Bag.d (B : Bag) : D := .lst [.lst (B.cells.map D.int), .int B.p, .int B.b, .int B.mx, .int B.cnt]
structure Bag.Ok (B : Bag) (c : Nat) : Prop where
  b0 : 0 ≤ B.b
  m0 : 0 ≤ B.mx
  m1 : B.mx < 2147483648
  cn : B.cnt ≤ c
namespace CM
def b_law_bag : SM := (sSeq (sSet 1 (kI 12011))
  (sSeq (sForM (e1 seqM (eSl slD (getR 0) pN (e1 asI (kI 63)))) (gNm 2) (sSet 1 (e2 modD (e1 intD (e2 addD (e2 addD (e2 mulD (getR 1) (kI 47917)) (e2 mulD (e2 modD (e1 intD (getR 2)) (kI 1000003)) (kI 613))) (kI 31))) (kI 2147483563))))
  (sRet (e1 lstD (eCons (e1 listD (eSl slD (getR 0) pN (e1 asI (kI 63)))) (eCons (kI 0) (eCons (kI 0) (eCons (getV 1) (eCons (kI 0) eNil)))))))))
def m_law_bag : List D → M D := runO 3 b_law_bag
def b_law_draw : SM := (sSeq (sPut 0 (kI 4) (e2 addD (e2 ixD (getR 0) (kI 4)) (kI 1)))
  (sSeq (sIf (tAnd (tCmp eqD (e2 ixD (getR 0) (kI 2)) (kI 0)) (tCmp ltD (e2 ixD (getR 0) (kI 1)) (e1 lenD (e2 ixD (getR 0) (kI 0))))) (sSeq (sSet 2 (e2 ixD (e2 ixD (getR 0) (kI 0)) (e2 ixD (getR 0) (kI 1))))
  (sSeq (sPut 0 (kI 1) (e2 addD (e2 ixD (getR 0) (kI 1)) (kI 1)))
  (sIf (tCmp geD (getR 2) (e2 powD (kI 10) (kI 18))) (sPut 0 (kI 2) (getV 2)) (sPut 0 (kI 3) (e2 modD (e1 intD (e2 addD (e2 addD (e2 mulD (e2 ixD (getR 0) (kI 3)) (kI 40127)) (e2 mulD (e2 modD (e1 intD (getR 2)) (kI 1000003)) (kI 709))) (kI 43))) (kI 2147483587)))))) sNil)
  (sSeq (sIf (tCmp gtD (e2 ixD (getR 0) (kI 2)) (kI 0)) (sSeq (sSet 3 (e2 modD (e1 intD (e2 ixD (getR 0) (kI 2))) (getR 1)))
  (sSeq (sPut 0 (kI 2) (e2 fdivD (e2 ixD (getR 0) (kI 2)) (getR 1)))
  (sRet (getV 3)))) sNil)
  (sSeq (sSet 4 (e2 modD (e1 intD (e2 addD (e2 mulD (e2 ixD (getR 0) (kI 3)) (e2 ixD (getR 0) (kI 3))) (e2 mulD (e2 ixD (getR 0) (kI 4)) (kI 9173)))) (kI 2147483629)))
  (sSeq (sPut 0 (kI 3) (e2 modD (e1 intD (e2 addD (e2 addD (e2 mulD (getR 4) (kI 18553)) (e2 mulD (e2 ixD (getR 0) (kI 3)) (kI 42773))) (kI 90007))) (kI 2147483587)))
  (sRet (e2 modD (e1 intD (e2 fdivD (e2 ixD (getR 0) (kI 3)) (kI 128))) (getR 1))))))))
def m_law_draw : List D → M D := runM 5 b_law_draw
def b_law_same (rec : List D → M D) : SM := (sSeq (sIf (e1 truD (eIsiT [(sbTy "list"), (sbTy "tuple")] (getR 1))) (sSeq (sIf (tOr (tCmp neD (eIsi (sbTy "list") (getR 0)) (eIsi (sbTy "list") (getR 1))) (tCmp neD (eIsi (sbTy "tuple") (getR 0)) (eIsi (sbTy "tuple") (getR 1)))) (sRet (kB false)) sNil)
  (sRet (eAnd (e2 eqD (e1 lenD (getR 0)) (e1 lenD (getR 1))) (e1 allD (lcD (e2 zipM (getV 0) (getV 1)) (gTp 2 (gsCons (gNm 2) (gsCons (gNm 3) gsNil))) tYesM (eCal 2 0 2 (fmt [0, 1]) rec (eCons (getV 2) (eCons (getV 3) eNil)) eNil) [2, 3]))))) sNil)
  (sSeq (sIf (tOr (tIsN (getR 1)) (tIsN (getR 0))) (sRet (eAnd (eIsN (getR 1)) (eIsN (getR 0)))) sNil)
  (sSeq (sIf (tOr (tCmp neD (eIsi (sbTy "bool") (getR 0)) (eIsi (sbTy "bool") (getR 1))) (tCmp neD (eIsi (sbTy "int") (getR 0)) (eIsi (sbTy "int") (getR 1)))) (sRet (kB false)) sNil)
  (sRet (eAnd (e2 eqD (eIsi (sbTy "str") (getR 0)) (eIsi (sbTy "str") (getR 1))) (e2 eqD (getR 0) (getR 1)))))))
def m_law_same : Nat → List D → M D
  | 0 => fun _ => no
  | n + 1 => runM 4 (b_law_same (m_law_same n))
def b_law_of : SM := (sRet (e2 ixD (getR 1) (eCal 2 0 2 (fmt [0, 1]) m_law_draw (eCons (getV 0) (eCons (e1 lenD (getR 1)) eNil)) eNil)))
def m_law_of : List D → M D := runM 2 b_law_of
end CM
theorem log2_le {i : Int} {k : Nat} (h0 : 0 ≤ i) (h : i < 2 ^ (k + 1)) : i.natAbs.log2 ≤ k := by
  have : i.natAbs < 2 ^ (k + 1) := by
    have e : (i.natAbs : Int) = i := Int.natAbs_of_nonneg h0
    have : (i.natAbs : Int) < ((2 ^ (k + 1) : Nat) : Int) := by rw [e]; push_cast; exact h
    exact Int.ofNat_lt.mp this
  by_cases h2 : i.natAbs = 0
  · rw [h2]; simp
  · have := (Nat.log2_lt h2).mpr this
    omega
theorem mul_ok {i j : Int} {s : Stt} (hi : 0 ≤ i) (hi2 : i < 2 ^ 64) (hj : 0 ≤ j) (hj2 : j < 2 ^ 64) : mulD (.int i) (.int j) s = .ok (.int (i * j)) s := by
  have a := log2_le (k := 63) hi hi2
  have b := log2_le (k := 63) hj hj2
  show (if i.natAbs.log2 + j.natAbs.log2 < 1000000 then pure (.int (i * j)) else no : M D) s = _
  rw [if_pos (by omega)]; rfl
theorem mod_ok {i j : Int} {s : Stt} (hj : 0 < j) : modD (.int i) (.int j) s = .ok (.int (i % j)) s := by
  show (if j ≠ 0 then pure (.int (i.fmod j)) else no : M D) s = _
  rw [if_pos (by omega), Int.fmod_eq_emod_of_nonneg _ (by omega)]; rfl
theorem fdiv_ok {i j : Int} {s : Stt} (hj : 0 < j) (hj2 : j ≤ 1000000000000000000000000000000000000000000000000000000000000) : fdivD (.int i) (.int j) s = .ok (.int (i / j)) s := by
  have b := log2_le (k := 199) (by omega : 0 ≤ j) (by omega)
  show (if j ≠ 0 ∧ j.natAbs.log2 < 9000 then pure (.int (i.fdiv j)) else no : M D) s = _
  rw [if_pos ⟨by omega, by omega⟩, Int.fdiv_eq_ediv_of_nonneg _ (by omega)]; rfl
theorem atI_map (cs : List Int) (p : Nat) : atI (cs.map D.int) (p : Int) = (cs[p]?).map D.int := by rw [atI0, List.getElem?_map]
/-! what a mirror reaches -/
abbrev NoE : Err → Stt → Prop := fun _ _ => False
abbrev NoF : Env → Stt → Prop := fun _ _ => False
/-- a mark that keeps rewriting out of what it names -/
structure U {α : Type} (x : M α) (Q : α → Stt → Prop) (E : Err → Stt → Prop) : Type where
structure U2 (m : SM) (N : Env → Stt → Prop) (R : D → Stt → Prop) (B C : Env → Stt → Prop) (E : Err → Stt → Prop) : Type where
def EV {α : Type} (x : M α) (s : Stt) (Q : α → Stt → Prop) (E : Err → Stt → Prop) (_u : U x Q E := ⟨⟩) : Prop := match x s with
  | .ok a s' => Q a s'
  | .err e s' => E e s'
  | .no => False
def WP (m : SM) (ρ : Env) (s : Stt) (N : Env → Stt → Prop) (R : D → Stt → Prop) (B C : Env → Stt → Prop) (E : Err → Stt → Prop) (_u : U2 m N R B C E := ⟨⟩) : Prop := match m ρ s with
  | .nx ρ' s' => N ρ' s'
  | .rt d s' => R d s'
  | .bk ρ' s' => B ρ' s'
  | .ct ρ' s' => C ρ' s'
  | .err e _ s' => E e s'
  | .no => False
section
variable {α β γ : Type} {s s' : Stt} {E : Err → Stt → Prop} {N B C : Env → Stt → Prop} {R : D → Stt → Prop} {ρ : Env}
theorem ev_ok {x : M α} {a : α} {Q : α → Stt → Prop} (h : x s = .ok a s') (q : Q a s') : EV x s Q E := by unfold EV; rw [h]; exact q
theorem ev_pure {a : α} {Q : α → Stt → Prop} (q : Q a s) : EV (pure a) s Q E := q
theorem ev_bind {x : M α} {f : α → M β} {Q : β → Stt → Prop} (h : EV x s (fun a s' => EV (f a) s' Q E) E) : EV (x >>= f) s Q E := by
  unfold EV at h ⊢
  rw [bind_def]
  cases e : x s with
  | ok a s' => rw [e] at h; exact h
  | err _ _ => rw [e] at h; exact h
  | no => rw [e] at h; exact h
theorem ev_imp {x : M α} {Q Q' : α → Stt → Prop} {E' : Err → Stt → Prop} (h : EV x s Q E) (q : ∀ a s', Q a s' → Q' a s') (e : ∀ a s', E a s' → E' a s') : EV x s Q' E' := by
  unfold EV at h ⊢
  cases k : x s with
  | ok a s' => rw [k] at h; exact q _ _ h
  | err _ _ => rw [k] at h; exact e _ _ h
  | no => rw [k] at h; exact h
theorem ev_ne {x : M α} {Q : α → Stt → Prop} (h : EV x s Q NoE) : EV (ne x) s Q E := by
  unfold EV at h ⊢
  unfold ne
  cases k : x s with
  | ok a s' => rw [k] at h; exact h
  | err _ _ => rw [k] at h; exact h.elim
  | no => rw [k] at h; exact h
theorem ev_get {x : M α} {Q : α → Stt → Prop} (h : EV x s Q NoE) : ∃ a s', x s = .ok a s' ∧ Q a s' := by
  unfold EV at h
  cases k : x s with
  | ok a s' => rw [k] at h; exact ⟨a, s', rfl, h⟩
  | err _ _ => rw [k] at h; exact h.elim
  | no => rw [k] at h; exact h.elim
theorem ev_getR {i : Nat} {d : D} {Q : D → Stt → Prop} (h : ρ[i]? = some (.val d)) (q : Q d s) : EV (getR i ρ) s Q E := by rw [getR_val h]; exact q
theorem ev_getO {i : Nat} {d : D} {Q : D → Stt → Prop} (h : ρ[i]? = some (.own d)) (q : Q d s) : EV (getR i ρ) s Q E := by rw [getR_own h]; exact q
theorem ev_getV {i : Nat} {d : D} {Q : D → Stt → Prop} (h : ρ[i]? = some (.val d)) (q : Q d s) : EV (getV i ρ) s Q E := by rw [getV_val h]; exact q
theorem ev_ifT {b : Bool} {x y : M α} {Q : α → Stt → Prop} (hb : b = true) (h : EV x s Q E) : EV (if b = true then x else y) s Q E := by rw [if_pos hb]; exact h
theorem ev_ifF {b : Bool} {x y : M α} {Q : α → Stt → Prop} (hb : b = false) (h : EV y s Q E) : EV (if b = true then x else y) s Q E := by rw [if_neg (by rw [hb]; decide)]; exact h
theorem ev_if {b : Bool} {x y : M α} {Q : α → Stt → Prop} (h : b = true → EV x s Q E) (h' : b = false → EV y s Q E) : EV (if b = true then x else y) s Q E := by
  cases b with
  | true => exact h rfl
  | false => exact h' rfl
theorem ev_no {Q : α → Stt → Prop} (h : False) : EV (no : M α) s Q E := h
theorem ev_atM {a : α} {o : Option α} {Q : α → Stt → Prop} (h : o = some a) (q : Q a s) : EV (atM o) s Q E := by subst h; exact q
/-! operations -/
variable {i j : Int} {Q : D → Stt → Prop} {T : Bool → Stt → Prop}
theorem ev_add (q : Q (.int (i + j)) s) : EV (addD (.int i) (.int j)) s Q E := q
theorem ev_sub (q : Q (.int (i - j)) s) : EV (subD (.int i) (.int j)) s Q E := q
theorem ev_mul (h : i.natAbs.log2 + j.natAbs.log2 < 1000000) (q : Q (.int (i * j)) s) : EV (mulD (.int i) (.int j)) s Q E := by
  show EV (if i.natAbs.log2 + j.natAbs.log2 < 1000000 then pure (.int (i * j)) else no : M D) s Q E
  rw [if_pos h]; exact q
theorem log2_small {i : Int} (h : i.natAbs < 2 ^ 64) : i.natAbs.log2 ≤ 63 := by
  by_cases h2 : i.natAbs = 0
  · rw [h2]; simp
  · have := (Nat.log2_lt h2).mpr h
    omega
theorem ev_muls (h : i.natAbs < 2 ^ 64) (h' : j.natAbs < 2 ^ 64) (q : Q (.int (i * j)) s) : EV (mulD (.int i) (.int j)) s Q E := ev_mul (by have := log2_small h; have := log2_small h'; omega) q
theorem ev_mod (hj : 0 < j) (q : Q (.int (i % j)) s) : EV (modD (.int i) (.int j)) s Q E := ev_ok (mod_ok hj) q
theorem ev_fdiv (hj : 0 < j) (hj2 : j ≤ 1000000000000000000000000000000000000000000000000000000000000) (q : Q (.int (i / j)) s) : EV (fdivD (.int i) (.int j)) s Q E := ev_ok (fdiv_ok hj hj2) q
theorem ev_pow {k : Int} (h0 : 0 ≤ j) (h1 : j ≤ 1000000) (h2 : i.natAbs < 2 ^ 64) (hk : i ^ j.toNat = k) (q : Q (.int k) s) : EV (powD (.int i) (.int j)) s Q E := by
  subst hk
  show EV (if 0 ≤ j ∧ j ≤ 1000000 ∧ i.natAbs < 2 ^ 64 then pure (.int (i ^ j.toNat)) else no : M D) s Q E
  rw [if_pos ⟨h0, h1, h2⟩]; exact q
theorem ev_lt (q : Q (.bl (decide (i < j))) s) : EV (ltD (.int i) (.int j)) s Q E := q
theorem ev_le (q : Q (.bl (decide (i ≤ j))) s) : EV (leD (.int i) (.int j)) s Q E := q
theorem ev_gt (q : Q (.bl (decide (j < i))) s) : EV (gtD (.int i) (.int j)) s Q E := q
theorem ev_ge (q : Q (.bl (decide (j ≤ i))) s) : EV (geD (.int i) (.int j)) s Q E := q
theorem ev_toint (q : Q (.int i) s) : EV (intD (.int i)) s Q E := q
theorem ev_asB {b : Bool} (q : T b s) : EV (asB (.bl b)) s T E := q
theorem ev_notD {b : Bool} (q : Q (.bl !b) s) : EV (notD (.bl b)) s Q E := q
theorem ev_negD (q : Q (.int (-i)) s) : EV (negD (.int i)) s Q E := q
theorem ev_trB {b : Bool} (q : T b s) : EV (truD (.bl b)) s T E := q
theorem ev_asI {Q : Option Int → Stt → Prop} (q : Q (some i) s) : EV (asI (.int i)) s Q E := q
theorem ev_asS {z : Str} {Q : Str → Stt → Prop} (q : Q z s) : EV (asS (.str z)) s Q E := q
theorem eq_int : eqD (.int i) (.int j) s = .ok (.bl (decide (i = j))) s := by
  show (eqB (.int i) (.int j) >>= fun b => (pure (.bl b) : M D)) s = _
  have e : eqB (.int i) (.int j) = pure (PyData.eqv (.int i) (.int j)) := rfl
  have e2 : PyData.eqv (.int i) (.int j) = decide (i = j) := by simp only [PyData.eqv]; rfl
  rw [e, e2]; rfl
theorem ev_eqI (q : Q (.bl (decide (i = j))) s) : EV (eqD (.int i) (.int j)) s Q E := ev_ok eq_int q
theorem ne_int : neD (.int i) (.int j) s = .ok (.bl !(decide (i = j))) s := by
  show (eqB (.int i) (.int j) >>= fun b => (pure (.bl !b) : M D)) s = _
  have e : eqB (.int i) (.int j) = pure (PyData.eqv (.int i) (.int j)) := rfl
  have e2 : PyData.eqv (.int i) (.int j) = decide (i = j) := by simp only [PyData.eqv]; rfl
  rw [e, e2]; rfl
theorem ev_neI (q : Q (.bl !(decide (i = j))) s) : EV (neD (.int i) (.int j)) s Q E := ev_ok ne_int q
theorem ev_eqS {a b : Str} (q : Q (.bl (decide (a = b))) s) : EV (eqD (.str a) (.str b)) s Q E := q
theorem ev_neS {a b : Str} (q : Q (.bl !(decide (a = b))) s) : EV (neD (.str a) (.str b)) s Q E := q
theorem ev_lenL {xs : List D} (q : Q (.int xs.length) s) : EV (lenD (.lst xs)) s Q E := q
theorem ev_lenT {xs : List D} (q : Q (.int xs.length) s) : EV (lenD (.tup xs)) s Q E := q
theorem ev_lenS {z : Str} (h : z.length ≤ SIZE) (q : Q (.int z.length) s) : EV (lenD (.str z)) s Q E := by
  show EV (if z.length ≤ SIZE then pure (.int z.length) else no : M D) s Q E
  rw [if_pos h]; exact q
theorem ev_ixL {xs : List D} {d : D} (h : atI xs i = some d) (q : Q d s) : EV (ixD (.lst xs) (.int i)) s Q E := by
  show EV (atM (atI xs i)) s Q E
  exact ev_atM h q
theorem ev_ixT {xs : List D} {d : D} (h : atI xs i = some d) (q : Q d s) : EV (ixD (.tup xs) (.int i)) s Q E := by
  show EV (atM (atI xs i)) s Q E
  exact ev_atM h q
theorem ev_ixO {xs : List D} {d : D} {o : Nat} (ho : s[o]? = some (.lst xs)) (h : atI xs i = some d) (q : Q d s) : EV (ixD (.obj o) (.int i)) s Q E := by
  refine ev_ok (a := d) (s' := s) ?_ q
  unfold ixD
  simp only [ho, h]; rfl
theorem ev_lstD {xs : List D} (h : xs.length ≤ SIZE) (q : Q (.lst xs) s) : EV (lstD xs) s Q E := by unfold lstD; rw [if_pos h]; exact q
theorem ev_tupD {xs : List D} (h : xs.length ≤ SIZE) (q : Q (.tup xs) s) : EV (tupD xs) s Q E := by unfold tupD; rw [if_pos h]; exact q
theorem ev_listL {xs : List D} (q : Q (.lst xs) s) : EV (listD (.lst xs)) s Q E := q
theorem ev_listT {xs : List D} (q : Q (.lst xs) s) : EV (listD (.tup xs)) s Q E := q
theorem ev_slL {xs : List D} {lo hi : Option Int} (q : Q (.lst (cutD xs lo hi)) s) : EV (slD (.lst xs) lo hi) s Q E := q
theorem ev_slS {z : Str} {lo hi : Option Int} (h : z.length ≤ SIZE) (q : Q (.str (cutS z lo hi)) s) : EV (slD (.str z) lo hi) s Q E := by
  show EV (if z.length ≤ SIZE then pure (.str (cutS z lo hi)) else no : M D) s Q E
  rw [if_pos h]; exact q
theorem ev_seqL {xs : List D} {Q : List D → Stt → Prop} (q : Q xs s) : EV (seqM (.lst xs)) s Q E := q
theorem ev_seqT {xs : List D} {Q : List D → Stt → Prop} (q : Q xs s) : EV (seqM (.tup xs)) s Q E := q
theorem ev_seqS {z : Str} {Q : List D → Stt → Prop} (q : Q (chrD z) s) : EV (seqM (.str z)) s Q E := q
theorem ev_rng1 {Q : List D → Stt → Prop} (h : -NUM ≤ i ∧ i < NUM) (q : Q (rangeD 0 i.toNat) s) : EV (rng1 (.int i)) s Q E := by
  show EV (if -NUM ≤ i ∧ i < NUM then pure (rangeD 0 i.toNat) else no : M (List D)) s Q E
  rw [if_pos h]; exact q
theorem ev_zip {xs ys : List D} {Q : List D → Stt → Prop} (q : Q (zipD xs ys) s) : EV (zipM (.lst xs) (.lst ys)) s Q E := q
theorem ev_enum {xs : List D} {Q : List D → Stt → Prop} (q : Q (enumD xs) s) : EV (enumM (.lst xs)) s Q E := q
theorem ev_call {n nk np : Nat} {gD : List D → List D → List D} {m : List D → M D} {ds dk as : List D} (h : ds.length = n ∧ dk.length = nk ∧ (gD ds dk).length = np) (ha : gD ds dk = as) (q : EV (m as) s Q E) : EV (callM n nk np gD m ds dk) s Q E := by
  unfold callM; rw [if_pos h, ha]; exact q
/-! statements -/
theorem w_seq {a b : SM} (h : WP a ρ s (fun ρ' s' => WP b ρ' s' N R B C E) R B C E) : WP (sSeq a b) ρ s N R B C E := by
  unfold WP at h ⊢
  unfold sSeq
  cases e : a ρ s <;> (rw [e] at h; exact h)
theorem w_nil (q : N ρ s) : WP sNil ρ s N R B C E := q
theorem w_sB {x : M α} {k : α → Stt → SR} {m : SM} (hm : m ρ s = sB x ρ k s) (h : EV x s (fun a s' => WP (fun _ => k a) ρ s' N R B C E) E) : WP m ρ s N R B C E := by
  unfold WP
  rw [hm]
  unfold EV at h
  unfold sB
  cases e : x s with
  | ok a s' => rw [e] at h; exact h
  | err _ _ => rw [e] at h; exact h
  | no => rw [e] at h; exact h
theorem w_set {i : Nat} {f : Env → M D} (h : EV (f ρ) s (fun d s' => N (ρ.set i (.val d)) s') E) : WP (sSet i f) ρ s N R B C E := w_sB rfl h
theorem w_setO {i : Nat} {f : Env → M D} (h : EV (f ρ) s (fun d s' => N (ρ.set i (.own d)) s') E) : WP (sSetO i f) ρ s N R B C E := w_sB rfl h
theorem w_ret {f : Env → M D} (h : EV (f ρ) s R E) : WP (sRet f) ρ s N R B C E := w_sB rfl h
theorem w_drop {f : Env → M α} (h : EV (f ρ) s (fun _ s' => N ρ s') E) : WP (sDrop f) ρ s N R B C E := w_sB rfl h
theorem w_if {t : Env → M Bool} {a b : SM} (h : EV (t ρ) s (fun k s' => (k = true → WP a ρ s' N R B C E) ∧ (k = false → WP b ρ s' N R B C E)) E) : WP (sIf t a b) ρ s N R B C E := w_sB rfl (ev_imp h (fun k s' q => by
  cases k with
  | true => exact q.1 rfl
  | false => exact q.2 rfl) fun _ _ z => z)
theorem w_frz {i : Nat} {d : D} (h : ρ[i]? = some (.own d)) (q : N (ρ.set i (.val d)) s) : WP (sFrz i) ρ s N R B C E := by unfold WP sFrz; rw [h]; exact q
theorem w_frzV {i : Nat} {d : D} (h : ρ[i]? = some (.val d)) (q : N ρ s) : WP (sFrz i) ρ s N R B C E := by unfold WP sFrz; rw [h]; exact q
theorem w_sto {i : Nat} {d : D} (h : ρ[i]? = some (.own d)) (q : N (ρ.set i (.val (.obj s.length))) (s ++ [d])) : WP (sSto i) ρ s N R B C E := by unfold WP sSto; rw [h]; exact q
theorem w_par {i j : Nat} {w1 w2 : Bool} {f g : Env → M D} (h : EV (f ρ) s (fun d s1 => EV (g ρ) s1 (fun d' s2 => N ((ρ.set i (slotOf w1 d)).set j (slotOf w2 d')) s2) E) E) : WP (sPar i j w1 w2 f g) ρ s N R B C E :=
  w_sB rfl (ev_imp h (fun d s1 q => w_sB rfl q) fun _ _ z => z)
theorem w_asg {g : D → Env → Option Env} {f : Env → M D} (h : EV (f ρ) s (fun d s' => ∃ ρ', g d ρ = some ρ' ∧ N ρ' s') E) : WP (sAsg g f) ρ s N R B C E :=
  w_sB rfl (ev_imp h (fun d s1 ⟨ρ', e, q⟩ => by show WP (fun _ s' => match g d ρ with | some ρ' => .nx ρ' s' | none => .no) ρ s1 N R B C E; unfold WP; rw [e]; exact q) fun _ _ z => z)
theorem w_app {i : Nat} {f : Env → M D} {xs : List D} (h : ρ[i]? = some (.own (.lst xs))) (hz : xs.length < SIZE) (q : EV (f ρ) s (fun d s' => N (ρ.set i (.own (.lst (xs ++ [d])))) s') E) : WP (sApp i f) ρ s N R B C E := by
  have hl : lstAt i ρ s = true := by unfold lstAt; rw [h]
  refine w_sB (x := f ρ) (k := fun v s' => appAt i ρ v s') (by unfold sApp; rw [if_pos hl]) (ev_imp q (fun d s1 q => ?_) fun _ _ z => z)
  unfold WP appAt
  simp only [h]
  rw [if_pos hz]; exact q
/-- the bag's cell is stored -/
theorem w_put {i : Nat} {fi fe : Env → M D} {o : Nat} (h : ρ[i]? = some (.val (.obj o))) (q : EV (fe ρ) s (fun v s1 => EV (fi ρ) s1 (fun ix s2 => ∃ (k : Int) (xs : List D) (j : Nat), ix = .int k ∧ s2[o]? = some (.lst xs) ∧ ixN xs.length k = some j ∧ N ρ (s2.set o (.lst (xs.set j v)))) E) E) : WP (sPut i fi fe) ρ s N R B C E := by
  have hl : refAt i ρ = true := by unfold refAt; rw [h]
  refine w_sB (x := fe ρ) (k := fun v s1 => sB (fi ρ) ρ (fun ix s2 => putAt i ρ ix v s2) s1) (by unfold sPut; rw [if_pos hl]) (ev_imp q (fun v s1 q => w_sB rfl (ev_imp q (fun ix s2 ⟨k, xs, j, e1, e2, e3, q⟩ => ?_) fun _ _ z => z)) fun _ _ z => z)
  subst e1
  unfold WP putAt
  simp only [h, e2, e3]
  exact q
theorem w_imp {m : SM} {N' B' C' : Env → Stt → Prop} {R' : D → Stt → Prop} {E' : Err → Stt → Prop} (h : WP m ρ s N R B C E) (n : ∀ ρ s, N ρ s → N' ρ s) (r : ∀ d s, R d s → R' d s) (b : ∀ ρ s, B ρ s → B' ρ s) (c : ∀ ρ s, C ρ s → C' ρ s) (e : ∀ x s, E x s → E' x s) : WP m ρ s N' R' B' C' E' := by
  unfold WP at h ⊢
  cases k : m ρ s <;> (rw [k] at h)
  · exact n _ _ h
  · exact r _ _ h
  · exact b _ _ h
  · exact c _ _ h
  · exact e _ _ h
  · exact h
/-- a for, by an invariant of the turn -/
theorem w_forI {f : Env → M (List D)} {g : D → Env → Option Env} {m : SM} (h : EV (f ρ) s (fun ds s0 => ∃ I : Nat → Env → Stt → Prop, I 0 ρ s0 ∧ (∀ i d ρ s, ds[i]? = some d → I i ρ s → ∃ ρ', g d ρ = some ρ' ∧ WP m ρ' s (I (i + 1)) R N (I (i + 1)) E) ∧ ∀ ρ s, I ds.length ρ s → N ρ s) E) : WP (sForM f g m) ρ s N R B C E := by
  refine w_sB rfl (ev_imp h (fun ds s0 ⟨I, h0, hs, hd⟩ => ?_) fun _ _ z => z)
  show WP (fun ρ' s' => sFor g m ds ρ s') ρ s0 N R B C E
  have key : ∀ (k i : Nat) (ρ : Env) (s : Stt), i + k = ds.length → I i ρ s → WP (sFor g m (ds.drop i)) ρ s N R B C E := fun k => by
    induction k with
    | zero =>
      intro i ρ s hi h
      have : i = ds.length := by omega
      subst this
      rw [List.drop_length]
      exact hd ρ s h
    | succ k ih =>
      intro i ρ s hi h
      have hlt : i < ds.length := by omega
      rw [List.drop_eq_getElem_cons hlt]
      obtain ⟨ρ', e, hw⟩ := hs i ds[i] ρ s (List.getElem?_eq_getElem hlt) h
      unfold WP
      unfold sFor
      rw [e]
      show (match (match m ρ' s with
        | .nx ρ2 s2 => sFor g m (ds.drop (i + 1)) ρ2 s2
        | .ct ρ2 s2 => sFor g m (ds.drop (i + 1)) ρ2 s2
        | .bk ρ2 s2 => .nx ρ2 s2
        | r => r) with
        | .nx ρ' s' => N ρ' s'
        | .rt d s' => R d s'
        | .bk ρ' s' => B ρ' s'
        | .ct ρ' s' => C ρ' s'
        | .err e _ s' => E e s'
        | .no => False)
      unfold WP at hw
      cases e2 : m ρ' s with
      | nx ρ2 s2 => rw [e2] at hw; exact ih (i + 1) ρ2 s2 (by omega) hw
      | ct ρ2 s2 => rw [e2] at hw; exact ih (i + 1) ρ2 s2 (by omega) hw
      | bk ρ2 s2 => rw [e2] at hw; exact hw
      | rt d s2 => rw [e2] at hw; exact hw
      | err e' ρ2 s2 => rw [e2] at hw; exact hw
      | no => rw [e2] at hw; exact hw
  have := key ds.length 0 ρ s0 (by omega) h0
  rw [List.drop_zero] at this
  exact this
/-- a def -/
theorem w_run {n : Nat} {m : SM} {ds : List D} {Q : D → Stt → Prop} (hρ : ds.map .val ++ List.replicate (n - ds.length) .no = ρ) (h : WP m ρ s (fun _ s' => Q .non s') Q NoF NoF E) : EV (runM n m ds) s Q E := by
  subst hρ
  unfold WP at h
  unfold EV runM
  cases e : m (ds.map .val ++ List.replicate (n - ds.length) .no) s <;> (rw [e] at h; exact h)
theorem w_runO {n : Nat} {m : SM} {ds : List D} {Q : D → Stt → Prop} (hρ : ds.map .val ++ List.replicate (n - ds.length) .no = ρ) (h : WP m ρ s NoF Q NoF NoF E) : EV (runO n m ds) s Q E := by
  subst hρ
  unfold WP at h
  unfold EV runO
  cases e : m (ds.map .val ++ List.replicate (n - ds.length) .no) s <;> (rw [e] at h; exact h)
/-- a comprehension, by an invariant of the turn and of what it made -/
theorem ev_lc {f : Env → M (List D)} {g : D → Env → Option Env} {t : Env → M Bool} {e : Env → M D} {vs : List Nat} {Q : D → Stt → Prop} (h : EV (f ρ) s (fun ds s0 => ds.length < SIZE ∧ ∃ I : Nat → List D → Stt → Prop, I 0 [] s0 ∧
    (∀ i d acc s, ds[i]? = some d → I i acc s → ∃ ρ', g d (wipeE ρ vs) = some ρ' ∧ EV (t ρ') s (fun b s1 => (b = true → EV (e ρ') s1 (fun y s2 => I (i + 1) (acc ++ [y]) s2) NoE) ∧ (b = false → I (i + 1) acc s1)) NoE) ∧ ∀ acc s, I ds.length acc s → Q (.lst acc) s) E) : EV (lcD f g t e vs ρ) s Q E := by
  refine ev_bind (ev_imp h (fun ds s0 ⟨hz, I, h0, hs, hd⟩ => ?_) fun _ _ z => z)
  rw [if_pos hz]
  have key : ∀ (k i : Nat) (acc : List D) (s : Stt), i + k = ds.length → I i acc s → ∃ ys s', lcM g t e (wipeE ρ vs) (ds.drop i) s = .ok ys s' ∧ I ds.length (acc ++ ys) s' := fun k => by
    induction k with
    | zero =>
      intro i acc s hi h
      have : i = ds.length := by omega
      subst this
      rw [List.drop_length]
      exact ⟨[], s, rfl, by rw [List.append_nil]; exact h⟩
    | succ k ih =>
      intro i acc s hi h
      have hlt : i < ds.length := by omega
      rw [List.drop_eq_getElem_cons hlt]
      obtain ⟨ρ', eg, hw⟩ := hs i ds[i] acc s (List.getElem?_eq_getElem hlt) h
      obtain ⟨b, s1, e1, q1⟩ := ev_get hw
      unfold lcM
      rw [eg]
      have n1 : ne (t ρ') s = .ok b s1 := by unfold ne; rw [e1]
      cases b with
      | true =>
        obtain ⟨y, s2, e2, q2⟩ := ev_get (q1.1 rfl)
        have n2 : ne (e ρ') s1 = .ok y s2 := by unfold ne; rw [e2]
        obtain ⟨ys, s3, e3, q3⟩ := ih (i + 1) (acc ++ [y]) s2 (by omega) q2
        refine ⟨y :: ys, s3, ?_, by rw [List.append_assoc] at q3; exact q3⟩
        show (ne (t ρ') >>= _) s = _
        rw [bind_eq n1]
        show (ne (e ρ') >>= _) s1 = _
        rw [bind_eq n2]
        show (lcM g t e (wipeE ρ vs) (ds.drop (i + 1)) >>= _) s2 = _
        rw [bind_eq e3]; rfl
      | false =>
        obtain ⟨ys, s3, e3, q3⟩ := ih (i + 1) acc s1 (by omega) (q1.2 rfl)
        refine ⟨ys, s3, ?_, q3⟩
        show (ne (t ρ') >>= _) s = _
        rw [bind_eq n1]
        exact e3
  obtain ⟨ys, s', e', q'⟩ := key ds.length 0 [] s0 (by omega) h0
  rw [List.drop_zero] at e'
  rw [List.nil_append] at q'
  exact ev_bind (ev_ok e' (hd ys s' q'))
end
end PV
end

section
namespace PV
open PySem PySem.Spec L2
open PyProof.Rows hiding St
local macro_rules | `(tactic| trivial) => `(tactic| first
  | with_reducible refine ev_bind ?_
  | with_reducible refine ev_pure ?_
  | with_reducible refine ev_getR rfl ?_
  | with_reducible refine ev_getV rfl ?_
  | with_reducible refine ev_getO rfl ?_
  | with_reducible refine ev_add ?_
  | with_reducible refine ev_sub ?_
  | with_reducible refine ev_toint ?_
  | with_reducible refine ev_asB ?_
  | with_reducible refine ev_notD ?_
  | with_reducible refine ev_negD ?_
  | with_reducible refine ev_trB ?_
  | with_reducible refine ev_asI ?_
  | with_reducible refine ev_asS ?_
  | with_reducible refine ev_lt ?_
  | with_reducible refine ev_le ?_
  | with_reducible refine ev_gt ?_
  | with_reducible refine ev_ge ?_
  | with_reducible refine ev_eqI ?_
  | with_reducible refine ev_neI ?_
  | with_reducible refine ev_lenL ?_
  | with_reducible refine ev_lenT ?_
  | with_reducible refine ev_seqL ?_
  | with_reducible refine ev_seqT ?_
  | with_reducible refine ev_seqS ?_
  | with_reducible refine ev_zip ?_
  | with_reducible refine ev_enum ?_
  | with_reducible refine ev_slL ?_
  | with_reducible refine ev_listL ?_
  | with_reducible refine ev_listT ?_
  | with_reducible refine w_seq ?_
  | with_reducible refine w_nil ?_
  | with_reducible refine w_set ?_
  | with_reducible refine w_setO ?_
  | with_reducible refine w_ret ?_
  | with_reducible refine w_drop ?_
  | with_reducible refine w_par ?_
  | with_reducible refine w_if ?_)
theorem ev_ix0 {s : Stt} {o : Nat} {a b c d e : D} {Q : D → Stt → Prop} {E : Err → Stt → Prop} (h : s[o]? = some (.lst [a, b, c, d, e])) (q : Q a s) : EV (ixD (.obj o) (.int 0)) s Q E := ev_ixO h rfl q
theorem ev_ix1 {s : Stt} {o : Nat} {a b c d e : D} {Q : D → Stt → Prop} {E : Err → Stt → Prop} (h : s[o]? = some (.lst [a, b, c, d, e])) (q : Q b s) : EV (ixD (.obj o) (.int 1)) s Q E := ev_ixO h rfl q
theorem ev_ix2 {s : Stt} {o : Nat} {a b c d e : D} {Q : D → Stt → Prop} {E : Err → Stt → Prop} (h : s[o]? = some (.lst [a, b, c, d, e])) (q : Q c s) : EV (ixD (.obj o) (.int 2)) s Q E := ev_ixO h rfl q
theorem ev_ix3 {s : Stt} {o : Nat} {a b c d e : D} {Q : D → Stt → Prop} {E : Err → Stt → Prop} (h : s[o]? = some (.lst [a, b, c, d, e])) (q : Q d s) : EV (ixD (.obj o) (.int 3)) s Q E := ev_ixO h rfl q
theorem ev_ix4 {s : Stt} {o : Nat} {a b c d e : D} {Q : D → Stt → Prop} {E : Err → Stt → Prop} (h : s[o]? = some (.lst [a, b, c, d, e])) (q : Q e s) : EV (ixD (.obj o) (.int 4)) s Q E := ev_ixO h rfl q
theorem ev_draw {rest : Stt} {B : Bag} {c : Nat} {many : Int} {Q : D → Stt → Prop} {E : Err → Stt → Prop} (hB : B.Ok c) (hc : c < 2 ^ 60) (h0 : 0 < many) (h1 : many ≤ 1000000000000000000000000000000000000000000000000000000000000)
    (q : ∀ (r : Int) (B' : Bag), 0 ≤ r → r < many → B'.Ok (c + 1) → Q (.int r) (B'.d :: rest)) : EV (CM.m_law_draw [.obj 0, .int many]) (B.d :: rest) Q E := by
  obtain ⟨cs, p, b, mx, cn⟩ := B
  obtain ⟨hb0, hm0, hm1, hcn⟩ := hB
  simp only at hb0 hm0 hm1 hcn
  refine w_run (ρ := [.val (.obj 0), .val (.int many), .no, .no, .no]) rfl ?_
  unfold CM.b_law_draw
  simp only [Bag.d]
  -- the count
  refine w_seq (w_put rfl ?_)
  repeat (first | trivial | with_reducible refine ev_ix4 rfl ?_)
  refine ⟨4, _, 4, rfl, rfl, rfl, ?_⟩
  simp only [List.set_cons_zero, List.set_cons_succ]
  -- what comes behind
  have rest_ok : ∀ (ρ : Env) (p2 : Nat) (b2 mx2 : Int), 0 ≤ b2 → 0 ≤ mx2 → mx2 < 2147483648 → ρ[0]? = some (.val (.obj 0)) → ρ[1]? = some (.val (.int many)) → 5 ≤ ρ.length →
      WP (sSeq (sIf (tCmp gtD (e2 ixD (getR 0) (kI 2)) (kI 0)) (sSeq (sSet 3 (e2 modD (e1 intD (e2 ixD (getR 0) (kI 2))) (getR 1)))
  (sSeq (sPut 0 (kI 2) (e2 fdivD (e2 ixD (getR 0) (kI 2)) (getR 1)))
  (sRet (getV 3)))) sNil)
  (sSeq (sSet 4 (e2 modD (e1 intD (e2 addD (e2 mulD (e2 ixD (getR 0) (kI 3)) (e2 ixD (getR 0) (kI 3))) (e2 mulD (e2 ixD (getR 0) (kI 4)) (kI 9173)))) (kI 2147483629)))
  (sSeq (sPut 0 (kI 3) (e2 modD (e1 intD (e2 addD (e2 addD (e2 mulD (getR 4) (kI 18553)) (e2 mulD (e2 ixD (getR 0) (kI 3)) (kI 42773))) (kI 90007))) (kI 2147483587)))
  (sRet (e2 modD (e1 intD (e2 fdivD (e2 ixD (getR 0) (kI 3)) (kI 128))) (getR 1)))))) ρ (.lst [.lst (cs.map D.int), .int p2, .int b2, .int mx2, .int ((cn : Int) + 1)] :: rest) (fun _ s' => Q .non s') Q NoF NoF E := by
    intro ρ p2 b2 mx2 hb hm hm2 e0 e1 hl
    obtain ⟨a0, a1, a2, a3, a4, ρ, rfl⟩ : ∃ a0 a1 a2 a3 a4 r, ρ = a0 :: a1 :: a2 :: a3 :: a4 :: r := by
      rcases ρ with _ | ⟨a0, _ | ⟨a1, _ | ⟨a2, _ | ⟨a3, _ | ⟨a4, r⟩⟩⟩⟩⟩ <;> first | (simp at hl; done) | (simp at hl; omega) | exact ⟨_, _, _, _, _, _, rfl⟩
    simp at e0 e1
    subst e0 e1
    repeat (first | trivial | with_reducible refine ev_ix2 rfl ?_)
    refine ⟨fun hk => ?_, fun hk => ?_⟩
    · have hk : 0 < b2 := of_decide_eq_true hk
      refine w_seq (w_set ?_)
      repeat (first | trivial | with_reducible refine ev_ix2 rfl ?_ | with_reducible refine ev_mod h0 ?_)
      refine w_put rfl ?_
      repeat (first | trivial | with_reducible refine ev_ix2 rfl ?_ | with_reducible refine ev_fdiv h0 h1 ?_)
      refine ⟨2, _, 2, rfl, rfl, rfl, ?_⟩
      simp only [List.set_cons_zero, List.set_cons_succ]
      repeat trivial
      exact q (b2 % many) ⟨cs, p2, b2 / many, mx2, cn + 1⟩ (Int.emod_nonneg _ (by omega)) (Int.emod_lt_of_pos _ h0) ⟨Int.ediv_nonneg hb (by omega), hm, hm2, by show cn + 1 ≤ c + 1; omega⟩
    · repeat (first | trivial | with_reducible refine ev_ix3 rfl ?_ | with_reducible refine ev_ix4 rfl ?_ | with_reducible refine ev_muls (by omega) (by omega) ?_ | with_reducible refine ev_mod (by decide) ?_)
      refine w_put rfl ?_
      have hp : (0 : Int) ≤ (mx2 * mx2 + ((cn : Int) + 1) * 9173) % 2147483629 ∧ (mx2 * mx2 + ((cn : Int) + 1) * 9173) % 2147483629 < 2147483629 := ⟨Int.emod_nonneg _ (by decide), Int.emod_lt_of_pos _ (by decide)⟩
      generalize (mx2 * mx2 + ((cn : Int) + 1) * 9173) % 2147483629 = late at hp ⊢
      repeat (first | trivial | with_reducible refine ev_ix3 rfl ?_ | with_reducible refine ev_muls (by omega) (by omega) ?_ | with_reducible refine ev_mod (by decide) ?_)
      refine ⟨3, _, 3, rfl, rfl, rfl, ?_⟩
      simp only [List.set_cons_zero, List.set_cons_succ]
      have hq : (0 : Int) ≤ (late * 18553 + mx2 * 42773 + 90007) % 2147483587 ∧ (late * 18553 + mx2 * 42773 + 90007) % 2147483587 < 2147483587 := ⟨Int.emod_nonneg _ (by decide), Int.emod_lt_of_pos _ (by decide)⟩
      generalize (late * 18553 + mx2 * 42773 + 90007) % 2147483587 = m3 at hq ⊢
      repeat (first | trivial | with_reducible refine ev_ix3 rfl ?_ | with_reducible refine ev_fdiv (by decide) (by decide) ?_ | with_reducible refine ev_mod h0 ?_)
      exact q (m3 / 128 % many) ⟨cs, p2, b2, m3, cn + 1⟩ (Int.emod_nonneg _ (by omega)) (Int.emod_lt_of_pos _ h0) ⟨hb, hq.1, by show m3 < _; omega, by show cn + 1 ≤ c + 1; omega⟩
  refine w_seq (w_if ?_)
  repeat (first | trivial | with_reducible refine ev_ix2 rfl ?_)
  refine ev_if (fun hk => ?_) (fun hk => ?_)
  · repeat (first | trivial | with_reducible refine ev_ix1 rfl ?_ | with_reducible refine ev_ix0 rfl ?_)
    refine ⟨fun hk2 => ?_, fun hk2 => ?_⟩
    · have hk2 := of_decide_eq_true hk2
      rw [List.length_map] at hk2
      have hp : p < cs.length := by omega
      refine w_seq (w_set ?_)
      repeat (first | trivial | with_reducible refine ev_ix1 rfl ?_ | with_reducible refine ev_ix0 rfl ?_)
      refine ev_ixL (d := .int cs[p]) (by rw [atI_map, List.getElem?_eq_getElem hp]; rfl) ?_
      refine w_seq (w_put rfl ?_)
      repeat (first | trivial | with_reducible refine ev_ix1 rfl ?_)
      refine ⟨1, _, 1, rfl, rfl, rfl, ?_⟩
      simp only [List.set_cons_zero, List.set_cons_succ]
      refine w_if ?_
      repeat (first | trivial | with_reducible refine ev_pow (k := 1000000000000000000) (by decide) (by decide) (by decide) (by decide) ?_)
      refine ⟨fun hk3 => ?_, fun hk3 => ?_⟩
      · refine w_put rfl ?_
        repeat trivial
        refine ⟨2, _, 2, rfl, rfl, rfl, ?_⟩
        simp only [List.set_cons_zero, List.set_cons_succ]
        exact rest_ok _ (p + 1) cs[p] mx (by have := of_decide_eq_true hk3; omega) hm0 hm1 rfl rfl (by simp)
      · refine w_put rfl ?_
        repeat (first | trivial | with_reducible refine ev_ix3 rfl ?_ | with_reducible refine ev_muls (by omega) (by omega) ?_ | with_reducible refine ev_mod (by decide) ?_)
        refine ⟨3, _, 3, rfl, rfl, rfl, ?_⟩
        simp only [List.set_cons_zero, List.set_cons_succ]
        exact rest_ok _ (p + 1) b _ hb0 (Int.emod_nonneg _ (by decide)) (Int.lt_trans (Int.emod_lt_of_pos _ (by decide)) (by decide)) rfl rfl (by simp)
    · refine w_nil ?_
      exact rest_ok _ p b mx hb0 hm0 hm1 rfl rfl (by simp)
  · refine ev_pure ?_
    refine ⟨fun z => Bool.noConfusion z, fun _ => ?_⟩
    refine w_nil ?_
    exact rest_ok _ p b mx hb0 hm0 hm1 rfl rfl (by simp)
end PV
end

section
namespace PV
open PySem PySem.Spec L2
open PyProof.Rows hiding St
theorem isi_NoneType_int : sbTy "int" (.inl "NoneType") = some false := by decide +kernel
theorem isi_NoneType_str : sbTy "str" (.inl "NoneType") = some false := by decide +kernel
theorem isi_NoneType_bool : sbTy "bool" (.inl "NoneType") = some false := by decide +kernel
theorem isi_NoneType_list : sbTy "list" (.inl "NoneType") = some false := by decide +kernel
theorem isi_NoneType_tuple : sbTy "tuple" (.inl "NoneType") = some false := by decide +kernel
theorem isi_NoneType_dict : sbTy "dict" (.inl "NoneType") = some false := by decide +kernel
theorem isi_bool_int : sbTy "int" (.inl "bool") = some true := by decide +kernel
theorem isi_bool_str : sbTy "str" (.inl "bool") = some false := by decide +kernel
theorem isi_bool_bool : sbTy "bool" (.inl "bool") = some true := by decide +kernel
theorem isi_bool_list : sbTy "list" (.inl "bool") = some false := by decide +kernel
theorem isi_bool_tuple : sbTy "tuple" (.inl "bool") = some false := by decide +kernel
theorem isi_bool_dict : sbTy "dict" (.inl "bool") = some false := by decide +kernel
theorem isi_int_int : sbTy "int" (.inl "int") = some true := by decide +kernel
theorem isi_int_str : sbTy "str" (.inl "int") = some false := by decide +kernel
theorem isi_int_bool : sbTy "bool" (.inl "int") = some false := by decide +kernel
theorem isi_int_list : sbTy "list" (.inl "int") = some false := by decide +kernel
theorem isi_int_tuple : sbTy "tuple" (.inl "int") = some false := by decide +kernel
theorem isi_int_dict : sbTy "dict" (.inl "int") = some false := by decide +kernel
theorem isi_str_int : sbTy "int" (.inl "str") = some false := by decide +kernel
theorem isi_str_str : sbTy "str" (.inl "str") = some true := by decide +kernel
theorem isi_str_bool : sbTy "bool" (.inl "str") = some false := by decide +kernel
theorem isi_str_list : sbTy "list" (.inl "str") = some false := by decide +kernel
theorem isi_str_tuple : sbTy "tuple" (.inl "str") = some false := by decide +kernel
theorem isi_str_dict : sbTy "dict" (.inl "str") = some false := by decide +kernel
theorem isi_list_int : sbTy "int" (.inl "list") = some false := by decide +kernel
theorem isi_list_str : sbTy "str" (.inl "list") = some false := by decide +kernel
theorem isi_list_bool : sbTy "bool" (.inl "list") = some false := by decide +kernel
theorem isi_list_list : sbTy "list" (.inl "list") = some true := by decide +kernel
theorem isi_list_tuple : sbTy "tuple" (.inl "list") = some false := by decide +kernel
theorem isi_list_dict : sbTy "dict" (.inl "list") = some false := by decide +kernel
theorem isi_tuple_int : sbTy "int" (.inl "tuple") = some false := by decide +kernel
theorem isi_tuple_str : sbTy "str" (.inl "tuple") = some false := by decide +kernel
theorem isi_tuple_bool : sbTy "bool" (.inl "tuple") = some false := by decide +kernel
theorem isi_tuple_list : sbTy "list" (.inl "tuple") = some false := by decide +kernel
theorem isi_tuple_tuple : sbTy "tuple" (.inl "tuple") = some true := by decide +kernel
theorem isi_tuple_dict : sbTy "dict" (.inl "tuple") = some false := by decide +kernel
theorem isi_dict_int : sbTy "int" (.inl "dict") = some false := by decide +kernel
theorem isi_dict_str : sbTy "str" (.inl "dict") = some false := by decide +kernel
theorem isi_dict_bool : sbTy "bool" (.inl "dict") = some false := by decide +kernel
theorem isi_dict_list : sbTy "list" (.inl "dict") = some false := by decide +kernel
theorem isi_dict_tuple : sbTy "tuple" (.inl "dict") = some false := by decide +kernel
theorem isi_dict_dict : sbTy "dict" (.inl "dict") = some true := by decide +kernel
theorem ev_isi_NoneType_int {s : Stt} {Q : Bool → Stt → Prop} {E : Err → Stt → Prop} (q : Q false s) : EV (isiD (sbTy "int") .non) s Q E := by
  refine ev_ok (a := false) (s' := s) ?_ q
  show (match sbTy "int" (.inl "NoneType") with | some b => R.ok b s | none => .no) = _
  rw [isi_NoneType_int]
theorem ev_isi_NoneType_str {s : Stt} {Q : Bool → Stt → Prop} {E : Err → Stt → Prop} (q : Q false s) : EV (isiD (sbTy "str") .non) s Q E := by
  refine ev_ok (a := false) (s' := s) ?_ q
  show (match sbTy "str" (.inl "NoneType") with | some b => R.ok b s | none => .no) = _
  rw [isi_NoneType_str]
theorem ev_isi_NoneType_bool {s : Stt} {Q : Bool → Stt → Prop} {E : Err → Stt → Prop} (q : Q false s) : EV (isiD (sbTy "bool") .non) s Q E := by
  refine ev_ok (a := false) (s' := s) ?_ q
  show (match sbTy "bool" (.inl "NoneType") with | some b => R.ok b s | none => .no) = _
  rw [isi_NoneType_bool]
theorem ev_isi_NoneType_list {s : Stt} {Q : Bool → Stt → Prop} {E : Err → Stt → Prop} (q : Q false s) : EV (isiD (sbTy "list") .non) s Q E := by
  refine ev_ok (a := false) (s' := s) ?_ q
  show (match sbTy "list" (.inl "NoneType") with | some b => R.ok b s | none => .no) = _
  rw [isi_NoneType_list]
theorem ev_isi_NoneType_tuple {s : Stt} {Q : Bool → Stt → Prop} {E : Err → Stt → Prop} (q : Q false s) : EV (isiD (sbTy "tuple") .non) s Q E := by
  refine ev_ok (a := false) (s' := s) ?_ q
  show (match sbTy "tuple" (.inl "NoneType") with | some b => R.ok b s | none => .no) = _
  rw [isi_NoneType_tuple]
theorem ev_isi_NoneType_dict {s : Stt} {Q : Bool → Stt → Prop} {E : Err → Stt → Prop} (q : Q false s) : EV (isiD (sbTy "dict") .non) s Q E := by
  refine ev_ok (a := false) (s' := s) ?_ q
  show (match sbTy "dict" (.inl "NoneType") with | some b => R.ok b s | none => .no) = _
  rw [isi_NoneType_dict]
theorem ev_isi_bool_int {b : Bool} {s : Stt} {Q : Bool → Stt → Prop} {E : Err → Stt → Prop} (q : Q true s) : EV (isiD (sbTy "int") (.bl b)) s Q E := by
  refine ev_ok (a := true) (s' := s) ?_ q
  show (match sbTy "int" (.inl "bool") with | some b => R.ok b s | none => .no) = _
  rw [isi_bool_int]
theorem ev_isi_bool_str {b : Bool} {s : Stt} {Q : Bool → Stt → Prop} {E : Err → Stt → Prop} (q : Q false s) : EV (isiD (sbTy "str") (.bl b)) s Q E := by
  refine ev_ok (a := false) (s' := s) ?_ q
  show (match sbTy "str" (.inl "bool") with | some b => R.ok b s | none => .no) = _
  rw [isi_bool_str]
theorem ev_isi_bool_bool {b : Bool} {s : Stt} {Q : Bool → Stt → Prop} {E : Err → Stt → Prop} (q : Q true s) : EV (isiD (sbTy "bool") (.bl b)) s Q E := by
  refine ev_ok (a := true) (s' := s) ?_ q
  show (match sbTy "bool" (.inl "bool") with | some b => R.ok b s | none => .no) = _
  rw [isi_bool_bool]
theorem ev_isi_bool_list {b : Bool} {s : Stt} {Q : Bool → Stt → Prop} {E : Err → Stt → Prop} (q : Q false s) : EV (isiD (sbTy "list") (.bl b)) s Q E := by
  refine ev_ok (a := false) (s' := s) ?_ q
  show (match sbTy "list" (.inl "bool") with | some b => R.ok b s | none => .no) = _
  rw [isi_bool_list]
theorem ev_isi_bool_tuple {b : Bool} {s : Stt} {Q : Bool → Stt → Prop} {E : Err → Stt → Prop} (q : Q false s) : EV (isiD (sbTy "tuple") (.bl b)) s Q E := by
  refine ev_ok (a := false) (s' := s) ?_ q
  show (match sbTy "tuple" (.inl "bool") with | some b => R.ok b s | none => .no) = _
  rw [isi_bool_tuple]
theorem ev_isi_bool_dict {b : Bool} {s : Stt} {Q : Bool → Stt → Prop} {E : Err → Stt → Prop} (q : Q false s) : EV (isiD (sbTy "dict") (.bl b)) s Q E := by
  refine ev_ok (a := false) (s' := s) ?_ q
  show (match sbTy "dict" (.inl "bool") with | some b => R.ok b s | none => .no) = _
  rw [isi_bool_dict]
theorem ev_isi_int_int {i : Int} {s : Stt} {Q : Bool → Stt → Prop} {E : Err → Stt → Prop} (q : Q true s) : EV (isiD (sbTy "int") (.int i)) s Q E := by
  refine ev_ok (a := true) (s' := s) ?_ q
  show (match sbTy "int" (.inl "int") with | some b => R.ok b s | none => .no) = _
  rw [isi_int_int]
theorem ev_isi_int_str {i : Int} {s : Stt} {Q : Bool → Stt → Prop} {E : Err → Stt → Prop} (q : Q false s) : EV (isiD (sbTy "str") (.int i)) s Q E := by
  refine ev_ok (a := false) (s' := s) ?_ q
  show (match sbTy "str" (.inl "int") with | some b => R.ok b s | none => .no) = _
  rw [isi_int_str]
theorem ev_isi_int_bool {i : Int} {s : Stt} {Q : Bool → Stt → Prop} {E : Err → Stt → Prop} (q : Q false s) : EV (isiD (sbTy "bool") (.int i)) s Q E := by
  refine ev_ok (a := false) (s' := s) ?_ q
  show (match sbTy "bool" (.inl "int") with | some b => R.ok b s | none => .no) = _
  rw [isi_int_bool]
theorem ev_isi_int_list {i : Int} {s : Stt} {Q : Bool → Stt → Prop} {E : Err → Stt → Prop} (q : Q false s) : EV (isiD (sbTy "list") (.int i)) s Q E := by
  refine ev_ok (a := false) (s' := s) ?_ q
  show (match sbTy "list" (.inl "int") with | some b => R.ok b s | none => .no) = _
  rw [isi_int_list]
theorem ev_isi_int_tuple {i : Int} {s : Stt} {Q : Bool → Stt → Prop} {E : Err → Stt → Prop} (q : Q false s) : EV (isiD (sbTy "tuple") (.int i)) s Q E := by
  refine ev_ok (a := false) (s' := s) ?_ q
  show (match sbTy "tuple" (.inl "int") with | some b => R.ok b s | none => .no) = _
  rw [isi_int_tuple]
theorem ev_isi_int_dict {i : Int} {s : Stt} {Q : Bool → Stt → Prop} {E : Err → Stt → Prop} (q : Q false s) : EV (isiD (sbTy "dict") (.int i)) s Q E := by
  refine ev_ok (a := false) (s' := s) ?_ q
  show (match sbTy "dict" (.inl "int") with | some b => R.ok b s | none => .no) = _
  rw [isi_int_dict]
theorem ev_isi_str_int {z : Str} {s : Stt} {Q : Bool → Stt → Prop} {E : Err → Stt → Prop} (q : Q false s) : EV (isiD (sbTy "int") (.str z)) s Q E := by
  refine ev_ok (a := false) (s' := s) ?_ q
  show (match sbTy "int" (.inl "str") with | some b => R.ok b s | none => .no) = _
  rw [isi_str_int]
theorem ev_isi_str_str {z : Str} {s : Stt} {Q : Bool → Stt → Prop} {E : Err → Stt → Prop} (q : Q true s) : EV (isiD (sbTy "str") (.str z)) s Q E := by
  refine ev_ok (a := true) (s' := s) ?_ q
  show (match sbTy "str" (.inl "str") with | some b => R.ok b s | none => .no) = _
  rw [isi_str_str]
theorem ev_isi_str_bool {z : Str} {s : Stt} {Q : Bool → Stt → Prop} {E : Err → Stt → Prop} (q : Q false s) : EV (isiD (sbTy "bool") (.str z)) s Q E := by
  refine ev_ok (a := false) (s' := s) ?_ q
  show (match sbTy "bool" (.inl "str") with | some b => R.ok b s | none => .no) = _
  rw [isi_str_bool]
theorem ev_isi_str_list {z : Str} {s : Stt} {Q : Bool → Stt → Prop} {E : Err → Stt → Prop} (q : Q false s) : EV (isiD (sbTy "list") (.str z)) s Q E := by
  refine ev_ok (a := false) (s' := s) ?_ q
  show (match sbTy "list" (.inl "str") with | some b => R.ok b s | none => .no) = _
  rw [isi_str_list]
theorem ev_isi_str_tuple {z : Str} {s : Stt} {Q : Bool → Stt → Prop} {E : Err → Stt → Prop} (q : Q false s) : EV (isiD (sbTy "tuple") (.str z)) s Q E := by
  refine ev_ok (a := false) (s' := s) ?_ q
  show (match sbTy "tuple" (.inl "str") with | some b => R.ok b s | none => .no) = _
  rw [isi_str_tuple]
theorem ev_isi_str_dict {z : Str} {s : Stt} {Q : Bool → Stt → Prop} {E : Err → Stt → Prop} (q : Q false s) : EV (isiD (sbTy "dict") (.str z)) s Q E := by
  refine ev_ok (a := false) (s' := s) ?_ q
  show (match sbTy "dict" (.inl "str") with | some b => R.ok b s | none => .no) = _
  rw [isi_str_dict]
theorem ev_isi_list_int {xs : List D} {s : Stt} {Q : Bool → Stt → Prop} {E : Err → Stt → Prop} (q : Q false s) : EV (isiD (sbTy "int") (.lst xs)) s Q E := by
  refine ev_ok (a := false) (s' := s) ?_ q
  show (match sbTy "int" (.inl "list") with | some b => R.ok b s | none => .no) = _
  rw [isi_list_int]
theorem ev_isi_list_str {xs : List D} {s : Stt} {Q : Bool → Stt → Prop} {E : Err → Stt → Prop} (q : Q false s) : EV (isiD (sbTy "str") (.lst xs)) s Q E := by
  refine ev_ok (a := false) (s' := s) ?_ q
  show (match sbTy "str" (.inl "list") with | some b => R.ok b s | none => .no) = _
  rw [isi_list_str]
theorem ev_isi_list_bool {xs : List D} {s : Stt} {Q : Bool → Stt → Prop} {E : Err → Stt → Prop} (q : Q false s) : EV (isiD (sbTy "bool") (.lst xs)) s Q E := by
  refine ev_ok (a := false) (s' := s) ?_ q
  show (match sbTy "bool" (.inl "list") with | some b => R.ok b s | none => .no) = _
  rw [isi_list_bool]
theorem ev_isi_list_list {xs : List D} {s : Stt} {Q : Bool → Stt → Prop} {E : Err → Stt → Prop} (q : Q true s) : EV (isiD (sbTy "list") (.lst xs)) s Q E := by
  refine ev_ok (a := true) (s' := s) ?_ q
  show (match sbTy "list" (.inl "list") with | some b => R.ok b s | none => .no) = _
  rw [isi_list_list]
theorem ev_isi_list_tuple {xs : List D} {s : Stt} {Q : Bool → Stt → Prop} {E : Err → Stt → Prop} (q : Q false s) : EV (isiD (sbTy "tuple") (.lst xs)) s Q E := by
  refine ev_ok (a := false) (s' := s) ?_ q
  show (match sbTy "tuple" (.inl "list") with | some b => R.ok b s | none => .no) = _
  rw [isi_list_tuple]
theorem ev_isi_list_dict {xs : List D} {s : Stt} {Q : Bool → Stt → Prop} {E : Err → Stt → Prop} (q : Q false s) : EV (isiD (sbTy "dict") (.lst xs)) s Q E := by
  refine ev_ok (a := false) (s' := s) ?_ q
  show (match sbTy "dict" (.inl "list") with | some b => R.ok b s | none => .no) = _
  rw [isi_list_dict]
theorem ev_isi_tuple_int {xs : List D} {s : Stt} {Q : Bool → Stt → Prop} {E : Err → Stt → Prop} (q : Q false s) : EV (isiD (sbTy "int") (.tup xs)) s Q E := by
  refine ev_ok (a := false) (s' := s) ?_ q
  show (match sbTy "int" (.inl "tuple") with | some b => R.ok b s | none => .no) = _
  rw [isi_tuple_int]
theorem ev_isi_tuple_str {xs : List D} {s : Stt} {Q : Bool → Stt → Prop} {E : Err → Stt → Prop} (q : Q false s) : EV (isiD (sbTy "str") (.tup xs)) s Q E := by
  refine ev_ok (a := false) (s' := s) ?_ q
  show (match sbTy "str" (.inl "tuple") with | some b => R.ok b s | none => .no) = _
  rw [isi_tuple_str]
theorem ev_isi_tuple_bool {xs : List D} {s : Stt} {Q : Bool → Stt → Prop} {E : Err → Stt → Prop} (q : Q false s) : EV (isiD (sbTy "bool") (.tup xs)) s Q E := by
  refine ev_ok (a := false) (s' := s) ?_ q
  show (match sbTy "bool" (.inl "tuple") with | some b => R.ok b s | none => .no) = _
  rw [isi_tuple_bool]
theorem ev_isi_tuple_list {xs : List D} {s : Stt} {Q : Bool → Stt → Prop} {E : Err → Stt → Prop} (q : Q false s) : EV (isiD (sbTy "list") (.tup xs)) s Q E := by
  refine ev_ok (a := false) (s' := s) ?_ q
  show (match sbTy "list" (.inl "tuple") with | some b => R.ok b s | none => .no) = _
  rw [isi_tuple_list]
theorem ev_isi_tuple_tuple {xs : List D} {s : Stt} {Q : Bool → Stt → Prop} {E : Err → Stt → Prop} (q : Q true s) : EV (isiD (sbTy "tuple") (.tup xs)) s Q E := by
  refine ev_ok (a := true) (s' := s) ?_ q
  show (match sbTy "tuple" (.inl "tuple") with | some b => R.ok b s | none => .no) = _
  rw [isi_tuple_tuple]
theorem ev_isi_tuple_dict {xs : List D} {s : Stt} {Q : Bool → Stt → Prop} {E : Err → Stt → Prop} (q : Q false s) : EV (isiD (sbTy "dict") (.tup xs)) s Q E := by
  refine ev_ok (a := false) (s' := s) ?_ q
  show (match sbTy "dict" (.inl "tuple") with | some b => R.ok b s | none => .no) = _
  rw [isi_tuple_dict]
theorem ev_isi_dict_int {ks : List (Key × D)} {s : Stt} {Q : Bool → Stt → Prop} {E : Err → Stt → Prop} (q : Q false s) : EV (isiD (sbTy "int") (.dic ks)) s Q E := by
  refine ev_ok (a := false) (s' := s) ?_ q
  show (match sbTy "int" (.inl "dict") with | some b => R.ok b s | none => .no) = _
  rw [isi_dict_int]
theorem ev_isi_dict_str {ks : List (Key × D)} {s : Stt} {Q : Bool → Stt → Prop} {E : Err → Stt → Prop} (q : Q false s) : EV (isiD (sbTy "str") (.dic ks)) s Q E := by
  refine ev_ok (a := false) (s' := s) ?_ q
  show (match sbTy "str" (.inl "dict") with | some b => R.ok b s | none => .no) = _
  rw [isi_dict_str]
theorem ev_isi_dict_bool {ks : List (Key × D)} {s : Stt} {Q : Bool → Stt → Prop} {E : Err → Stt → Prop} (q : Q false s) : EV (isiD (sbTy "bool") (.dic ks)) s Q E := by
  refine ev_ok (a := false) (s' := s) ?_ q
  show (match sbTy "bool" (.inl "dict") with | some b => R.ok b s | none => .no) = _
  rw [isi_dict_bool]
theorem ev_isi_dict_list {ks : List (Key × D)} {s : Stt} {Q : Bool → Stt → Prop} {E : Err → Stt → Prop} (q : Q false s) : EV (isiD (sbTy "list") (.dic ks)) s Q E := by
  refine ev_ok (a := false) (s' := s) ?_ q
  show (match sbTy "list" (.inl "dict") with | some b => R.ok b s | none => .no) = _
  rw [isi_dict_list]
theorem ev_isi_dict_tuple {ks : List (Key × D)} {s : Stt} {Q : Bool → Stt → Prop} {E : Err → Stt → Prop} (q : Q false s) : EV (isiD (sbTy "tuple") (.dic ks)) s Q E := by
  refine ev_ok (a := false) (s' := s) ?_ q
  show (match sbTy "tuple" (.inl "dict") with | some b => R.ok b s | none => .no) = _
  rw [isi_dict_tuple]
theorem ev_isi_dict_dict {ks : List (Key × D)} {s : Stt} {Q : Bool → Stt → Prop} {E : Err → Stt → Prop} (q : Q true s) : EV (isiD (sbTy "dict") (.dic ks)) s Q E := by
  refine ev_ok (a := true) (s' := s) ?_ q
  show (match sbTy "dict" (.inl "dict") with | some b => R.ok b s | none => .no) = _
  rw [isi_dict_dict]
local macro_rules | `(tactic| trivial) => `(tactic| first
  | with_reducible refine ev_bind ?_
  | with_reducible refine ev_pure ?_
  | with_reducible refine ev_getR rfl ?_
  | with_reducible refine ev_getV rfl ?_
  | with_reducible refine ev_getO rfl ?_
  | with_reducible refine ev_add ?_
  | with_reducible refine ev_sub ?_
  | with_reducible refine ev_toint ?_
  | with_reducible refine ev_asB ?_
  | with_reducible refine ev_notD ?_
  | with_reducible refine ev_negD ?_
  | with_reducible refine ev_trB ?_
  | with_reducible refine ev_asI ?_
  | with_reducible refine ev_asS ?_
  | with_reducible refine ev_lt ?_
  | with_reducible refine ev_le ?_
  | with_reducible refine ev_gt ?_
  | with_reducible refine ev_ge ?_
  | with_reducible refine ev_eqI ?_
  | with_reducible refine ev_neI ?_
  | with_reducible refine ev_lenL ?_
  | with_reducible refine ev_lenT ?_
  | with_reducible refine ev_seqL ?_
  | with_reducible refine ev_seqT ?_
  | with_reducible refine ev_seqS ?_
  | with_reducible refine ev_zip ?_
  | with_reducible refine ev_enum ?_
  | with_reducible refine ev_slL ?_
  | with_reducible refine ev_listL ?_
  | with_reducible refine ev_listT ?_
  | with_reducible refine w_seq ?_
  | with_reducible refine w_nil ?_
  | with_reducible refine w_set ?_
  | with_reducible refine w_setO ?_
  | with_reducible refine w_ret ?_
  | with_reducible refine w_drop ?_
  | with_reducible refine w_par ?_
  | with_reducible refine w_if ?_
  | with_reducible refine ev_isi_NoneType_int ?_
  | with_reducible refine ev_isi_NoneType_str ?_
  | with_reducible refine ev_isi_NoneType_bool ?_
  | with_reducible refine ev_isi_NoneType_list ?_
  | with_reducible refine ev_isi_NoneType_tuple ?_
  | with_reducible refine ev_isi_NoneType_dict ?_
  | with_reducible refine ev_isi_bool_int ?_
  | with_reducible refine ev_isi_bool_str ?_
  | with_reducible refine ev_isi_bool_bool ?_
  | with_reducible refine ev_isi_bool_list ?_
  | with_reducible refine ev_isi_bool_tuple ?_
  | with_reducible refine ev_isi_bool_dict ?_
  | with_reducible refine ev_isi_int_int ?_
  | with_reducible refine ev_isi_int_str ?_
  | with_reducible refine ev_isi_int_bool ?_
  | with_reducible refine ev_isi_int_list ?_
  | with_reducible refine ev_isi_int_tuple ?_
  | with_reducible refine ev_isi_int_dict ?_
  | with_reducible refine ev_isi_str_int ?_
  | with_reducible refine ev_isi_str_str ?_
  | with_reducible refine ev_isi_str_bool ?_
  | with_reducible refine ev_isi_str_list ?_
  | with_reducible refine ev_isi_str_tuple ?_
  | with_reducible refine ev_isi_str_dict ?_
  | with_reducible refine ev_isi_list_int ?_
  | with_reducible refine ev_isi_list_str ?_
  | with_reducible refine ev_isi_list_bool ?_
  | with_reducible refine ev_isi_list_list ?_
  | with_reducible refine ev_isi_list_tuple ?_
  | with_reducible refine ev_isi_list_dict ?_
  | with_reducible refine ev_isi_tuple_int ?_
  | with_reducible refine ev_isi_tuple_str ?_
  | with_reducible refine ev_isi_tuple_bool ?_
  | with_reducible refine ev_isi_tuple_list ?_
  | with_reducible refine ev_isi_tuple_tuple ?_
  | with_reducible refine ev_isi_tuple_dict ?_
  | with_reducible refine ev_isi_dict_int ?_
  | with_reducible refine ev_isi_dict_str ?_
  | with_reducible refine ev_isi_dict_bool ?_
  | with_reducible refine ev_isi_dict_list ?_
  | with_reducible refine ev_isi_dict_tuple ?_
  | with_reducible refine ev_isi_dict_dict ?_)

theorem ev_isiAny1 {sb : Sub1} {sbs : List Sub1} {x : D} {s : Stt} {Q : Bool → Stt → Prop} {E : Err → Stt → Prop} (q : EV (isiD sb x) s (fun b s' => (b = true → Q true s') ∧ (b = false → EV (isiAny sbs x) s' Q E)) E) : EV (isiAny (sb :: sbs) x) s Q E := by
  refine ev_bind (ev_imp q (fun b s' h => ?_) fun _ _ z => z)
  cases b with
  | true => exact h.1 rfl
  | false => exact h.2 rfl
theorem ev_isiAny0 {x : D} {s : Stt} {Q : Bool → Stt → Prop} {E : Err → Stt → Prop} (q : Q false s) : EV (isiAny [] x) s Q E := q
theorem cut_map (ns : List Int) (lo hi : Option Int) : cutD (ns.map D.int) lo hi = (((ns.drop (HT.sIx ns.length 0 lo)).take (HT.sIx ns.length ns.length hi - HT.sIx ns.length 0 lo))).map D.int := by
  unfold cutD
  rw [List.length_map, ← List.map_drop, ← List.map_take]
theorem ev_bag {ns : List Int} {s : Stt} {Q : D → Stt → Prop} {E : Err → Stt → Prop} (q : ∀ B : Bag, B.Ok 0 → Q B.d s) : EV (CM.m_law_bag [.lst (ns.map D.int)]) s Q E := by
  refine w_runO (ρ := [.val (.lst (ns.map D.int)), .no, .no]) rfl ?_
  unfold CM.b_law_bag
  refine w_seq (w_set (ev_pure (w_seq (w_forI ?_))))
  refine ev_bind (ev_bind (ev_getR rfl (ev_bind (ev_pure (ev_bind (ev_bind (ev_pure (ev_asI ?_))))))))
  refine ev_slL (ev_seqL ⟨fun _ ρ s' => s' = s ∧ ∃ (m : Int) (x : Slot), ρ = [.val (.lst (ns.map D.int)), .val (.int m), x] ∧ 0 ≤ m ∧ m < 2147483648, ⟨rfl, 12011, .no, rfl, by decide, by decide⟩, ?_, ?_⟩)
  · rintro i d ρ s' hd ⟨rfl, m, x, rfl, hm, hm2⟩
    refine ⟨_, rfl, ?_⟩
    rw [cut_map, List.getElem?_map] at hd
    obtain ⟨k, _, rfl⟩ := Option.map_eq_some_iff.mp hd
    repeat (first | trivial | with_reducible refine ev_muls (by omega) (by omega) ?_ | with_reducible refine ev_mod (by decide) ?_)
    exact ⟨rfl, _, _, rfl, Int.emod_nonneg _ (by decide), Int.lt_trans (Int.emod_lt_of_pos _ (by decide)) (by decide)⟩
  · rintro ρ s' ⟨rfl, m, x, rfl, hm, hm2⟩
    refine w_ret ?_
    repeat trivial
    refine ev_lstD (by show 5 ≤ 1000000; omega) ?_
    rw [cut_map]
    exact q ⟨_, 0, 0, m, 0⟩ ⟨Int.le_refl 0, hm, hm2, Nat.le_refl _⟩
theorem ev_ofL {rest : Stt} {B : Bag} {c : Nat} {xs : List D} {Q : D → Stt → Prop} {E : Err → Stt → Prop} (hB : B.Ok c) (hc : c < 2 ^ 60) (h0 : 0 < xs.length) (h1 : xs.length < 2 ^ 60)
    (q : ∀ (k : Nat) (hk : k < xs.length) (B' : Bag), B'.Ok (c + 1) → Q xs[k] (B'.d :: rest)) : EV (CM.m_law_of [.obj 0, .lst xs]) (B.d :: rest) Q E := by
  refine w_run (ρ := [.val (.obj 0), .val (.lst xs)]) rfl ?_
  unfold CM.b_law_of
  refine w_ret ?_
  repeat trivial
  refine ev_call ⟨rfl, rfl, rfl⟩ rfl (ev_draw hB hc (by omega) (by omega) fun r B' hr1 hr2 hB' => ?_)
  obtain ⟨k, rfl⟩ : ∃ k : Nat, r = (k : Int) := ⟨r.toNat, by omega⟩
  have hk : k < xs.length := by omega
  exact ev_ixL (by rw [atI0]; exact List.getElem?_eq_getElem hk) (q k hk B' hB')
theorem ev_ixS {z : Str} {k : Nat} {s : Stt} {Q : D → Stt → Prop} {E : Err → Stt → Prop} (hz : z.length ≤ SIZE) (hk : k < z.cps.toList.length) (q : Q (.str ⟨#[z.cps.toList[k]]⟩) s) : EV (ixD (.str z) (.int (k : Int))) s Q E := by
  refine ev_ok (a := .str ⟨#[z.cps.toList[k]]⟩) (s' := s) ?_ q
  unfold ixD
  simp only [if_pos hz, atI0, List.getElem?_eq_getElem hk]
  rfl
theorem ev_ofS {rest : Stt} {B : Bag} {c : Nat} {z : Str} {Q : D → Stt → Prop} {E : Err → Stt → Prop} (hB : B.Ok c) (hc : c < 2 ^ 60) (h0 : 0 < z.length) (h1 : z.length ≤ SIZE)
    (q : ∀ (k : Nat) (hk : k < z.cps.toList.length) (B' : Bag), B'.Ok (c + 1) → Q (.str ⟨#[z.cps.toList[k]]⟩) (B'.d :: rest)) : EV (CM.m_law_of [.obj 0, .str z]) (B.d :: rest) Q E := by
  have hl : z.cps.toList.length = z.length := by simp [Str.length]
  refine w_run (ρ := [.val (.obj 0), .val (.str z)]) rfl ?_
  unfold CM.b_law_of
  refine w_ret ?_
  repeat (first | trivial | with_reducible refine ev_lenS h1 ?_)
  refine ev_call ⟨rfl, rfl, rfl⟩ rfl (ev_draw hB hc (by omega) (by unfold SIZE at h1; omega) fun r B' hr1 hr2 hB' => ?_)
  obtain ⟨k, rfl⟩ : ∃ k : Nat, r = (k : Int) := ⟨r.toNat, by omega⟩
  have hk : k < z.cps.toList.length := by omega
  exact ev_ixS h1 hk (q k hk B' hB')
theorem bools_true : ∀ (xs : List D), (∀ x ∈ xs, x = .bl true) → boolsD xs = some (List.replicate xs.length true)
  | [], _ => rfl
  | x :: xs, h => by
    have e := h x (List.mem_cons_self ..)
    subst e
    have ih := bools_true xs fun y hy => h y (List.mem_cons_of_mem _ hy)
    show (boolsD xs).map (true :: ·) = _
    rw [ih]; rfl
theorem ev_allT {xs : List D} {s : Stt} {Q : D → Stt → Prop} {E : Err → Stt → Prop} (h : ∀ x ∈ xs, x = .bl true) (q : Q (.bl true) s) : EV (allD (.lst xs)) s Q E := by
  refine ev_atM ?_ q
  rw [bools_true xs h]
  simp
/-- data of at most n depth -/
def D.dat : Nat → D → Bool
  | _, .non => true
  | _, .bl _ => true
  | _, .int _ => true
  | _, .str _ => true
  | n + 1, .lst xs => decide (xs.length < SIZE) && xs.all (D.dat n)
  | _, _ => false
theorem ne_bl {a b : Bool} {s : Stt} : neD (.bl a) (.bl b) s = .ok (.bl !(decide (a = b))) s := by
  show (eqB (.bl a) (.bl b) >>= fun b => (pure (.bl !b) : M D)) s = _
  have e : eqB (.bl a) (.bl b) = pure (PyData.eqv (.bool a) (.bool b)) := rfl
  rw [e]
  cases a <;> cases b <;> rfl
theorem eq_bl {a b : Bool} {s : Stt} : eqD (.bl a) (.bl b) s = .ok (.bl (decide (a = b))) s := by
  show (eqB (.bl a) (.bl b) >>= fun b => (pure (.bl b) : M D)) s = _
  have e : eqB (.bl a) (.bl b) = pure (PyData.eqv (.bool a) (.bool b)) := rfl
  rw [e]
  cases a <;> cases b <;> rfl
section
variable {a b : Bool} {s : Stt} {Q : D → Stt → Prop} {E : Err → Stt → Prop}
theorem ev_neB (q : Q (.bl !(decide (a = b))) s) : EV (neD (.bl a) (.bl b)) s Q E := ev_ok ne_bl q
theorem ev_eqB (q : Q (.bl (decide (a = b))) s) : EV (eqD (.bl a) (.bl b)) s Q E := ev_ok eq_bl q
end
local macro_rules | `(tactic| trivial) => `(tactic| first
  | with_reducible refine ev_neB ?_
  | with_reducible refine ev_eqB ?_)
theorem same_seq {n : Nat} {x : D} {xs : List D} {s : Stt} {Q : D → Stt → Prop} {E : Err → Stt → Prop} (hx : x = .lst xs ∨ x = .tup xs) (hz : xs.length < SIZE) (ih : ∀ y ∈ xs, ∀ (s : Stt) (Q : D → Stt → Prop) (E : Err → Stt → Prop), Q (.bl true) s → EV (CM.m_law_same n [y, y]) s Q E) (q : Q (.bl true) s) :
    EV (lcD (e2 zipM (getV 0) (getV 1)) (gTp 2 (gsCons (gNm 2) (gsCons (gNm 3) gsNil))) tYesM (eCal 2 0 2 (fmt [0, 1]) (CM.m_law_same n) (eCons (getV 2) (eCons (getV 3) eNil)) eNil) [2, 3] [.val (.lst xs), .val (.lst xs), .no, .no]) s (fun d s' => d = .lst (List.replicate xs.length (.bl true)) ∧ s' = s) E := by
  have hl : (zipD xs xs).length = xs.length := by simp [zipD]
  refine ev_lc ?_
  repeat trivial
  refine ⟨by rw [hl]; exact hz, fun i acc s' => s' = s ∧ acc = List.replicate i (.bl true), ⟨rfl, rfl⟩, ?_, ?_⟩
  · rintro i d acc s' hd ⟨rfl, rfl⟩
    have hi : i < xs.length := by rw [← hl]; exact (List.getElem?_eq_some_iff.mp hd).1
    have e3 : (zipD xs xs)[i]? = some (.tup [xs[i], xs[i]]) := by
      unfold zipD
      rw [List.getElem?_map, show (xs.zip xs)[i]? = some (xs[i], xs[i]) from List.getElem?_zip_eq_some.mpr ⟨List.getElem?_eq_getElem hi, List.getElem?_eq_getElem hi⟩]
      rfl
    rw [e3] at hd; cases hd
    refine ⟨_, rfl, ev_pure ⟨fun _ => ?_, fun z => Bool.noConfusion z⟩⟩
    repeat trivial
    refine ev_call ⟨rfl, rfl, rfl⟩ rfl (ih _ (List.getElem_mem hi) _ _ _ ⟨rfl, ?_⟩)
    rw [List.replicate_succ']
  · rintro acc s' ⟨rfl, rfl⟩
    exact ⟨by rw [hl], rfl⟩
theorem br_T {p q : Prop} (h : p) : (true = true → p) ∧ (true = false → q) := ⟨fun _ => h, fun z => Bool.noConfusion z⟩
theorem br_F {p q : Prop} (h : q) : (false = true → p) ∧ (false = false → q) := ⟨fun z => Bool.noConfusion z, fun _ => h⟩
local macro_rules | `(tactic| trivial) => `(tactic| first
  | with_reducible refine ev_isiAny1 ?_
  | with_reducible refine ev_isiAny0 ?_
  | refine br_T ?_
  | refine br_F ?_
  | refine ev_ifT rfl ?_
  | refine ev_ifF rfl ?_)
theorem same_refl : ∀ (n : Nat) (x : D) (s : Stt) (Q : D → Stt → Prop) (E : Err → Stt → Prop), x.dat n = true → Q (.bl true) s → EV (CM.m_law_same (n + 1) [x, x]) s Q E
  | n, x, s, Q, E, hx, q => by
    refine w_run (ρ := [.val x, .val x, .no, .no]) rfl ?_
    unfold CM.b_law_same
    cases x with
    | non => repeat trivial
    | bl b =>
      repeat trivial
      simpa using q
    | int b =>
      repeat trivial
      simpa using q
    | str b =>
      repeat trivial
      refine ev_eqS ?_
      simpa using q
    | lst xs =>
      cases n with
      | zero => cases hx
      | succ n =>
        have hx : (decide (xs.length < SIZE) && xs.all (D.dat n)) = true := hx
        rw [Bool.and_eq_true] at hx
        have hz := of_decide_eq_true hx.1
        repeat trivial
        have e : decide ((xs.length : Int) = (xs.length : Int)) = true := decide_eq_true rfl
        rw [e]
        repeat trivial
        refine ev_imp (same_seq (.inl rfl) hz (fun y hy s Q E q => same_refl n y s Q E (List.all_eq_true.mp hx.2 y hy) q) q) ?_ (fun _ _ z => z)
        rintro d s' ⟨rfl, rfl⟩
        exact ev_allT (fun x hx => List.eq_of_mem_replicate hx) q
    | _ => cases n <;> cases hx
theorem w_id {m : SM} {ρ : Env} {s : Stt} {N B C : Env → Stt → Prop} {R : D → Stt → Prop} {E : Err → Stt → Prop} (h : WP m ρ s N R B C E) : WP m ρ s N R B C E := h
theorem ev_id {α : Type} {x : M α} {s : Stt} {Q : α → Stt → Prop} {E : Err → Stt → Prop} (h : EV x s Q E) : EV x s Q E := h
theorem ev_isi_id {sb : Sub1} {x : D} {s : Stt} {Q : Bool → Stt → Prop} {E : Err → Stt → Prop} (h : EV (isiD sb x) s Q E) : EV (isiD sb x) s Q E := h
theorem ev_inS {c : Nat} {z : Str} {s : Stt} {Q : D → Stt → Prop} {E : Err → Stt → Prop} (q : Q (.bl (decide (c ∈ z.cps.toList))) s) : EV (inD (.str ⟨#[c]⟩) (.str z)) s Q E := q
theorem ev_addS {a b : Str} {s : Stt} {Q : D → Stt → Prop} {E : Err → Stt → Prop} (h : a.length + b.length ≤ SIZE) (q : Q (.str (a ++ b)) s) : EV (addD (.str a) (.str b)) s Q E := by
  show EV (if a.length + b.length ≤ SIZE then pure (.str (a ++ b)) else no : M D) s Q E
  rw [if_pos h]; exact q
theorem ev_lst_id {xs : List D} {s : Stt} {Q : D → Stt → Prop} {E : Err → Stt → Prop} (h : EV (lstD xs) s Q E) : EV (lstD xs) s Q E := h
theorem ev_tup_id {xs : List D} {s : Stt} {Q : D → Stt → Prop} {E : Err → Stt → Prop} (h : EV (tupD xs) s Q E) : EV (tupD xs) s Q E := h
theorem ev_if_id {α : Type} {b : Bool} {x y : M α} {s : Stt} {Q : α → Stt → Prop} {E : Err → Stt → Prop} (h : EV (if b = true then x else y) s Q E) : EV (if b = true then x else y) s Q E := h
end PV
end

section
/-! stepping by rewriting at the head -/
namespace PV
open PySem PySem.Spec L2
open PyProof.Rows hiding St
structure U3 (p q : Prop) : Type where
def Br (k : Bool) (p q : Prop) (_u : U3 p q := ⟨⟩) : Prop := (k = true → p) ∧ (k = false → q)
section
variable {α β γ : Type} {s s' : Stt} {E : Err → Stt → Prop} {N B C : Env → Stt → Prop} {R : D → Stt → Prop} {ρ ρ' : Env}
theorem br_intro {k : Bool} {p q : Prop} (h : k = true → p) (h' : k = false → q) : Br k p q := ⟨h, h'⟩
theorem s_brT {p q : Prop} : Br true p q ↔ p := ⟨fun h => h.1 rfl, fun h => ⟨fun _ => h, fun z => Bool.noConfusion z⟩⟩
theorem s_brF {p q : Prop} : Br false p q ↔ q := ⟨fun h => h.2 rfl, fun h => ⟨fun z => Bool.noConfusion z, fun _ => h⟩⟩
theorem s_pure {a : α} {Q : α → Stt → Prop} : EV (pure a : M α) s Q E ↔ Q a s := Iff.rfl
theorem s_Mpure {a : α} {Q : α → Stt → Prop} : EV (M.pure a : M α) s Q E ↔ Q a s := Iff.rfl
theorem s_bind {x : M α} {f : α → M β} {Q : β → Stt → Prop} : EV (x >>= f) s Q E ↔ EV x s (fun a s' => EV (f a) s' Q E) E := by
  unfold EV
  rw [bind_def]
  cases x s <;> rfl
theorem s_if {b : Bool} {x y : M α} {Q : α → Stt → Prop} : EV (if b = true then x else y) s Q E ↔ Br b (EV x s Q E) (EV y s Q E) := by
  cases b with
  | true => rw [if_pos rfl, s_brT]
  | false => rw [if_neg (by decide), s_brF]
theorem s_no {Q : α → Stt → Prop} : EV (no : M α) s Q E ↔ False := Iff.rfl
theorem s_ite {p : Prop} [Decidable p] (h : p) {x y : M α} {Q : α → Stt → Prop} : EV (if p then x else y) s Q E ↔ EV x s Q E := by rw [if_pos h]
theorem s_raise {e : Err} {Q : α → Stt → Prop} : EV (raise e : M α) s Q E ↔ E e s := Iff.rfl
/-! names -/
theorem s_getV0 {d : D} {Q : D → Stt → Prop} : EV (getV 0 (.val d :: ρ)) s Q E ↔ Q d s := Iff.rfl
theorem s_getR0 {d : D} {Q : D → Stt → Prop} : EV (getR 0 (.val d :: ρ)) s Q E ↔ Q d s := Iff.rfl
theorem s_getO0 {d : D} {Q : D → Stt → Prop} : EV (getR 0 (.own d :: ρ)) s Q E ↔ Q d s := Iff.rfl
theorem s_getV {n : Nat} {x : Slot} {Q : D → Stt → Prop} : EV (getV (n + 1) (x :: ρ)) s Q E ↔ EV (getV n ρ) s Q E := Iff.rfl
theorem s_getR {n : Nat} {x : Slot} {Q : D → Stt → Prop} : EV (getR (n + 1) (x :: ρ)) s Q E ↔ EV (getR n ρ) s Q E := Iff.rfl
/-! statements -/
theorem s_seq {a b : SM} : WP (sSeq a b) ρ s N R B C E ↔ WP a ρ s (fun ρ' s' => WP b ρ' s' N R B C E) R B C E := by
  unfold WP sSeq
  cases a ρ s <;> rfl
theorem s_nil : WP sNil ρ s N R B C E ↔ N ρ s := Iff.rfl
theorem s_sB {x : M α} {k : α → Stt → SR} {m : SM} (hm : m ρ s = sB x ρ k s) : WP m ρ s N R B C E ↔ EV x s (fun a s' => WP (fun _ => k a) ρ s' N R B C E) E := by
  unfold WP EV
  rw [hm]
  unfold sB
  cases x s <;> rfl
theorem s_set {i : Nat} {f : Env → M D} : WP (sSet i f) ρ s N R B C E ↔ EV (f ρ) s (fun d s' => N (ρ.set i (.val d)) s') E := by rw [s_sB (m := sSet i f) rfl]; rfl
theorem s_setO {i : Nat} {f : Env → M D} : WP (sSetO i f) ρ s N R B C E ↔ EV (f ρ) s (fun d s' => N (ρ.set i (.own d)) s') E := by rw [s_sB (m := sSetO i f) rfl]; rfl
theorem s_ret {f : Env → M D} : WP (sRet f) ρ s N R B C E ↔ EV (f ρ) s R E := by rw [s_sB (m := sRet f) rfl]; rfl
theorem s_drop {f : Env → M α} : WP (sDrop f) ρ s N R B C E ↔ EV (f ρ) s (fun _ s' => N ρ s') E := by rw [s_sB (m := sDrop f) rfl]; rfl
theorem s_sif {t : Env → M Bool} {a b : SM} : WP (sIf t a b) ρ s N R B C E ↔ EV (t ρ) s (fun k s' => Br k (WP a ρ s' N R B C E) (WP b ρ s' N R B C E)) E := by
  rw [s_sB (m := sIf t a b) rfl]
  have : (fun k s' => WP (fun _ => (fun k s' => if k = true then a ρ s' else b ρ s') k) ρ s' N R B C E) = fun k s' => Br k (WP a ρ s' N R B C E) (WP b ρ s' N R B C E) := by
    funext k s'
    cases k with
    | true => exact propext s_brT.symm
    | false => exact propext s_brF.symm
  rw [← this]
theorem s_frz0 {i : Nat} {d : D} (h : ρ[i]? = some (.own d)) : WP (sFrz i) ρ s N R B C E ↔ N (ρ.set i (.val d)) s := by unfold WP sFrz; rw [h]
theorem s_frzV {i : Nat} {d : D} (h : ρ[i]? = some (.val d)) : WP (sFrz i) ρ s N R B C E ↔ N ρ s := by unfold WP sFrz; rw [h]
theorem s_sto {i : Nat} {d : D} (h : ρ[i]? = some (.own d)) : WP (sSto i) ρ s N R B C E ↔ N (ρ.set i (.val (.obj s.length))) (s ++ [d]) := by unfold WP sSto; rw [h]
theorem s_par {i j : Nat} {w1 w2 : Bool} {f g : Env → M D} : WP (sPar i j w1 w2 f g) ρ s N R B C E ↔ EV (f ρ) s (fun d s1 => EV (g ρ) s1 (fun d' s2 => N ((ρ.set i (slotOf w1 d)).set j (slotOf w2 d')) s2) E) E := by
  rw [s_sB (m := sPar i j w1 w2 f g) rfl]
  exact iff_of_eq (congrArg (fun q => EV (f ρ) s q E) (funext fun d => funext fun s1 => propext (by rw [s_sB (m := fun _ s1 => sB (g ρ) ρ (fun d' s2 => SR.nx ((List.set ρ i (slotOf w1 d)).set j (slotOf w2 d')) s2) s1) rfl]; rfl)))
theorem s_slotT {d : D} : slotOf true d = .own d := rfl
theorem s_slotF {d : D} : slotOf false d = .val d := rfl
/-! operations -/
variable {i j : Int} {Q : D → Stt → Prop} {T : Bool → Stt → Prop}
theorem s_add : EV (addD (.int i) (.int j)) s Q E ↔ Q (.int (i + j)) s := Iff.rfl
theorem s_sub : EV (subD (.int i) (.int j)) s Q E ↔ Q (.int (i - j)) s := Iff.rfl
theorem s_lt : EV (ltD (.int i) (.int j)) s Q E ↔ Q (.bl (decide (i < j))) s := Iff.rfl
theorem s_le : EV (leD (.int i) (.int j)) s Q E ↔ Q (.bl (decide (i ≤ j))) s := Iff.rfl
theorem s_gt : EV (gtD (.int i) (.int j)) s Q E ↔ Q (.bl (decide (j < i))) s := Iff.rfl
theorem s_ge : EV (geD (.int i) (.int j)) s Q E ↔ Q (.bl (decide (j ≤ i))) s := Iff.rfl
theorem s_toint : EV (intD (.int i)) s Q E ↔ Q (.int i) s := Iff.rfl
theorem s_tointB {b : Bool} : EV (intD (.bl b)) s Q E ↔ Q (.int (if b then 1 else 0)) s := Iff.rfl
theorem s_asB {b : Bool} : EV (asB (.bl b)) s T E ↔ T b s := Iff.rfl
theorem s_notD {b : Bool} : EV (notD (.bl b)) s Q E ↔ Q (.bl !b) s := Iff.rfl
theorem s_negD : EV (negD (.int i)) s Q E ↔ Q (.int (-i)) s := Iff.rfl
theorem s_absD : EV (absD (.int i)) s Q E ↔ Q (.int (if i < 0 then -i else i)) s := Iff.rfl
theorem s_trB {b : Bool} : EV (truD (.bl b)) s T E ↔ T b s := Iff.rfl
theorem s_trI : EV (truD (.int i)) s T E ↔ T (i != 0) s := Iff.rfl
theorem s_trL {xs : List D} : EV (truD (.lst xs)) s T E ↔ T (!xs.isEmpty) s := Iff.rfl
theorem s_trTu {xs : List D} : EV (truD (.tup xs)) s T E ↔ T (!xs.isEmpty) s := Iff.rfl
theorem s_trN : EV (truD .non) s T E ↔ T false s := Iff.rfl
theorem s_asI {Q : Option Int → Stt → Prop} : EV (asI (.int i)) s Q E ↔ Q (some i) s := Iff.rfl
theorem s_asS {z : Str} {Q : Str → Stt → Prop} : EV (asS (.str z)) s Q E ↔ Q z s := Iff.rfl
theorem s_okeq {x : M α} {a : α} {Q : α → Stt → Prop} (h : x s = .ok a s') : EV x s Q E ↔ Q a s' := by unfold EV; rw [h]
theorem s_eqI : EV (eqD (.int i) (.int j)) s Q E ↔ Q (.bl (decide (i = j))) s := s_okeq eq_int
theorem s_neI : EV (neD (.int i) (.int j)) s Q E ↔ Q (.bl !(decide (i = j))) s := s_okeq ne_int
theorem s_eqB {a b : Bool} : EV (eqD (.bl a) (.bl b)) s Q E ↔ Q (.bl (decide (a = b))) s := s_okeq eq_bl
theorem s_neB {a b : Bool} : EV (neD (.bl a) (.bl b)) s Q E ↔ Q (.bl !(decide (a = b))) s := s_okeq ne_bl
theorem s_eqS {a b : Str} : EV (eqD (.str a) (.str b)) s Q E ↔ Q (.bl (decide (a = b))) s := Iff.rfl
theorem s_neS {a b : Str} : EV (neD (.str a) (.str b)) s Q E ↔ Q (.bl !(decide (a = b))) s := Iff.rfl
theorem s_ltS {a b : Str} : EV (ltD (.str a) (.str b)) s Q E ↔ Q (.bl (decide (a.cps.toList < b.cps.toList))) s := Iff.rfl
theorem s_leS {a b : Str} : EV (leD (.str a) (.str b)) s Q E ↔ Q (.bl (!decide (b.cps.toList < a.cps.toList))) s := Iff.rfl
theorem s_lenL {xs : List D} : EV (lenD (.lst xs)) s Q E ↔ Q (.int xs.length) s := Iff.rfl
theorem s_lenT {xs : List D} : EV (lenD (.tup xs)) s Q E ↔ Q (.int xs.length) s := Iff.rfl
theorem s_lenD {ks : List (Key × D)} : EV (lenD (.dic ks)) s Q E ↔ Q (.int ks.length) s := Iff.rfl
theorem s_lenS {z : Str} (h : z.length ≤ 1000000) : EV (lenD (.str z)) s Q E ↔ Q (.int z.length) s := by
  show EV (if z.length ≤ SIZE then pure (.int z.length) else no : M D) s Q E ↔ _
  rw [if_pos h]; rfl
theorem s_addS {a b : Str} (h : a.length + b.length ≤ 1000000) : EV (addD (.str a) (.str b)) s Q E ↔ Q (.str (a ++ b)) s := by
  show EV (if a.length + b.length ≤ SIZE then pure (.str (a ++ b)) else no : M D) s Q E ↔ _
  rw [if_pos h]; rfl
theorem s_addL {a b : List D} (h : a.length + b.length ≤ 1000000) : EV (addD (.lst a) (.lst b)) s Q E ↔ Q (.lst (a ++ b)) s := by
  show EV (if a.length + b.length ≤ SIZE then pure (.lst (a ++ b)) else no : M D) s Q E ↔ _
  rw [if_pos h]; rfl
theorem s_catL {a b : List D} (h : a.length + b.length ≤ 1000000) : EV (catD (.lst a) (.lst b)) s Q E ↔ Q (.lst (a ++ b)) s := by
  show EV (if a.length + b.length ≤ SIZE then pure (.lst (a ++ b)) else no : M D) s Q E ↔ _
  rw [if_pos h]; rfl
theorem s_mul (h : i.natAbs.log2 + j.natAbs.log2 < 1000000) : EV (mulD (.int i) (.int j)) s Q E ↔ Q (.int (i * j)) s := by
  show EV (if i.natAbs.log2 + j.natAbs.log2 < 1000000 then pure (.int (i * j)) else no : M D) s Q E ↔ _
  rw [if_pos h]; rfl
theorem s_mod (hj : 0 < j) : EV (modD (.int i) (.int j)) s Q E ↔ Q (.int (i % j)) s := s_okeq (mod_ok hj)
theorem s_fdiv (hj : 0 < j) (hj2 : j ≤ 1000000000000000000000000000000000000000000000000000000000000) : EV (fdivD (.int i) (.int j)) s Q E ↔ Q (.int (i / j)) s := s_okeq (fdiv_ok hj hj2)
theorem s_pow (h0 : 0 ≤ j) (h1 : j ≤ 1000000) (h2 : i.natAbs < 2 ^ 64) : EV (powD (.int i) (.int j)) s Q E ↔ Q (.int (i ^ j.toNat)) s := by
  show EV (if 0 ≤ j ∧ j ≤ 1000000 ∧ i.natAbs < 2 ^ 64 then pure (.int (i ^ j.toNat)) else no : M D) s Q E ↔ _
  rw [if_pos ⟨h0, h1, h2⟩]; rfl
theorem s_lst {xs : List D} (h : xs.length ≤ 1000000) : EV (lstD xs) s Q E ↔ Q (.lst xs) s := by unfold lstD; rw [if_pos h]; rfl
theorem s_tup {xs : List D} (h : xs.length ≤ 1000000) : EV (tupD xs) s Q E ↔ Q (.tup xs) s := by unfold tupD; rw [if_pos h]; rfl
theorem s_lst0 : EV (lstD []) s Q E ↔ Q (.lst []) s := Iff.rfl
theorem s_listL {xs : List D} : EV (listD (.lst xs)) s Q E ↔ Q (.lst xs) s := Iff.rfl
theorem s_listT {xs : List D} : EV (listD (.tup xs)) s Q E ↔ Q (.lst xs) s := Iff.rfl
theorem s_slL {xs : List D} {lo hi : Option Int} : EV (slD (.lst xs) lo hi) s Q E ↔ Q (.lst (cutD xs lo hi)) s := Iff.rfl
theorem s_slLL {xs : List D} {lo hi : Option Int} : EV (slL (.lst xs) lo hi) s Q E ↔ Q (.lst (cutD xs lo hi)) s := Iff.rfl
theorem s_slS {z : Str} {lo hi : Option Int} (h : z.length ≤ 1000000) : EV (slD (.str z) lo hi) s Q E ↔ Q (.str (cutS z lo hi)) s := by
  show EV (if z.length ≤ SIZE then pure (.str (cutS z lo hi)) else no : M D) s Q E ↔ _
  rw [if_pos h]; rfl
theorem s_seqL {xs : List D} {Q : List D → Stt → Prop} : EV (seqM (.lst xs)) s Q E ↔ Q xs s := Iff.rfl
theorem s_seqT {xs : List D} {Q : List D → Stt → Prop} : EV (seqM (.tup xs)) s Q E ↔ Q xs s := Iff.rfl
theorem s_seqS {z : Str} {Q : List D → Stt → Prop} : EV (seqM (.str z)) s Q E ↔ Q (chrD z) s := Iff.rfl
theorem s_rng1 {Q : List D → Stt → Prop} (h0 : -4611686018427387904 ≤ i) (h1 : i < 4611686018427387904) : EV (rng1 (.int i)) s Q E ↔ Q (rangeD 0 i.toNat) s := by
  show EV (if -NUM ≤ i ∧ i < NUM then pure (rangeD 0 i.toNat) else no : M (List D)) s Q E ↔ _
  rw [if_pos ⟨h0, h1⟩]; rfl
theorem s_zip {xs ys : List D} {Q : List D → Stt → Prop} : EV (zipM (.lst xs) (.lst ys)) s Q E ↔ Q (zipD xs ys) s := Iff.rfl
theorem s_enum {xs : List D} {Q : List D → Stt → Prop} : EV (enumM (.lst xs)) s Q E ↔ Q (enumD xs) s := Iff.rfl
theorem s_atM {a : α} {Q : α → Stt → Prop} : EV (atM (some a)) s Q E ↔ Q a s := Iff.rfl
theorem s_ixL {xs : List D} {k : Nat} (h : k < xs.length) : EV (ixD (.lst xs) (.int (k : Int))) s Q E ↔ Q xs[k] s := by
  show EV (atM (atI xs k)) s Q E ↔ _
  rw [atI0, List.getElem?_eq_getElem h]; rfl
theorem s_ixT {xs : List D} {k : Nat} (h : k < xs.length) : EV (ixD (.tup xs) (.int (k : Int))) s Q E ↔ Q xs[k] s := by
  show EV (atM (atI xs k)) s Q E ↔ _
  rw [atI0, List.getElem?_eq_getElem h]; rfl
theorem s_inS {c : Nat} {z : Str} : EV (inD (.str ⟨#[c]⟩) (.str z)) s Q E ↔ Q (.bl (decide (c ∈ z.cps.toList))) s := Iff.rfl
/-! calls -/
theorem s_callM {n nk np : Nat} {gD : List D → List D → List D} {m : List D → M D} {ds dk as : List D} (h : ds.length = n ∧ dk.length = nk ∧ (gD ds dk).length = np) (ha : gD ds dk = as) : EV (callM n nk np gD m ds dk) s Q E ↔ EV (m as) s Q E := by
  unfold callM; rw [if_pos h, ha]
variable {a b c d e f : D} {m : List D → M D}
theorem s_c1 : EV (callM 1 0 1 (fmt [0]) m [a] []) s Q E ↔ EV (m [a]) s Q E := s_callM ⟨rfl, rfl, rfl⟩ rfl
theorem s_c2 : EV (callM 2 0 2 (fmt [0, 1]) m [a, b] []) s Q E ↔ EV (m [a, b]) s Q E := s_callM ⟨rfl, rfl, rfl⟩ rfl
theorem s_c3 : EV (callM 3 0 3 (fmt [0, 1, 2]) m [a, b, c] []) s Q E ↔ EV (m [a, b, c]) s Q E := s_callM ⟨rfl, rfl, rfl⟩ rfl
theorem s_c4 : EV (callM 4 0 4 (fmt [0, 1, 2, 3]) m [a, b, c, d] []) s Q E ↔ EV (m [a, b, c, d]) s Q E := s_callM ⟨rfl, rfl, rfl⟩ rfl
theorem s_c5 : EV (callM 5 0 5 (fmt [0, 1, 2, 3, 4]) m [a, b, c, d, e] []) s Q E ↔ EV (m [a, b, c, d, e]) s Q E := s_callM ⟨rfl, rfl, rfl⟩ rfl
theorem s_k1 : EV (callM 0 1 1 (fmt [0]) m [] [a]) s Q E ↔ EV (m [a]) s Q E := s_callM ⟨rfl, rfl, rfl⟩ rfl
theorem s_k2 : EV (callM 0 2 2 (fmt [0, 1]) m [] [a, b]) s Q E ↔ EV (m [a, b]) s Q E := s_callM ⟨rfl, rfl, rfl⟩ rfl
theorem s_k2' : EV (callM 0 2 2 (fmt [1, 0]) m [] [a, b]) s Q E ↔ EV (m [b, a]) s Q E := s_callM ⟨rfl, rfl, rfl⟩ rfl
theorem s_p1k1 : EV (callM 1 1 2 (fmt [0, 1]) m [a] [b]) s Q E ↔ EV (m [a, b]) s Q E := s_callM ⟨rfl, rfl, rfl⟩ rfl
/-! isinstance -/
theorem s_isi {sb : Sub1} {x : D} {t : Tag} {k : Bool} (h1 : tagOf s x = some t) (h2 : sb t = some k) {Q : Bool → Stt → Prop} : EV (isiD sb x) s Q E ↔ Q k s := by unfold EV isiD; simp only [h1, h2]
theorem s_isiAny1 {sb : Sub1} {sbs : List Sub1} {x : D} {Q : Bool → Stt → Prop} : EV (isiAny (sb :: sbs) x) s Q E ↔ EV (isiD sb x) s (fun b s' => Br b (Q true s') (EV (isiAny sbs x) s' Q E)) E := by
  show EV (isiD sb x >>= fun b => if b then pure true else isiAny sbs x) s Q E ↔ _
  rw [s_bind]
  exact iff_of_eq (congrArg (fun q => EV (isiD sb x) s q E) (funext fun b => funext fun s' => by rw [propext (s_if (b := b))]; rfl))
theorem s_isiAny0 {x : D} {Q : Bool → Stt → Prop} : EV (isiAny [] x) s Q E ↔ Q false s := Iff.rfl
end
theorem s_iNI {s : Stt} {Q : Bool → Stt → Prop} {E : Err → Stt → Prop} : EV (isiD (sbTy "int") .non) s Q E ↔ Q false s := s_isi rfl isi_NoneType_int
theorem s_iNS {s : Stt} {Q : Bool → Stt → Prop} {E : Err → Stt → Prop} : EV (isiD (sbTy "str") .non) s Q E ↔ Q false s := s_isi rfl isi_NoneType_str
theorem s_iNB {s : Stt} {Q : Bool → Stt → Prop} {E : Err → Stt → Prop} : EV (isiD (sbTy "bool") .non) s Q E ↔ Q false s := s_isi rfl isi_NoneType_bool
theorem s_iNL {s : Stt} {Q : Bool → Stt → Prop} {E : Err → Stt → Prop} : EV (isiD (sbTy "list") .non) s Q E ↔ Q false s := s_isi rfl isi_NoneType_list
theorem s_iNT {s : Stt} {Q : Bool → Stt → Prop} {E : Err → Stt → Prop} : EV (isiD (sbTy "tuple") .non) s Q E ↔ Q false s := s_isi rfl isi_NoneType_tuple
theorem s_iND {s : Stt} {Q : Bool → Stt → Prop} {E : Err → Stt → Prop} : EV (isiD (sbTy "dict") .non) s Q E ↔ Q false s := s_isi rfl isi_NoneType_dict
theorem s_iBI {b : Bool} {s : Stt} {Q : Bool → Stt → Prop} {E : Err → Stt → Prop} : EV (isiD (sbTy "int") (.bl b)) s Q E ↔ Q true s := s_isi rfl isi_bool_int
theorem s_iBS {b : Bool} {s : Stt} {Q : Bool → Stt → Prop} {E : Err → Stt → Prop} : EV (isiD (sbTy "str") (.bl b)) s Q E ↔ Q false s := s_isi rfl isi_bool_str
theorem s_iBB {b : Bool} {s : Stt} {Q : Bool → Stt → Prop} {E : Err → Stt → Prop} : EV (isiD (sbTy "bool") (.bl b)) s Q E ↔ Q true s := s_isi rfl isi_bool_bool
theorem s_iBL {b : Bool} {s : Stt} {Q : Bool → Stt → Prop} {E : Err → Stt → Prop} : EV (isiD (sbTy "list") (.bl b)) s Q E ↔ Q false s := s_isi rfl isi_bool_list
theorem s_iBT {b : Bool} {s : Stt} {Q : Bool → Stt → Prop} {E : Err → Stt → Prop} : EV (isiD (sbTy "tuple") (.bl b)) s Q E ↔ Q false s := s_isi rfl isi_bool_tuple
theorem s_iBD {b : Bool} {s : Stt} {Q : Bool → Stt → Prop} {E : Err → Stt → Prop} : EV (isiD (sbTy "dict") (.bl b)) s Q E ↔ Q false s := s_isi rfl isi_bool_dict
theorem s_iII {i : Int} {s : Stt} {Q : Bool → Stt → Prop} {E : Err → Stt → Prop} : EV (isiD (sbTy "int") (.int i)) s Q E ↔ Q true s := s_isi rfl isi_int_int
theorem s_iIS {i : Int} {s : Stt} {Q : Bool → Stt → Prop} {E : Err → Stt → Prop} : EV (isiD (sbTy "str") (.int i)) s Q E ↔ Q false s := s_isi rfl isi_int_str
theorem s_iIB {i : Int} {s : Stt} {Q : Bool → Stt → Prop} {E : Err → Stt → Prop} : EV (isiD (sbTy "bool") (.int i)) s Q E ↔ Q false s := s_isi rfl isi_int_bool
theorem s_iIL {i : Int} {s : Stt} {Q : Bool → Stt → Prop} {E : Err → Stt → Prop} : EV (isiD (sbTy "list") (.int i)) s Q E ↔ Q false s := s_isi rfl isi_int_list
theorem s_iIT {i : Int} {s : Stt} {Q : Bool → Stt → Prop} {E : Err → Stt → Prop} : EV (isiD (sbTy "tuple") (.int i)) s Q E ↔ Q false s := s_isi rfl isi_int_tuple
theorem s_iID {i : Int} {s : Stt} {Q : Bool → Stt → Prop} {E : Err → Stt → Prop} : EV (isiD (sbTy "dict") (.int i)) s Q E ↔ Q false s := s_isi rfl isi_int_dict
theorem s_iSI {z : Str} {s : Stt} {Q : Bool → Stt → Prop} {E : Err → Stt → Prop} : EV (isiD (sbTy "int") (.str z)) s Q E ↔ Q false s := s_isi rfl isi_str_int
theorem s_iSS {z : Str} {s : Stt} {Q : Bool → Stt → Prop} {E : Err → Stt → Prop} : EV (isiD (sbTy "str") (.str z)) s Q E ↔ Q true s := s_isi rfl isi_str_str
theorem s_iSB {z : Str} {s : Stt} {Q : Bool → Stt → Prop} {E : Err → Stt → Prop} : EV (isiD (sbTy "bool") (.str z)) s Q E ↔ Q false s := s_isi rfl isi_str_bool
theorem s_iSL {z : Str} {s : Stt} {Q : Bool → Stt → Prop} {E : Err → Stt → Prop} : EV (isiD (sbTy "list") (.str z)) s Q E ↔ Q false s := s_isi rfl isi_str_list
theorem s_iST {z : Str} {s : Stt} {Q : Bool → Stt → Prop} {E : Err → Stt → Prop} : EV (isiD (sbTy "tuple") (.str z)) s Q E ↔ Q false s := s_isi rfl isi_str_tuple
theorem s_iSD {z : Str} {s : Stt} {Q : Bool → Stt → Prop} {E : Err → Stt → Prop} : EV (isiD (sbTy "dict") (.str z)) s Q E ↔ Q false s := s_isi rfl isi_str_dict
theorem s_iLI {xs : List D} {s : Stt} {Q : Bool → Stt → Prop} {E : Err → Stt → Prop} : EV (isiD (sbTy "int") (.lst xs)) s Q E ↔ Q false s := s_isi rfl isi_list_int
theorem s_iLS {xs : List D} {s : Stt} {Q : Bool → Stt → Prop} {E : Err → Stt → Prop} : EV (isiD (sbTy "str") (.lst xs)) s Q E ↔ Q false s := s_isi rfl isi_list_str
theorem s_iLB {xs : List D} {s : Stt} {Q : Bool → Stt → Prop} {E : Err → Stt → Prop} : EV (isiD (sbTy "bool") (.lst xs)) s Q E ↔ Q false s := s_isi rfl isi_list_bool
theorem s_iLL {xs : List D} {s : Stt} {Q : Bool → Stt → Prop} {E : Err → Stt → Prop} : EV (isiD (sbTy "list") (.lst xs)) s Q E ↔ Q true s := s_isi rfl isi_list_list
theorem s_iLT {xs : List D} {s : Stt} {Q : Bool → Stt → Prop} {E : Err → Stt → Prop} : EV (isiD (sbTy "tuple") (.lst xs)) s Q E ↔ Q false s := s_isi rfl isi_list_tuple
theorem s_iLD {xs : List D} {s : Stt} {Q : Bool → Stt → Prop} {E : Err → Stt → Prop} : EV (isiD (sbTy "dict") (.lst xs)) s Q E ↔ Q false s := s_isi rfl isi_list_dict
theorem s_iTI {xs : List D} {s : Stt} {Q : Bool → Stt → Prop} {E : Err → Stt → Prop} : EV (isiD (sbTy "int") (.tup xs)) s Q E ↔ Q false s := s_isi rfl isi_tuple_int
theorem s_iTS {xs : List D} {s : Stt} {Q : Bool → Stt → Prop} {E : Err → Stt → Prop} : EV (isiD (sbTy "str") (.tup xs)) s Q E ↔ Q false s := s_isi rfl isi_tuple_str
theorem s_iTB {xs : List D} {s : Stt} {Q : Bool → Stt → Prop} {E : Err → Stt → Prop} : EV (isiD (sbTy "bool") (.tup xs)) s Q E ↔ Q false s := s_isi rfl isi_tuple_bool
theorem s_iTL {xs : List D} {s : Stt} {Q : Bool → Stt → Prop} {E : Err → Stt → Prop} : EV (isiD (sbTy "list") (.tup xs)) s Q E ↔ Q false s := s_isi rfl isi_tuple_list
theorem s_iTT {xs : List D} {s : Stt} {Q : Bool → Stt → Prop} {E : Err → Stt → Prop} : EV (isiD (sbTy "tuple") (.tup xs)) s Q E ↔ Q true s := s_isi rfl isi_tuple_tuple
theorem s_iTD {xs : List D} {s : Stt} {Q : Bool → Stt → Prop} {E : Err → Stt → Prop} : EV (isiD (sbTy "dict") (.tup xs)) s Q E ↔ Q false s := s_isi rfl isi_tuple_dict
theorem s_iDI {ks : List (Key × D)} {s : Stt} {Q : Bool → Stt → Prop} {E : Err → Stt → Prop} : EV (isiD (sbTy "int") (.dic ks)) s Q E ↔ Q false s := s_isi rfl isi_dict_int
theorem s_iDS {ks : List (Key × D)} {s : Stt} {Q : Bool → Stt → Prop} {E : Err → Stt → Prop} : EV (isiD (sbTy "str") (.dic ks)) s Q E ↔ Q false s := s_isi rfl isi_dict_str
theorem s_iDB {ks : List (Key × D)} {s : Stt} {Q : Bool → Stt → Prop} {E : Err → Stt → Prop} : EV (isiD (sbTy "bool") (.dic ks)) s Q E ↔ Q false s := s_isi rfl isi_dict_bool
theorem s_iDL {ks : List (Key × D)} {s : Stt} {Q : Bool → Stt → Prop} {E : Err → Stt → Prop} : EV (isiD (sbTy "list") (.dic ks)) s Q E ↔ Q false s := s_isi rfl isi_dict_list
theorem s_iDT {ks : List (Key × D)} {s : Stt} {Q : Bool → Stt → Prop} {E : Err → Stt → Prop} : EV (isiD (sbTy "tuple") (.dic ks)) s Q E ↔ Q false s := s_isi rfl isi_dict_tuple
theorem s_iDD {ks : List (Key × D)} {s : Stt} {Q : Bool → Stt → Prop} {E : Err → Stt → Prop} : EV (isiD (sbTy "dict") (.dic ks)) s Q E ↔ Q true s := s_isi rfl isi_dict_dict
end PV
end

section
/-! draws, comprehensions -/
namespace PV
open PySem PySem.Spec L2
open PyProof.Rows hiding St
/-- the store begins with a bag of at most c draws -/
def Bg (c : Nat) (rest s : Stt) : Prop := ∃ B : Bag, B.Ok c ∧ s = B.d :: rest
theorem Bg.le {c c' : Nat} {rest s : Stt} (h : Bg c rest s) (l : c ≤ c') : Bg c' rest s := by
  obtain ⟨B, h, e⟩ := h
  exact ⟨B, ⟨h.b0, h.m0, h.m1, Nat.le_trans h.cn l⟩, e⟩
section
variable {α : Type} {c : Nat} {rest s : Stt} {E : Err → Stt → Prop} {Q : D → Stt → Prop} {ρ : Env}
theorem ev_dr {many : Int} (hB : Bg c rest s) (hc : c < 2 ^ 60) (h0 : 0 < many) (h1 : many ≤ 1000000000000000000000000000000000000000000000000000000000000) (q : ∀ (r : Int) (s' : Stt), 0 ≤ r → r < many → Bg (c + 1) rest s' → Q (.int r) s') : EV (CM.m_law_draw [.obj 0, .int many]) s Q E := by
  obtain ⟨B, hB, rfl⟩ := hB
  exact ev_draw hB hc h0 h1 fun r B' h0 h1 hB' => q r _ h0 h1 ⟨B', hB', rfl⟩
theorem ev_ol {xs : List D} (hB : Bg c rest s) (hc : c < 2 ^ 60) (h0 : 0 < xs.length) (h1 : xs.length < 2 ^ 60) (q : ∀ (k : Nat) (hk : k < xs.length) (s' : Stt), Bg (c + 1) rest s' → Q xs[k] s') : EV (CM.m_law_of [.obj 0, .lst xs]) s Q E := by
  obtain ⟨B, hB, rfl⟩ := hB
  exact ev_ofL hB hc h0 h1 fun k hk B' hB' => q k hk _ ⟨B', hB', rfl⟩
/-- .. by what holds of all items -/
theorem ev_olP {xs : List D} (P : D → Prop) (hP : ∀ x ∈ xs, P x) (hB : Bg c rest s) (hc : c < 2 ^ 60) (h0 : 0 < xs.length) (h1 : xs.length < 2 ^ 60) (q : ∀ (x : D) (s' : Stt), P x → Bg (c + 1) rest s' → Q x s') : EV (CM.m_law_of [.obj 0, .lst xs]) s Q E :=
  ev_ol hB hc h0 h1 fun k hk s' hs => q _ _ (hP _ (List.getElem_mem hk)) hs
theorem ev_os {z : Str} (hB : Bg c rest s) (hc : c < 2 ^ 60) (h0 : 0 < z.length) (h1 : z.length ≤ 1000000) (q : ∀ (ch : Nat) (s' : Stt), ch ∈ z.cps.toList → Bg (c + 1) rest s' → Q (.str ⟨#[ch]⟩) s') : EV (CM.m_law_of [.obj 0, .str z]) s Q E := by
  obtain ⟨B, hB, rfl⟩ := hB
  exact ev_ofS hB hc h0 h1 fun k hk B' hB' => q _ _ (List.getElem_mem hk) ⟨B', hB', rfl⟩
/-- the law's bag, taken into the store -/
theorem ev_bg {ns : List Int} {s : Stt} (q : ∀ (d : D), (∀ rest, Bg 0 rest (d :: rest)) → Q d s) : EV (CM.m_law_bag [.lst (ns.map D.int)]) s Q E := ev_bag fun B hB => q B.d fun rest => ⟨B, hB, rfl⟩
/-- a comprehension that asks nothing of the store -/
structure U4 (g : D → Env → Option Env) (t : Env → M Bool) (e : Env → M D) (Q : D → Stt → Prop) : Type where
structure U5 (g : D → Env → Option Env) (e : Env → M D) (Q : D → Stt → Prop) : Type where
structure U6 (g : D → Env → Option Env) (m : SM) (N : Env → Stt → Prop) (R : D → Stt → Prop) (E : Err → Stt → Prop) : Type where
def LcP (g : D → Env → Option Env) (t : Env → M Bool) (e : Env → M D) (ρ : Env) (Q : D → Stt → Prop) (ds : List D) (s0 : Stt) (_u : U4 g t e Q := ⟨⟩) : Prop := ds.length < 1000000 ∧ ∃ G : D → Option D,
    (∀ d ∈ ds, ∃ ρ', g d ρ = some ρ' ∧ EV (t ρ') s0 (fun b s1 => s1 = s0 ∧ Br b (EV (e ρ') s0 (fun y s2 => s2 = s0 ∧ G d = some y) NoE) (G d = none)) NoE) ∧ Q (.lst (ds.filterMap G)) s0
theorem LcP.mk {g : D → Env → Option Env} {t : Env → M Bool} {e : Env → M D} {ds : List D} (G : D → Option D) (hz : ds.length < 1000000)
    (hg : ∀ d ∈ ds, ∃ ρ', g d ρ = some ρ' ∧ EV (t ρ') s (fun b s1 => s1 = s ∧ Br b (EV (e ρ') s (fun y s2 => s2 = s ∧ G d = some y) NoE) (G d = none)) NoE) (q : Q (.lst (ds.filterMap G)) s) : LcP g t e ρ Q ds s := ⟨hz, G, hg, q⟩
theorem ev_lcP {f : Env → M (List D)} {g : D → Env → Option Env} {t : Env → M Bool} {e : Env → M D} {vs : List Nat} (h : EV (f ρ) s (fun ds s0 => LcP g t e (wipeE ρ vs) Q ds s0) E) : EV (lcD f g t e vs ρ) s Q E := by
  refine ev_lc (ev_imp h (fun ds s0 ⟨hz, G, hg, q⟩ => ⟨hz, fun i acc s' => s' = s0 ∧ acc = (ds.take i).filterMap G, ⟨rfl, rfl⟩, ?_, ?_⟩) fun _ _ z => z)
  · rintro i d acc s' hd ⟨rfl, rfl⟩
    obtain ⟨ρ', e1, h2⟩ := hg d (List.mem_of_getElem? hd)
    have hi := (List.getElem?_eq_some_iff.mp hd).1
    have e3 : ds.take (i + 1) = ds.take i ++ [d] := by
      rw [List.take_succ_eq_append_getElem hi]
      have := (List.getElem?_eq_some_iff.mp hd).2
      rw [this]
    refine ⟨ρ', e1, ev_imp h2 ?_ fun _ _ z => z⟩
    rintro b s1 ⟨rfl, h3⟩
    refine ⟨fun hb => ev_imp (h3.1 hb) ?_ (fun _ _ z => z), fun hb => ?_⟩
    · rintro y s2 ⟨rfl, h4⟩
      exact ⟨rfl, by rw [e3, List.filterMap_append]; simp [h4]⟩
    · exact ⟨rfl, by rw [e3, List.filterMap_append]; simp [h3.2 hb]⟩
  · rintro acc s' ⟨rfl, rfl⟩
    rw [List.take_length]; exact q
/-- .. each item made anew -/
def LcF (g : D → Env → Option Env) (e : Env → M D) (ρ : Env) (Q : D → Stt → Prop) (ds : List D) (s0 : Stt) (_u : U5 g e Q := ⟨⟩) : Prop := ds.length < 1000000 ∧ ∃ G : D → D,
    (∀ d ∈ ds, ∃ ρ', g d ρ = some ρ' ∧ EV (e ρ') s0 (fun y s2 => s2 = s0 ∧ G d = y) NoE) ∧ Q (.lst (ds.map G)) s0
theorem LcF.mk {g : D → Env → Option Env} {e : Env → M D} {ds : List D} (G : D → D) (hz : ds.length < 1000000)
    (hg : ∀ d ∈ ds, ∃ ρ', g d ρ = some ρ' ∧ EV (e ρ') s (fun y s2 => s2 = s ∧ G d = y) NoE) (q : Q (.lst (ds.map G)) s) : LcF g e ρ Q ds s := ⟨hz, G, hg, q⟩
theorem ev_lcF {f : Env → M (List D)} {g : D → Env → Option Env} {e : Env → M D} {vs : List Nat} (h : EV (f ρ) s (fun ds s0 => LcF g e (wipeE ρ vs) Q ds s0) E) : EV (lcD f g tYesM e vs ρ) s Q E := by
  refine ev_lcP (ev_imp h (fun ds s0 ⟨hz, G, hg, q⟩ => ⟨hz, fun d => some (G d), fun d hd => ?_, ?_⟩) fun _ _ z => z)
  · obtain ⟨ρ', e1, h2⟩ := hg d hd
    refine ⟨ρ', e1, ?_⟩
    show EV (pure true) _ _ _
    exact ⟨rfl, s_brT.mpr (ev_imp h2 (fun y s2 ⟨a, b⟩ => ⟨a, congrArg some b⟩) fun _ _ z => z)⟩
  · have : ds.filterMap (fun d => some (G d)) = ds.map G := by
      rw [List.filterMap_eq_map']
    rw [this]; exact q
/-- .. that draws: k draws at most a turn -/
def LcB (g : D → Env → Option Env) (e : Env → M D) (ρ : Env) (Q : D → Stt → Prop) (ds : List D) (s0 : Stt) (_u : U5 g e Q := ⟨⟩) : Prop := ds.length < 1000000 ∧ ∃ (rest : Stt) (c k : Nat) (P : Nat → D → Prop), Bg c rest s0 ∧
    (∀ i d s1, ds[i]? = some d → i < ds.length → Bg (c + i * k) rest s1 → ∃ ρ', g d ρ = some ρ' ∧ EV (e ρ') s1 (fun y s3 => P i y ∧ Bg (c + i * k + k) rest s3) NoE) ∧
    ∀ ys s', ys.length = ds.length → (∀ i y, ys[i]? = some y → P i y) → Bg (c + ds.length * k) rest s' → Q (.lst ys) s'
theorem LcB.mk {g : D → Env → Option Env} {e : Env → M D} {ds : List D} (k : Nat) (P : Nat → D → Prop) (hz : ds.length < 1000000) (hB : Bg c rest s)
    (hg : ∀ i d s1, ds[i]? = some d → i < ds.length → Bg (c + i * k) rest s1 → ∃ ρ', g d ρ = some ρ' ∧ EV (e ρ') s1 (fun y s3 => P i y ∧ Bg (c + i * k + k) rest s3) NoE)
    (q : ∀ ys s', ys.length = ds.length → (∀ i y, ys[i]? = some y → P i y) → Bg (c + ds.length * k) rest s' → Q (.lst ys) s') : LcB g e ρ Q ds s := ⟨hz, rest, c, k, P, hB, hg, q⟩
theorem ev_lcB {f : Env → M (List D)} {g : D → Env → Option Env} {e : Env → M D} {vs : List Nat} (h : EV (f ρ) s (fun ds s0 => LcB g e (wipeE ρ vs) Q ds s0) E) : EV (lcD f g tYesM e vs ρ) s Q E := by
  refine ev_lc (ev_imp h (fun ds s0 ⟨hz, rest, c, k, P, hB, hg, q⟩ => ⟨hz, fun i acc s' => Bg (c + i * k) rest s' ∧ acc.length = i ∧ ∀ j y, acc[j]? = some y → P j y, ⟨by simpa using hB, rfl, by simp⟩, ?_, ?_⟩) fun _ _ z => z)
  · rintro i d acc s' hd ⟨hb, hl, hp⟩
    obtain ⟨ρ', e1, h2⟩ := hg i d s' hd (List.getElem?_eq_some_iff.mp hd).1 hb
    refine ⟨ρ', e1, ?_⟩
    show EV (pure true) _ _ _
    refine ⟨fun _ => ev_imp h2 ?_ (fun _ _ z => z), fun z => Bool.noConfusion z⟩
    rintro y s3 ⟨hy, hb3⟩
    refine ⟨hb3.le (by rw [Nat.succ_mul]; omega), by simp [hl], fun j z hz2 => ?_⟩
    by_cases hj : j < acc.length
    · rw [List.getElem?_append_left hj] at hz2; exact hp j z hz2
    · have hj2 : j = acc.length := by
        have := (List.getElem?_eq_some_iff.mp hz2).1
        simp at this; omega
      subst hj2
      rw [List.getElem?_append_right (Nat.le_refl _)] at hz2
      simp at hz2
      subst hz2
      rw [hl]; exact hy
  · rintro acc s' ⟨hb, hl, hp⟩
    exact q acc s' hl hp hb
/-- a for over n turns, at most k draws a turn; I: what holds of the names -/
def ForB (g : D → Env → Option Env) (m : SM) (ρ : Env) (N : Env → Stt → Prop) (R : D → Stt → Prop) (E : Err → Stt → Prop) (ds : List D) (s0 : Stt) (_u : U6 g m N R E := ⟨⟩) : Prop := ∃ (rest : Stt) (c k : Nat) (I : Nat → Env → Prop), Bg c rest s0 ∧ I 0 ρ ∧
    (∀ i d ρ s, ds[i]? = some d → i < ds.length → I i ρ → Bg (c + i * k) rest s → ∃ ρ', g d ρ = some ρ' ∧ WP m ρ' s (fun ρ s => I (i + 1) ρ ∧ Bg (c + i * k + k) rest s) R N (fun ρ s => I (i + 1) ρ ∧ Bg (c + i * k + k) rest s) E) ∧
    ∀ ρ s, I ds.length ρ → Bg (c + ds.length * k) rest s → N ρ s
theorem ForB.mk {g : D → Env → Option Env} {m : SM} {N : Env → Stt → Prop} {R : D → Stt → Prop} {ds : List D} (k : Nat) (I : Nat → Env → Prop) (hB : Bg c rest s) (h0 : I 0 ρ)
    (hs : ∀ i d ρ s, ds[i]? = some d → i < ds.length → I i ρ → Bg (c + i * k) rest s → ∃ ρ', g d ρ = some ρ' ∧ WP m ρ' s (fun ρ s => I (i + 1) ρ ∧ Bg (c + i * k + k) rest s) R N (fun ρ s => I (i + 1) ρ ∧ Bg (c + i * k + k) rest s) E)
    (hd : ∀ ρ s, I ds.length ρ → Bg (c + ds.length * k) rest s → N ρ s) : ForB g m ρ N R E ds s := ⟨rest, c, k, I, hB, h0, hs, hd⟩
theorem w_forB {f : Env → M (List D)} {g : D → Env → Option Env} {m : SM} {N B C : Env → Stt → Prop} {R : D → Stt → Prop} (h : EV (f ρ) s (fun ds s0 => ForB g m ρ N R E ds s0) E) : WP (sForM f g m) ρ s N R B C E := by
  refine w_forI (ev_imp h (fun ds s0 ⟨rest, c, k, I, hB, h0, hs, hd⟩ => ⟨fun i ρ s => I i ρ ∧ Bg (c + i * k) rest s, ⟨h0, by simpa using hB⟩, ?_, ?_⟩) fun _ _ z => z)
  · rintro i d ρ s e ⟨hi, hb⟩
    obtain ⟨ρ', e1, w⟩ := hs i d ρ s e (List.getElem?_eq_some_iff.mp e).1 hi hb
    have key : ∀ ρ s, I (i + 1) ρ ∧ Bg (c + i * k + k) rest s → I (i + 1) ρ ∧ Bg (c + (i + 1) * k) rest s := fun ρ s ⟨a, b⟩ => ⟨a, b.le (by rw [Nat.succ_mul]; omega)⟩
    exact ⟨ρ', e1, w_imp w key (fun _ _ z => z) (fun _ _ z => z) key fun _ _ z => z⟩
  · rintro ρ s ⟨hi, hb⟩
    exact hd ρ s hi hb
/-- the law's own comparison of equal data -/
theorem ev_sm {x y : D} (e : x = y) (hx : x.dat 11 = true) (q : Q (.bl true) s) : EV (CM.m_law_same 12 [x, y]) s Q E := by
  subst e
  exact same_refl 11 x s Q E hx q
theorem s_sm {x : D} (hx : x.dat 11 = true) : EV (CM.m_law_same 12 [x, x]) s Q E ↔ Q (.bl true) s := by
  have h := same_refl 11 x s (fun d s' => d = .bl true ∧ s' = s) NoE hx ⟨rfl, rfl⟩
  obtain ⟨a, s', e1, rfl, rfl⟩ := ev_get h
  exact s_okeq e1
theorem s_boolsMap {α : Type} (l : List α) (p : α → Bool) : boolsD (l.map fun c => .bl (p c)) = some (l.map p) := by
  induction l with
  | nil => rfl
  | cons a l ih =>
    show (boolsD (l.map fun c => .bl (p c))).map (p a :: ·) = _
    rw [ih]; rfl
theorem s_all {α : Type} (l : List α) (p : α → Bool) : EV (allD (.lst (l.map fun c => .bl (p c)))) s Q E ↔ Q (.bl (l.all p)) s := by
  have : EV (allD (.lst (l.map fun c => .bl (p c)))) s Q E ↔ EV (atM ((boolsD (l.map fun c => .bl (p c))).map fun bs => .bl (bs.all id))) s Q E := Iff.rfl
  rw [this, s_boolsMap]
  have e : (l.map p).all id = l.all p := by simp [List.all_map]
  show Q (.bl ((l.map p).all id)) s ↔ _
  rw [e]
theorem s_any {α : Type} (l : List α) (p : α → Bool) : EV (anyD (.lst (l.map fun c => .bl (p c)))) s Q E ↔ Q (.bl (l.any p)) s := by
  have : EV (anyD (.lst (l.map fun c => .bl (p c)))) s Q E ↔ EV (atM ((boolsD (l.map fun c => .bl (p c))).map fun bs => .bl (bs.any id))) s Q E := Iff.rfl
  rw [this, s_boolsMap]
  have e : (l.map p).any id = l.any p := by simp [List.any_map]
  show Q (.bl ((l.map p).any id)) s ↔ _
  rw [e]
/-- two ways to one value -/
theorem br_ev {α : Type} {k : Bool} {x y : M α} {v : α} {Q : α → Stt → Prop} (h : Br k (EV x s (fun d s' => d = v ∧ s' = s) NoE) (EV y s (fun d s' => d = v ∧ s' = s) NoE)) (q : Q v s) : Br k (EV x s Q E) (EV y s Q E) :=
  ⟨fun hk => ev_imp (h.1 hk) (fun d s' ⟨a, b⟩ => by rw [a, b]; exact q) (fun _ _ z => z.elim), fun hk => ev_imp (h.2 hk) (fun d s' ⟨a, b⟩ => by rw [a, b]; exact q) (fun _ _ z => z.elim)⟩
/-- pure, from a promise -/
theorem s_of_ev {x : M D} {d : D} (h : EV x s (fun a s' => a = d ∧ s' = s) NoE) : EV x s Q E ↔ Q d s := by
  obtain ⟨a, s', e1, rfl, rfl⟩ := ev_get h
  exact s_okeq e1
end
end PV
end

section
namespace PV.LW
open PySem PySem.Spec L2
open PyProof.Rows hiding St
def top (i : Nat) : Stmt := PySem.Challenge.pw_forkmeet_k02_names_and_numbers.main.body.getD i (.Pass ⟨0, 0, 0, 0⟩)
/-! is_name -/
abbrev st_is_name : Stmt := top 3
abbrev N_is_name : List Str := [(Str.ofString "value"), (Str.ofString "sign")]
abbrev ps_is_name : List Str := [(Str.ofString "value")]
def T_is_name : NT := [((Str.ofString "value"), .local, 0), ((Str.ofString "isinstance"), .globalImplicit, 0), ((Str.ofString "str"), .globalImplicit, 0), ((Str.ofString "len"), .globalImplicit, 0), ((Str.ofString "MOST_LETTERS"), .globalImplicit, 0), ((Str.ofString "all"), .globalImplicit, 0)]
theorem nt_is_name : ntB (defScope st_is_name) N_is_name T_is_name = true := by decide +kernel
def T_is_name_1 : NT := [((Str.ofString "sign"), .local, 1), ((Str.ofString "LETTERS"), .globalImplicit, 0)]
abbrev sc_is_name_1 : Scope := ⟨.function, [((Str.ofString ".0"), .local), ((Str.ofString "sign"), .local), ((Str.ofString "LETTERS"), .globalImplicit)], false, false, []⟩
theorem nt_is_name_1 : ntB (relS sc_is_name_1 (defScope st_is_name)) N_is_name T_is_name_1 = true := by decide +kernel
theorem bo_is_name_1 : blkC N_is_name (defScope st_is_name) sc_is_name_1 [((Str.ofString "sign"), 1)] = true := by decide +kernel
theorem fs_is_name : FnScope N_is_name ps_is_name (defScope st_is_name) := ⟨rfl, rfl, rfl, by decide +kernel, rfl, by decide +kernel, by decide +kernel⟩
def b_is_name : SM := (sSeq (sIf (tOr (tNot (e1 truD (eIsi (sbTy "str") (getR 0)))) (tNot (tChn leD leD (kI 1) (e1 lenD (getR 0)) (kI 6)))) (sRet (kB false)) sNil)
  (sRet (e1 allD (lcD (e1 seqM (getV 0)) (gNm 1) tYesM (e2 inD (getR 1) (kS (Str.ofString "abcdefghijklmnopqrstuvwxyz"))) [1]))))
def m_is_name : List D → M D := runM 2 b_is_name
def fm_is_name : List Form := [(1, [], fmt [0]), (0, [(Str.ofString "value")], fmt [0])]
/-! is_integer -/
abbrev st_is_integer : Stmt := top 4
abbrev N_is_integer : List Str := [(Str.ofString "value")]
abbrev ps_is_integer : List Str := [(Str.ofString "value")]
def T_is_integer : NT := [((Str.ofString "value"), .local, 0), ((Str.ofString "isinstance"), .globalImplicit, 0), ((Str.ofString "int"), .globalImplicit, 0), ((Str.ofString "bool"), .globalImplicit, 0)]
theorem nt_is_integer : ntB (defScope st_is_integer) N_is_integer T_is_integer = true := by decide +kernel
theorem fs_is_integer : FnScope N_is_integer ps_is_integer (defScope st_is_integer) := ⟨rfl, rfl, rfl, by decide +kernel, rfl, by decide +kernel, by decide +kernel⟩
def b_is_integer : SM := (sRet (eAnd (eIsi (sbTy "int") (getR 0)) (e1 notD (eIsi (sbTy "bool") (getR 0)))))
def m_is_integer : List D → M D := runM 1 b_is_integer
def fm_is_integer : List Form := [(1, [], fmt [0])]
/-! law_bag -/
abbrev st_law_bag : Stmt := top 7
abbrev N_law_bag : List Str := [(Str.ofString "_law_script"), (Str.ofString "_law_mixed"), (Str.ofString "_law_cell")]
abbrev ps_law_bag : List Str := [(Str.ofString "_law_script")]
def T_law_bag : NT := [((Str.ofString "_law_script"), .local, 0), ((Str.ofString "_law_mixed"), .local, 1), ((Str.ofString "_law_cell"), .local, 2), ((Str.ofString "int"), .globalImplicit, 0), ((Str.ofString "list"), .globalImplicit, 0)]
theorem nt_law_bag : ntB (defScope st_law_bag) N_law_bag T_law_bag = true := by decide +kernel
theorem fs_law_bag : FnScope N_law_bag ps_law_bag (defScope st_law_bag) := ⟨rfl, rfl, rfl, by decide +kernel, rfl, by decide +kernel, by decide +kernel⟩
abbrev b_law_bag := CM.b_law_bag
abbrev m_law_bag := CM.m_law_bag
def fm_law_bag : List Form := [(1, [], fmt [0])]
/-! law_draw -/
abbrev st_law_draw : Stmt := top 8
abbrev N_law_draw : List Str := [(Str.ofString "_law_bag_here"), (Str.ofString "_law_many"), (Str.ofString "_law_cell"), (Str.ofString "_law_digit"), (Str.ofString "_law_late")]
abbrev ps_law_draw : List Str := [(Str.ofString "_law_bag_here"), (Str.ofString "_law_many")]
def T_law_draw : NT := [((Str.ofString "_law_bag_here"), .local, 0), ((Str.ofString "_law_many"), .local, 1), ((Str.ofString "_law_cell"), .local, 2), ((Str.ofString "_law_digit"), .local, 3), ((Str.ofString "_law_late"), .local, 4), ((Str.ofString "len"), .globalImplicit, 0), ((Str.ofString "int"), .globalImplicit, 0)]
theorem nt_law_draw : ntB (defScope st_law_draw) N_law_draw T_law_draw = true := by decide +kernel
theorem fs_law_draw : FnScope N_law_draw ps_law_draw (defScope st_law_draw) := ⟨rfl, rfl, rfl, by decide +kernel, rfl, by decide +kernel, by decide +kernel⟩
abbrev b_law_draw := CM.b_law_draw
abbrev m_law_draw := CM.m_law_draw
def fm_law_draw : List Form := [(2, [], fmt [0, 1])]
/-! law_same -/
abbrev st_law_same : Stmt := top 10
abbrev N_law_same : List Str := [(Str.ofString "_law_found"), (Str.ofString "_law_due"), (Str.ofString "_law_one"), (Str.ofString "_law_two")]
abbrev ps_law_same : List Str := [(Str.ofString "_law_found"), (Str.ofString "_law_due")]
def T_law_same : NT := [((Str.ofString "_law_found"), .local, 0), ((Str.ofString "_law_due"), .local, 1), ((Str.ofString "isinstance"), .globalImplicit, 0), ((Str.ofString "list"), .globalImplicit, 0), ((Str.ofString "tuple"), .globalImplicit, 0), ((Str.ofString "len"), .globalImplicit, 0), ((Str.ofString "all"), .globalImplicit, 0), ((Str.ofString "zip"), .globalImplicit, 0), ((Str.ofString "bool"), .globalImplicit, 0), ((Str.ofString "int"), .globalImplicit, 0), ((Str.ofString "str"), .globalImplicit, 0)]
theorem nt_law_same : ntB (defScope st_law_same) N_law_same T_law_same = true := by decide +kernel
def T_law_same_1 : NT := [((Str.ofString "_law_one"), .local, 2), ((Str.ofString "_law_two"), .local, 3), ((Str.ofString "_law_same"), .globalImplicit, 0)]
abbrev sc_law_same_1 : Scope := ⟨.function, [((Str.ofString ".0"), .local), ((Str.ofString "_law_one"), .local), ((Str.ofString "_law_two"), .local), ((Str.ofString "_law_same"), .globalImplicit)], false, false, []⟩
theorem nt_law_same_1 : ntB (relS sc_law_same_1 (defScope st_law_same)) N_law_same T_law_same_1 = true := by decide +kernel
theorem bo_law_same_1 : blkC N_law_same (defScope st_law_same) sc_law_same_1 [((Str.ofString "_law_one"), 2), ((Str.ofString "_law_two"), 3)] = true := by decide +kernel
theorem fs_law_same : FnScope N_law_same ps_law_same (defScope st_law_same) := ⟨rfl, rfl, rfl, by decide +kernel, rfl, by decide +kernel, by decide +kernel⟩
abbrev b_law_same := CM.b_law_same
abbrev m_law_same := CM.m_law_same
def fm_law_same : List Form := [(2, [], fmt [0, 1])]
/-! is_number -/
abbrev st_is_number : Stmt := top 5
abbrev N_is_number : List Str := [(Str.ofString "value"), (Str.ofString "least")]
abbrev ps_is_number : List Str := [(Str.ofString "value"), (Str.ofString "least")]
def T_is_number : NT := [((Str.ofString "value"), .local, 0), ((Str.ofString "least"), .local, 1), ((Str.ofString "is_integer"), .globalImplicit, 0)]
theorem nt_is_number : ntB (defScope st_is_number) N_is_number T_is_number = true := by decide +kernel
theorem fs_is_number : FnScope N_is_number ps_is_number (defScope st_is_number) := ⟨rfl, rfl, rfl, by decide +kernel, rfl, by decide +kernel, by decide +kernel⟩
def b_is_number : SM := (sRet (eAnd (eCal 1 0 1 (fmt [0]) m_is_integer (eCons (getV 0) eNil) eNil) (e2 geD (getR 0) (getR 1))))
def m_is_number : List D → M D := runM 2 b_is_number
def fm_is_number : List Form := [(2, [], fmt [0, 1]), (0, [(Str.ofString "least"), (Str.ofString "value")], fmt [1, 0])]
/-! law_of -/
abbrev st_law_of : Stmt := top 9
abbrev N_law_of : List Str := [(Str.ofString "_law_bag_here"), (Str.ofString "_law_some")]
abbrev ps_law_of : List Str := [(Str.ofString "_law_bag_here"), (Str.ofString "_law_some")]
def T_law_of : NT := [((Str.ofString "_law_bag_here"), .local, 0), ((Str.ofString "_law_some"), .local, 1), ((Str.ofString "_law_draw"), .globalImplicit, 0), ((Str.ofString "len"), .globalImplicit, 0)]
theorem nt_law_of : ntB (defScope st_law_of) N_law_of T_law_of = true := by decide +kernel
theorem fs_law_of : FnScope N_law_of ps_law_of (defScope st_law_of) := ⟨rfl, rfl, rfl, by decide +kernel, rfl, by decide +kernel, by decide +kernel⟩
abbrev b_law_of := CM.b_law_of
abbrev m_law_of := CM.m_law_of
def fm_law_of : List Form := [(2, [], fmt [0, 1])]
/-! law -/
abbrev st_law : Stmt := top 11
abbrev N_law : List Str := [(Str.ofString "_law_script"), (Str.ofString "_law_bag_here"), (Str.ofString "_law_turn"), (Str.ofString "_law_word"), (Str.ofString "_law_at"), (Str.ofString "_law_bent"), (Str.ofString "_law_found"), (Str.ofString "_law_number"), (Str.ofString "_law_least"), (Str.ofString "_law_odd"), (Str.ofString "_law_k")]
abbrev ps_law : List Str := [(Str.ofString "_law_script")]
def T_law : NT := [((Str.ofString "_law_script"), .local, 0), ((Str.ofString "_law_bag_here"), .cell, 1), ((Str.ofString "_law_turn"), .local, 2), ((Str.ofString "_law_word"), .local, 3), ((Str.ofString "_law_at"), .local, 4), ((Str.ofString "_law_bent"), .local, 5), ((Str.ofString "_law_found"), .local, 6), ((Str.ofString "_law_number"), .local, 7), ((Str.ofString "_law_least"), .local, 8), ((Str.ofString "_law_odd"), .local, 9), ((Str.ofString "_law_bag"), .globalImplicit, 0), ((Str.ofString "range"), .globalImplicit, 0), ((Str.ofString "_law_draw"), .globalImplicit, 0), ((Str.ofString "len"), .globalImplicit, 0), ((Str.ofString "_law_of"), .globalImplicit, 0), ((Str.ofString "is_name"), .globalImplicit, 0), ((Str.ofString "_law_same"), .globalImplicit, 0), ((Str.ofString "is_number"), .globalImplicit, 0)]
theorem nt_law : ntB (defScope st_law) N_law T_law = true := by decide +kernel
def T_law_1 : NT := [((Str.ofString "_law_k"), .local, 10), ((Str.ofString "_law_of"), .globalImplicit, 0), ((Str.ofString "_law_bag_here"), .cell, 1)]
abbrev sc_law_1 : Scope := ⟨.function, [((Str.ofString ".0"), .local), ((Str.ofString "_law_k"), .local), ((Str.ofString "_law_of"), .globalImplicit), ((Str.ofString "_law_bag_here"), .free)], false, false, []⟩
theorem nt_law_1 : ntB (relS sc_law_1 (defScope st_law)) N_law T_law_1 = true := by decide +kernel
theorem bo_law_1 : blkC N_law (defScope st_law) sc_law_1 [((Str.ofString "_law_k"), 10)] = true := by decide +kernel
theorem fs_law : FnScope N_law ps_law (defScope st_law) := ⟨rfl, rfl, rfl, by decide +kernel, rfl, by decide +kernel, by decide +kernel⟩
def b_law : SM := (sSeq (sSetO 1 (eCal 1 0 1 (fmt [0]) m_law_bag (eCons (getV 0) eNil) eNil))
  (sSeq (sSto 1) (sSeq (sForM (e1 rng1 (kI 5)) (gNm 2) (sSeq (sSet 3 (eJoin (kS (Str.ofString "")) (lcD (e1 rng1 (eCal 2 0 2 (fmt [0, 1]) m_law_draw (eCons (getV 1) (eCons (kI 9) eNil)) eNil)) (gNm 10) tYesM (eCal 2 0 2 (fmt [0, 1]) m_law_of (eCons (getV 1) (eCons (kS (Str.ofString "abcdefghijklmnopqrstuvwxyz")) eNil)) eNil) [10])))
  (sSeq (sSet 4 (eCal 2 0 2 (fmt [0, 1]) m_law_draw (eCons (getV 1) (eCons (e2 addD (e1 lenD (getR 3)) (kI 1)) eNil)) eNil))
  (sSeq (sSet 5 (e2 addD (e2 addD (eSl slD (getR 3) pN (e1 asI (getR 4))) (eCal 2 0 2 (fmt [0, 1]) m_law_of (eCons (getV 1) (eCons (e1 lstD (eCons (kS (Str.ofString "A")) (eCons (kS (Str.ofString " ")) (eCons (kS (Str.ofString "-")) (eCons (kS (Str.ofString "1")) (eCons (kS (Str.ofString "\n")) (eCons (kS (Str.ofString "Z")) (eCons (kS (Str.ofString "0")) eNil)))))))) eNil)) eNil)) (eSl slD (getR 3) (e1 asI (getR 4)) pN)))
  (sSeq (sSet 6 (e1 lstD (eCons (eCal 1 0 1 (fmt [0]) m_is_name (eCons (getV 3) eNil) eNil) (eCons (eCal 1 0 1 (fmt [0]) m_is_name (eCons (getV 5) eNil) eNil) (eCons (eCal0 1 1 (fmt [0]) m_is_name (eCons (getV 3) eNil)) (eCons (eCal 1 0 1 (fmt [0]) m_is_name (eCons (e2 addD (getR 3) (kS (Str.ofString "\n"))) eNil) eNil) eNil))))))
  (sSeq (sIf (tNot (e1 truD (eCal 2 0 2 (fmt [0, 1]) (m_law_same 12) (eCons (getV 6) (eCons (e1 lstD (eCons (eChn leD leD (kI 1) (e1 lenD (getR 3)) (kI 6)) (eCons (kB false) (eCons (eChn leD leD (kI 1) (e1 lenD (getR 3)) (kI 6)) (eCons (kB false) eNil))))) eNil)) eNil))) (sRet (kB false)) sNil)
  (sSeq (sPar 7 8 false false (e2 subD (eCal 2 0 2 (fmt [0, 1]) m_law_draw (eCons (getV 1) (eCons (kI 90) eNil)) eNil) (kI 40)) (e2 subD (eCal 2 0 2 (fmt [0, 1]) m_law_draw (eCons (getV 1) (eCons (kI 60) eNil)) eNil) (kI 30)))
  (sSeq (sSet 6 (e1 lstD (eCons (eCal 2 0 2 (fmt [0, 1]) m_is_number (eCons (getV 7) (eCons (getV 8) eNil)) eNil) (eCons (eCal0 2 2 (fmt [1, 0]) m_is_number (eCons (getV 8) (eCons (getV 8) eNil))) (eCons (eCal 2 0 2 (fmt [0, 1]) m_is_number (eCons (e2 subD (getR 8) (kI 1)) (eCons (getV 8) eNil)) eNil) eNil)))))
  (sSeq (sIf (tNot (e1 truD (eCal 2 0 2 (fmt [0, 1]) (m_law_same 12) (eCons (getV 6) (eCons (e1 lstD (eCons (e2 geD (getR 7) (getR 8)) (eCons (kB true) (eCons (kB false) eNil)))) eNil)) eNil))) (sRet (kB false)) sNil)
  (sSeq (sSet 9 (eCal 2 0 2 (fmt [0, 1]) m_law_of (eCons (getV 1) (eCons (e1 lstD (eCons kN (eCons (kB true) (eCons (kB false) (eCons (kS (Str.ofString "7")) (eCons (e1 lstD (eCons (kI 7) eNil)) (eCons (e1 tupD (eCons (kI 7) eNil)) (eCons (kS (Str.ofString "")) (eCons (kS (Str.ofString "a")) eNil))))))))) eNil)) eNil))
  (sSeq (sIf (tNot (e1 truD (eCal 2 0 2 (fmt [0, 1]) (m_law_same 12) (eCons (e1 lstD (eCons (eCal 2 0 2 (fmt [0, 1]) m_is_number (eCons (getV 9) (eCons (kI 0) eNil)) eNil) (eCons (eCal 2 0 2 (fmt [0, 1]) m_is_number (eCons (getV 9) (eCons (e1 negD (kI 5)) eNil)) eNil) eNil))) (eCons (e1 lstD (eCons (kB false) (eCons (kB false) eNil))) eNil)) eNil))) (sRet (kB false)) sNil)
  (sIf (tNot (e1 truD (eCal 2 0 2 (fmt [0, 1]) (m_law_same 12) (eCons (eCal 1 0 1 (fmt [0]) m_is_name (eCons (eCal 2 0 2 (fmt [0, 1]) m_law_of (eCons (getV 1) (eCons (e1 lstD (eCons kN (eCons (kB true) (eCons (kI 3) (eCons (e1 lstD (eCons (kS (Str.ofString "a")) eNil)) (eCons (e1 tupD (eCons (kS (Str.ofString "a")) eNil)) (eCons (kS (Str.ofString "")) (eCons (kS (Str.ofString "abcdefg")) eNil)))))))) eNil)) eNil) eNil) eNil) (eCons (kB false) eNil)) eNil))) (sRet (kB false)) sNil))))))))))))
  (sRet (eAnd (eCal 1 0 1 (fmt [0]) m_is_name (eCons (kS (Str.ofString "abcdef")) eNil) eNil) (eAnd (eCal 2 0 2 (fmt [0, 1]) m_is_number (eCons (e2 powD (kI 10) (kI 30)) (eCons (kI 0) eNil)) eNil) (eCal 2 0 2 (fmt [0, 1]) m_is_number (eCons (kI 0) (eCons (kI 0) eNil)) eNil)))))))
def m_law : List D → M D := runM 11 b_law
def fm_law : List Form := []
structure Hd (K : PySem.W.Frag) (mg : Str → Option Value) : Prop where
  d_is_name : ∃ fd, FunD K (Str.ofString "is_name") (Str.ofString "is_name") (defArgs st_is_name) (defBody st_is_name) (defScope st_is_name) [] [] (He.ga K (Str.ofString "is_name")) fd
  g_is_name : mg (Str.ofString "is_name") = some (.ref (He.ga K (Str.ofString "is_name")))
  d_is_integer : ∃ fd, FunD K (Str.ofString "is_integer") (Str.ofString "is_integer") (defArgs st_is_integer) (defBody st_is_integer) (defScope st_is_integer) [] [] (He.ga K (Str.ofString "is_integer")) fd
  g_is_integer : mg (Str.ofString "is_integer") = some (.ref (He.ga K (Str.ofString "is_integer")))
  d_is_number : ∃ fd, FunD K (Str.ofString "is_number") (Str.ofString "is_number") (defArgs st_is_number) (defBody st_is_number) (defScope st_is_number) [] [] (He.ga K (Str.ofString "is_number")) fd
  g_is_number : mg (Str.ofString "is_number") = some (.ref (He.ga K (Str.ofString "is_number")))
  d_law_bag : ∃ fd, FunD K (Str.ofString "_law_bag") (Str.ofString "_law_bag") (defArgs st_law_bag) (defBody st_law_bag) (defScope st_law_bag) [] [] (He.ga K (Str.ofString "_law_bag")) fd
  g_law_bag : mg (Str.ofString "_law_bag") = some (.ref (He.ga K (Str.ofString "_law_bag")))
  d_law_draw : ∃ fd, FunD K (Str.ofString "_law_draw") (Str.ofString "_law_draw") (defArgs st_law_draw) (defBody st_law_draw) (defScope st_law_draw) [] [] (He.ga K (Str.ofString "_law_draw")) fd
  g_law_draw : mg (Str.ofString "_law_draw") = some (.ref (He.ga K (Str.ofString "_law_draw")))
  d_law_of : ∃ fd, FunD K (Str.ofString "_law_of") (Str.ofString "_law_of") (defArgs st_law_of) (defBody st_law_of) (defScope st_law_of) [] [] (He.ga K (Str.ofString "_law_of")) fd
  g_law_of : mg (Str.ofString "_law_of") = some (.ref (He.ga K (Str.ofString "_law_of")))
  d_law_same : ∃ fd, FunD K (Str.ofString "_law_same") (Str.ofString "_law_same") (defArgs st_law_same) (defBody st_law_same) (defScope st_law_same) [] [] (He.ga K (Str.ofString "_law_same")) fd
  g_law_same : mg (Str.ofString "_law_same") = some (.ref (He.ga K (Str.ofString "_law_same")))
  d_law : ∃ fd, FunD K (Str.ofString "law") (Str.ofString "law") (defArgs st_law) (defBody st_law) (defScope st_law) [] [] (He.ga K (Str.ofString "law")) fd
  g_law : mg (Str.ofString "law") = some (.ref (He.ga K (Str.ofString "law")))
  f_all : mg (Str.ofString "all") = none
  f_bool : mg (Str.ofString "bool") = none
  f_int : mg (Str.ofString "int") = none
  f_isinstance : mg (Str.ofString "isinstance") = none
  f_len : mg (Str.ofString "len") = none
  f_list : mg (Str.ofString "list") = none
  f_range : mg (Str.ofString "range") = none
  f_str : mg (Str.ofString "str") = none
  f_tuple : mg (Str.ofString "tuple") = none
  f_zip : mg (Str.ofString "zip") = none
  c_LETTERS : ∃ t, mg (Str.ofString "LETTERS") = some (.str (Str.ofString "abcdefghijklmnopqrstuvwxyz") t)
  c_MOST_LETTERS : ∃ t, mg (Str.ofString "MOST_LETTERS") = some (.int 6 t)
section
variable {P : Program} {w : World} {K : PySem.W.Frag} {mg : Str → Option Value} {base : Heap}
theorem fn_is_name {fd : FuncData} (hd : Hd K mg) (F : FunD K (Str.ofString "is_name") (Str.ofString "is_name") (defArgs st_is_name) (defBody st_is_name) (defScope st_is_name) [] [] (He.ga K (Str.ofString "is_name")) fd) : FnOk P w K mg base (L2.CX P w) 1 (He.ga K (Str.ofString "is_name")) fd ps_is_name (spPV K (He.ga K) (rDen K (He.ga K)) 1 m_is_name) := by
  obtain ⟨t_MOST_LETTERS, h_MOST_LETTERS⟩ := hd.c_MOST_LETTERS
  obtain ⟨t_LETTERS, h_LETTERS⟩ := hd.c_LETTERS
  refine fn_body (N := 2) (m := b_is_name) (fun len hbody => FunD.ok (CX := L2.CX P w) F fs_is_name len hbody) rfl hm_run fun X E hP hw hK hmg hb hcalm hN hs hfn hr tk hst hpo => ?_
  subst hK
  have c0 : Ct P w X.K mg base N_is_name (defScope st_is_name) T_is_name 0 X (WE0 E) := ⟨⟨hP, hw, rfl, hmg, hb⟩, On.of hcalm hN hs fs_is_name.nd nt_is_name, hN, hs, fs_is_name.nd, rfl, hr, tk⟩
  exact (vss_cons (vs_if (vt_w (vw_or (vt_not (vt_of (VE.r (ve_isi (c0.mg' hd.f_isinstance) (r_var c0.on 0) (pe_ty (c0.mg' hd.f_str) (by decide +kernel) (c0.gl 2)) (.ty _) sbTy_ok (c0.gl 1))))) (vw_or1 (vt_not (vt_chain op_leA h_le op_leA h_le (VE.r ve_int) (VE.r (ve_len (c0.mg' hd.f_len) (r_var c0.on 0) (c0.gl 3))) (VE.r (ve_gint (c0.mg' h_MOST_LETTERS) (c0.gl 4) (c0.on.dbg (j := 4) rfl)))))))) (vss_one (vs_ret ve_bl)) vss_nil)
      (vss_one (vs_ret (ve_all c0.calm (c0.mg' hd.f_all) (VE.r (VN.e (vn_lc c0.on (vi_seq (v_var c0.on 0)) (c0.bo bo_is_name_1) rfl (fun s H C cl fp => have c1 := c0.blk T_is_name_1 nt_is_name_1 rfl s H C cl fp; (vg_name c1.on 0 (by decide))) (fun s H C cl fp => have c1 := c0.blk T_is_name_1 nt_is_name_1 rfl s H C cl fp; vts_nil) (fun s H C cl fp => have c1 := c0.blk T_is_name_1 nt_is_name_1 rfl s H C cl fp; (ve_cmp (op_inA c1.hu) h_in (r_var c1.on 0) (VE.r (ve_gstr (c1.mg' h_LETTERS) (c1.gl 1) (c1.on.dbg (j := 1) rfl)))))))) (c0.gl 5)))))
theorem cal_is_name (hd : Hd K mg) : Cal P w K mg base (He.ga K) 1 1 (Str.ofString "is_name") (rDen K (He.ga K)) fm_is_name (m_is_name) := by
  obtain ⟨fd, F⟩ := hd.d_is_name
  exact ⟨_, fd, ps_is_name, rfl, fn_is_name hd F, hd.g_is_name, F.kp, (List.forall_mem_cons.mpr ⟨bnd0 F 1 [] [0] (fun _ _ _ _ _ _ us ws h1 h2 => match us, ws, h1, h2 with | [_], [], _, _ => rfl), (List.forall_mem_cons.mpr ⟨bnd0 F 0 [(Str.ofString "value")] [0] (fun _ _ _ _ _ _ us ws h1 h2 => match us, ws, h1, h2 with | [], [_], _, _ => rfl), (fun _ h => nomatch h)⟩)⟩)⟩
end
section
variable {P : Program} {w : World} {K : PySem.W.Frag} {mg : Str → Option Value} {base : Heap}
theorem fn_is_integer {fd : FuncData} (hd : Hd K mg) (F : FunD K (Str.ofString "is_integer") (Str.ofString "is_integer") (defArgs st_is_integer) (defBody st_is_integer) (defScope st_is_integer) [] [] (He.ga K (Str.ofString "is_integer")) fd) : FnOk P w K mg base (L2.CX P w) 1 (He.ga K (Str.ofString "is_integer")) fd ps_is_integer (spPV K (He.ga K) (rDen K (He.ga K)) 1 m_is_integer) := by
  refine fn_body (N := 1) (m := b_is_integer) (fun len hbody => FunD.ok (CX := L2.CX P w) F fs_is_integer len hbody) rfl hm_run fun X E hP hw hK hmg hb hcalm hN hs hfn hr tk hst hpo => ?_
  subst hK
  have c0 : Ct P w X.K mg base N_is_integer (defScope st_is_integer) T_is_integer 0 X (WE0 E) := ⟨⟨hP, hw, rfl, hmg, hb⟩, On.of hcalm hN hs fs_is_integer.nd nt_is_integer, hN, hs, fs_is_integer.nd, rfl, hr, tk⟩
  exact (vss_one (vs_ret (ve_and (VE.r (ve_isi (c0.mg' hd.f_isinstance) (r_var c0.on 0) (pe_ty (c0.mg' hd.f_int) (by decide +kernel) (c0.gl 2)) (.ty _) sbTy_ok (c0.gl 1))) (ve_one (ve_not (VE.r (ve_isi (c0.mg' hd.f_isinstance) (r_var c0.on 0) (pe_ty (c0.mg' hd.f_bool) (by decide +kernel) (c0.gl 3)) (.ty _) sbTy_ok (c0.gl 1))))))))
theorem cal_is_integer (hd : Hd K mg) : Cal P w K mg base (He.ga K) 1 1 (Str.ofString "is_integer") (rDen K (He.ga K)) fm_is_integer (m_is_integer) := by
  obtain ⟨fd, F⟩ := hd.d_is_integer
  exact ⟨_, fd, ps_is_integer, rfl, fn_is_integer hd F, hd.g_is_integer, F.kp, (List.forall_mem_cons.mpr ⟨bnd0 F 1 [] [0] (fun _ _ _ _ _ _ us ws h1 h2 => match us, ws, h1, h2 with | [_], [], _, _ => rfl), (fun _ h => nomatch h)⟩)⟩
end
section
variable {P : Program} {w : World} {K : PySem.W.Frag} {mg : Str → Option Value} {base : Heap}
theorem fn_law_bag {fd : FuncData} (hd : Hd K mg) (F : FunD K (Str.ofString "_law_bag") (Str.ofString "_law_bag") (defArgs st_law_bag) (defBody st_law_bag) (defScope st_law_bag) [] [] (He.ga K (Str.ofString "_law_bag")) fd) : FnOk P w K mg base (L2.CX P w) 1 (He.ga K (Str.ofString "_law_bag")) fd ps_law_bag (spPV K (He.ga K) (rOwn K (He.ga K)) 1 m_law_bag) := by
  refine fn_body (N := 3) (m := b_law_bag) (fun len hbody => FunD.ok (CX := L2.CX P w) F fs_law_bag len hbody) rfl hm_runO fun X E hP hw hK hmg hb hcalm hN hs hfn hr tk hst hpo => ?_
  subst hK
  have c0 : Ct P w X.K mg base N_law_bag (defScope st_law_bag) T_law_bag 0 X (WE0 E) := ⟨⟨hP, hw, rfl, hmg, hb⟩, On.of hcalm hN hs fs_law_bag.nd nt_law_bag, hN, hs, fs_law_bag.nd, rfl, hr, tk⟩
  exact (vss_cons (vs_set c0.on 1 ve_int)
      (vss_cons (vs_for (vs := [2]) hpo c0.on (vi_seq (ve_sl (r_var c0.on 0) vp_none (vp_some (VE.r ve_int)))) (vg_name c0.on 2 (by decide)) (vss_one (vs_set c0.on 1 (ve_op op_modN h_mod (VE.r (ve_toint (c0.mg' hd.f_int) (VE.r (ve_op op_addA h_add (VE.r (ve_op op_addA h_add (VE.r (ve_op op_mulW h_mul (r_var c0.on 1) (VE.r ve_int))) (VE.r (ve_op op_mulW h_mul (VE.r (ve_op op_modN h_mod (VE.r (ve_toint (c0.mg' hd.f_int) (r_var c0.on 2) (c0.gl 3))) (VE.r ve_int))) (VE.r ve_int))))) (VE.r ve_int))) (c0.gl 3))) (VE.r ve_int)))))
      (vss_one (vs_retO (vn_lst (va_cons (VN.e (vn_list (c0.mg' hd.f_list) (VE.r (ve_sl (r_var c0.on 0) vp_none (vp_some (VE.r ve_int)))) (c0.gl 4))) (va_cons ve_int (va_cons ve_int (va_cons (v_var c0.on 1) (va_cons ve_int va_nil))))))))))
theorem cal_law_bag (hd : Hd K mg) : Cal P w K mg base (He.ga K) 1 1 (Str.ofString "_law_bag") (rOwn K (He.ga K)) fm_law_bag (m_law_bag) := by
  obtain ⟨fd, F⟩ := hd.d_law_bag
  exact ⟨_, fd, ps_law_bag, rfl, fn_law_bag hd F, hd.g_law_bag, F.kp, (List.forall_mem_cons.mpr ⟨bnd0 F 1 [] [0] (fun _ _ _ _ _ _ us ws h1 h2 => match us, ws, h1, h2 with | [_], [], _, _ => rfl), (fun _ h => nomatch h)⟩)⟩
end
section
variable {P : Program} {w : World} {K : PySem.W.Frag} {mg : Str → Option Value} {base : Heap}
theorem fn_law_draw {fd : FuncData} (hd : Hd K mg) (F : FunD K (Str.ofString "_law_draw") (Str.ofString "_law_draw") (defArgs st_law_draw) (defBody st_law_draw) (defScope st_law_draw) [] [] (He.ga K (Str.ofString "_law_draw")) fd) : FnOk P w K mg base (L2.CX P w) 1 (He.ga K (Str.ofString "_law_draw")) fd ps_law_draw (spPV K (He.ga K) (rDen K (He.ga K)) 2 m_law_draw) := by
  refine fn_body (N := 5) (m := b_law_draw) (fun len hbody => FunD.ok (CX := L2.CX P w) F fs_law_draw len hbody) rfl hm_run fun X E hP hw hK hmg hb hcalm hN hs hfn hr tk hst hpo => ?_
  subst hK
  have c0 : Ct P w X.K mg base N_law_draw (defScope st_law_draw) T_law_draw 0 X (WE0 E) := ⟨⟨hP, hw, rfl, hmg, hb⟩, On.of hcalm hN hs fs_law_draw.nd nt_law_draw, hN, hs, fs_law_draw.nd, rfl, hr, tk⟩
  exact (vss_cons (vs_put c0.on 0 c0.hu (VE.r ve_int) (ve_op op_addA h_add (VE.r (ve_ix c0.hu (r_var c0.on 0) (VE.r ve_int))) (VE.r ve_int)))
      (vss_cons (vs_if (vt_w (vw_and (vt_cmp (op_eqA c0.room.units) h_eq (VE.r (ve_ix c0.hu (r_var c0.on 0) (VE.r ve_int))) (VE.r ve_int)) (vw_and1 (vt_cmp op_ltA h_lt (VE.r (ve_ix c0.hu (r_var c0.on 0) (VE.r ve_int))) (VE.r (ve_len (c0.mg' hd.f_len) (VE.r (ve_ix c0.hu (r_var c0.on 0) (VE.r ve_int))) (c0.gl 5))))))) (vss_cons (vs_set c0.on 2 (ve_ix c0.hu (VE.r (ve_ix c0.hu (r_var c0.on 0) (VE.r ve_int))) (VE.r (ve_ix c0.hu (r_var c0.on 0) (VE.r ve_int)))))
      (vss_cons (vs_put c0.on 0 c0.hu (VE.r ve_int) (ve_op op_addA h_add (VE.r (ve_ix c0.hu (r_var c0.on 0) (VE.r ve_int))) (VE.r ve_int)))
      (vss_one (vs_if (vt_cmp op_geA h_ge (r_var c0.on 2) (VE.r (ve_op op_pow h_pow (VE.r ve_int) (VE.r ve_int)))) (vss_one (vs_put c0.on 0 c0.hu (VE.r ve_int) (v_var c0.on 2))) (vss_one (vs_put c0.on 0 c0.hu (VE.r ve_int) (ve_op op_modN h_mod (VE.r (ve_toint (c0.mg' hd.f_int) (VE.r (ve_op op_addA h_add (VE.r (ve_op op_addA h_add (VE.r (ve_op op_mulW h_mul (VE.r (ve_ix c0.hu (r_var c0.on 0) (VE.r ve_int))) (VE.r ve_int))) (VE.r (ve_op op_mulW h_mul (VE.r (ve_op op_modN h_mod (VE.r (ve_toint (c0.mg' hd.f_int) (r_var c0.on 2) (c0.gl 6))) (VE.r ve_int))) (VE.r ve_int))))) (VE.r ve_int))) (c0.gl 6))) (VE.r ve_int)))))))) vss_nil)
      (vss_cons (vs_if (vt_cmp op_gtA h_gt (VE.r (ve_ix c0.hu (r_var c0.on 0) (VE.r ve_int))) (VE.r ve_int)) (vss_cons (vs_set c0.on 3 (ve_op op_modN h_mod (VE.r (ve_toint (c0.mg' hd.f_int) (VE.r (ve_ix c0.hu (r_var c0.on 0) (VE.r ve_int))) (c0.gl 6))) (r_var c0.on 1)))
      (vss_cons (vs_put c0.on 0 c0.hu (VE.r ve_int) (ve_op op_fdivA h_fdiv (VE.r (ve_ix c0.hu (r_var c0.on 0) (VE.r ve_int))) (r_var c0.on 1)))
      (vss_one (vs_ret (v_var c0.on 3))))) vss_nil)
      (vss_cons (vs_set c0.on 4 (ve_op op_modN h_mod (VE.r (ve_toint (c0.mg' hd.f_int) (VE.r (ve_op op_addA h_add (VE.r (ve_op op_mulW h_mul (VE.r (ve_ix c0.hu (r_var c0.on 0) (VE.r ve_int))) (VE.r (ve_ix c0.hu (r_var c0.on 0) (VE.r ve_int))))) (VE.r (ve_op op_mulW h_mul (VE.r (ve_ix c0.hu (r_var c0.on 0) (VE.r ve_int))) (VE.r ve_int))))) (c0.gl 6))) (VE.r ve_int)))
      (vss_cons (vs_put c0.on 0 c0.hu (VE.r ve_int) (ve_op op_modN h_mod (VE.r (ve_toint (c0.mg' hd.f_int) (VE.r (ve_op op_addA h_add (VE.r (ve_op op_addA h_add (VE.r (ve_op op_mulW h_mul (r_var c0.on 4) (VE.r ve_int))) (VE.r (ve_op op_mulW h_mul (VE.r (ve_ix c0.hu (r_var c0.on 0) (VE.r ve_int))) (VE.r ve_int))))) (VE.r ve_int))) (c0.gl 6))) (VE.r ve_int)))
      (vss_one (vs_ret (ve_op op_modN h_mod (VE.r (ve_toint (c0.mg' hd.f_int) (VE.r (ve_op op_fdivA h_fdiv (VE.r (ve_ix c0.hu (r_var c0.on 0) (VE.r ve_int))) (VE.r ve_int))) (c0.gl 6))) (r_var c0.on 1)))))))))
theorem cal_law_draw (hd : Hd K mg) : Cal P w K mg base (He.ga K) 1 2 (Str.ofString "_law_draw") (rDen K (He.ga K)) fm_law_draw (m_law_draw) := by
  obtain ⟨fd, F⟩ := hd.d_law_draw
  exact ⟨_, fd, ps_law_draw, rfl, fn_law_draw hd F, hd.g_law_draw, F.kp, (List.forall_mem_cons.mpr ⟨bnd0 F 2 [] [0, 1] (fun _ _ _ _ _ _ us ws h1 h2 => match us, ws, h1, h2 with | [_, _], [], _, _ => rfl), (fun _ h => nomatch h)⟩)⟩
end
section
variable {P : Program} {w : World} {K : PySem.W.Frag} {mg : Str → Option Value} {base : Heap}
theorem cal_law_same (hd : Hd K mg) : ∀ n, Cal P w K mg base (He.ga K) (0 + n) 2 (Str.ofString "_law_same") (rDen K (He.ga K)) fm_law_same (m_law_same n)
  | 0 => by
    obtain ⟨fd, F⟩ := hd.d_law_same
    exact ⟨_, fd, ps_law_same, rfl, ⟨fun _ _ _ _ h => h.1, fun _ _ _ _ _ _ _ _ _ _ _ _ _ h => False.elim (by obtain ⟨_, c, ds, _, _, p⟩ := h; exact p)⟩, hd.g_law_same, F.kp, (List.forall_mem_cons.mpr ⟨bnd0 F 2 [] [0, 1] (fun _ _ _ _ _ _ us ws h1 h2 => match us, ws, h1, h2 with | [_, _], [], _, _ => rfl), (fun _ h => nomatch h)⟩)⟩
  | n + 1 => by
    have ih := cal_law_same hd n
    obtain ⟨fd, F⟩ := hd.d_law_same
    refine ⟨_, fd, ps_law_same, rfl, ?_, hd.g_law_same, F.kp, (List.forall_mem_cons.mpr ⟨bnd0 F 2 [] [0, 1] (fun _ _ _ _ _ _ us ws h1 h2 => match us, ws, h1, h2 with | [_, _], [], _, _ => rfl), (fun _ h => nomatch h)⟩)⟩
    refine fn_body (N := 4) (m := b_law_same (m_law_same n)) (k := 0 + n) (fun len hbody => FunD.ok (CX := L2.CX P w) F fs_law_same len hbody) rfl hm_run fun X E hP hw hK hmg hb hcalm hN hs hfn hr tk hst hpo => ?_
    subst hK
    have c0 : Ct P w X.K mg base N_law_same (defScope st_law_same) T_law_same (0 + n) X (WE0 E) := ⟨⟨hP, hw, rfl, hmg, hb⟩, On.of hcalm hN hs fs_law_same.nd nt_law_same, hN, hs, fs_law_same.nd, rfl, hr, tk⟩
    exact (vss_cons (vs_if (vt_of (VE.r (ve_isiT (c0.mg' hd.f_isinstance) (r_var c0.on 1) (.cons (pe_ty (c0.mg' hd.f_list) (by decide +kernel) (c0.gl 3)) (.ty _) sbTy_ok rfl (.cons (pe_ty (c0.mg' hd.f_tuple) (by decide +kernel) (c0.gl 4)) (.ty _) sbTy_ok rfl .nil)) (by decide) (c0.gl 2)))) (vss_cons (vs_if (vt_w (vw_or (vt_cmp (op_neA c0.room.units) h_ne (VE.r (ve_isi (c0.mg' hd.f_isinstance) (r_var c0.on 0) (pe_ty (c0.mg' hd.f_list) (by decide +kernel) (c0.gl 3)) (.ty _) sbTy_ok (c0.gl 2))) (VE.r (ve_isi (c0.mg' hd.f_isinstance) (r_var c0.on 1) (pe_ty (c0.mg' hd.f_list) (by decide +kernel) (c0.gl 3)) (.ty _) sbTy_ok (c0.gl 2)))) (vw_or1 (vt_cmp (op_neA c0.room.units) h_ne (VE.r (ve_isi (c0.mg' hd.f_isinstance) (r_var c0.on 0) (pe_ty (c0.mg' hd.f_tuple) (by decide +kernel) (c0.gl 4)) (.ty _) sbTy_ok (c0.gl 2))) (VE.r (ve_isi (c0.mg' hd.f_isinstance) (r_var c0.on 1) (pe_ty (c0.mg' hd.f_tuple) (by decide +kernel) (c0.gl 4)) (.ty _) sbTy_ok (c0.gl 2))))))) (vss_one (vs_ret ve_bl)) vss_nil)
      (vss_one (vs_ret (ve_and (VE.r (ve_cmp (op_eqA c0.room.units) h_eq (VE.r (ve_len (c0.mg' hd.f_len) (r_var c0.on 0) (c0.gl 5))) (VE.r (ve_len (c0.mg' hd.f_len) (r_var c0.on 1) (c0.gl 5))))) (ve_one (ve_all c0.calm (c0.mg' hd.f_all) (VE.r (VN.e (vn_lc c0.on (vi_zip (c0.mg' hd.f_zip) (v_var c0.on 0) (v_var c0.on 1) (c0.gl 7)) (c0.bo bo_law_same_1) rfl (fun s H C cl fp => have c1 := c0.blk T_law_same_1 nt_law_same_1 rfl s H C cl fp; (vg_tup c1.on (vgs_cons (vg_name c1.on 0 (by decide)) (vgs_cons (vg_name c1.on 1 (by decide)) vgs_nil)))) (fun s H C cl fp => have c1 := c0.blk T_law_same_1 nt_law_same_1 rfl s H C cl fp; vts_nil) (fun s H C cl fp => have c1 := c0.blk T_law_same_1 nt_law_same_1 rfl s H C cl fp; (ve_call c1 ih (by omega) 2 (.head _) (va_cons (v_var c1.on 0) (va_cons (v_var c1.on 1) va_nil)) vk_nil))))) (c0.gl 6))))))) vss_nil)
      (vss_cons (vs_if (vt_w (vw_or (vt_isN (r_var c0.on 1)) (vw_or1 (vt_isN (r_var c0.on 0))))) (vss_one (vs_ret (ve_and (VE.r (ve_isN (r_var c0.on 1))) (ve_one (ve_isN (r_var c0.on 0)))))) vss_nil)
      (vss_cons (vs_if (vt_w (vw_or (vt_cmp (op_neA c0.room.units) h_ne (VE.r (ve_isi (c0.mg' hd.f_isinstance) (r_var c0.on 0) (pe_ty (c0.mg' hd.f_bool) (by decide +kernel) (c0.gl 8)) (.ty _) sbTy_ok (c0.gl 2))) (VE.r (ve_isi (c0.mg' hd.f_isinstance) (r_var c0.on 1) (pe_ty (c0.mg' hd.f_bool) (by decide +kernel) (c0.gl 8)) (.ty _) sbTy_ok (c0.gl 2)))) (vw_or1 (vt_cmp (op_neA c0.room.units) h_ne (VE.r (ve_isi (c0.mg' hd.f_isinstance) (r_var c0.on 0) (pe_ty (c0.mg' hd.f_int) (by decide +kernel) (c0.gl 9)) (.ty _) sbTy_ok (c0.gl 2))) (VE.r (ve_isi (c0.mg' hd.f_isinstance) (r_var c0.on 1) (pe_ty (c0.mg' hd.f_int) (by decide +kernel) (c0.gl 9)) (.ty _) sbTy_ok (c0.gl 2))))))) (vss_one (vs_ret ve_bl)) vss_nil)
      (vss_one (vs_ret (ve_and (VE.r (ve_cmp (op_eqA c0.room.units) h_eq (VE.r (ve_isi (c0.mg' hd.f_isinstance) (r_var c0.on 0) (pe_ty (c0.mg' hd.f_str) (by decide +kernel) (c0.gl 10)) (.ty _) sbTy_ok (c0.gl 2))) (VE.r (ve_isi (c0.mg' hd.f_isinstance) (r_var c0.on 1) (pe_ty (c0.mg' hd.f_str) (by decide +kernel) (c0.gl 10)) (.ty _) sbTy_ok (c0.gl 2))))) (ve_one (ve_cmp (op_eqA c0.room.units) h_eq (r_var c0.on 0) (r_var c0.on 1)))))))))
end
section
variable {P : Program} {w : World} {K : PySem.W.Frag} {mg : Str → Option Value} {base : Heap}
theorem fn_is_number {fd : FuncData} (hd : Hd K mg) (F : FunD K (Str.ofString "is_number") (Str.ofString "is_number") (defArgs st_is_number) (defBody st_is_number) (defScope st_is_number) [] [] (He.ga K (Str.ofString "is_number")) fd) : FnOk P w K mg base (L2.CX P w) 2 (He.ga K (Str.ofString "is_number")) fd ps_is_number (spPV K (He.ga K) (rDen K (He.ga K)) 2 m_is_number) := by
  refine fn_body (N := 2) (m := b_is_number) (fun len hbody => FunD.ok (CX := L2.CX P w) F fs_is_number len hbody) rfl hm_run fun X E hP hw hK hmg hb hcalm hN hs hfn hr tk hst hpo => ?_
  subst hK
  have c0 : Ct P w X.K mg base N_is_number (defScope st_is_number) T_is_number 1 X (WE0 E) := ⟨⟨hP, hw, rfl, hmg, hb⟩, On.of hcalm hN hs fs_is_number.nd nt_is_number, hN, hs, fs_is_number.nd, rfl, hr, tk⟩
  exact (vss_one (vs_ret (ve_and (VE.r (ve_call c0 (cal_is_integer hd) (by decide) 2 (.head _) (va_cons (v_var c0.on 0) va_nil) vk_nil)) (ve_one (ve_cmp op_geA h_ge (r_var c0.on 0) (r_var c0.on 1))))))
theorem cal_is_number (hd : Hd K mg) : Cal P w K mg base (He.ga K) 2 2 (Str.ofString "is_number") (rDen K (He.ga K)) fm_is_number (m_is_number) := by
  obtain ⟨fd, F⟩ := hd.d_is_number
  exact ⟨_, fd, ps_is_number, rfl, fn_is_number hd F, hd.g_is_number, F.kp, (List.forall_mem_cons.mpr ⟨bnd0 F 2 [] [0, 1] (fun _ _ _ _ _ _ us ws h1 h2 => match us, ws, h1, h2 with | [_, _], [], _, _ => rfl), (List.forall_mem_cons.mpr ⟨bnd0 F 0 [(Str.ofString "least"), (Str.ofString "value")] [1, 0] (fun _ _ _ _ _ _ us ws h1 h2 => match us, ws, h1, h2 with | [], [_, _], _, _ => rfl), (fun _ h => nomatch h)⟩)⟩)⟩
end
section
variable {P : Program} {w : World} {K : PySem.W.Frag} {mg : Str → Option Value} {base : Heap}
theorem fn_law_of {fd : FuncData} (hd : Hd K mg) (F : FunD K (Str.ofString "_law_of") (Str.ofString "_law_of") (defArgs st_law_of) (defBody st_law_of) (defScope st_law_of) [] [] (He.ga K (Str.ofString "_law_of")) fd) : FnOk P w K mg base (L2.CX P w) 2 (He.ga K (Str.ofString "_law_of")) fd ps_law_of (spPV K (He.ga K) (rDen K (He.ga K)) 2 m_law_of) := by
  refine fn_body (N := 2) (m := b_law_of) (fun len hbody => FunD.ok (CX := L2.CX P w) F fs_law_of len hbody) rfl hm_run fun X E hP hw hK hmg hb hcalm hN hs hfn hr tk hst hpo => ?_
  subst hK
  have c0 : Ct P w X.K mg base N_law_of (defScope st_law_of) T_law_of 1 X (WE0 E) := ⟨⟨hP, hw, rfl, hmg, hb⟩, On.of hcalm hN hs fs_law_of.nd nt_law_of, hN, hs, fs_law_of.nd, rfl, hr, tk⟩
  exact (vss_one (vs_ret (ve_ix c0.hu (r_var c0.on 1) (VE.r (ve_call c0 (cal_law_draw hd) (by decide) 2 (.head _) (va_cons (v_var c0.on 0) (va_cons (ve_len (c0.mg' hd.f_len) (r_var c0.on 1) (c0.gl 3)) va_nil)) vk_nil)))))
theorem cal_law_of (hd : Hd K mg) : Cal P w K mg base (He.ga K) 2 2 (Str.ofString "_law_of") (rDen K (He.ga K)) fm_law_of (m_law_of) := by
  obtain ⟨fd, F⟩ := hd.d_law_of
  exact ⟨_, fd, ps_law_of, rfl, fn_law_of hd F, hd.g_law_of, F.kp, (List.forall_mem_cons.mpr ⟨bnd0 F 2 [] [0, 1] (fun _ _ _ _ _ _ us ws h1 h2 => match us, ws, h1, h2 with | [_, _], [], _, _ => rfl), (fun _ h => nomatch h)⟩)⟩
end
section
variable {P : Program} {w : World} {K : PySem.W.Frag} {mg : Str → Option Value} {base : Heap}
theorem fn_law {fd : FuncData} (hd : Hd K mg) (F : FunD K (Str.ofString "law") (Str.ofString "law") (defArgs st_law) (defBody st_law) (defScope st_law) [] [] (He.ga K (Str.ofString "law")) fd) : FnOk P w K mg base (L2.CX P w) 14 (He.ga K (Str.ofString "law")) fd ps_law (spPV K (He.ga K) (rDen K (He.ga K)) 1 m_law) := by
  refine fn_body (N := 11) (m := b_law) (fun len hbody => FunD.ok (CX := L2.CX P w) F fs_law len hbody) rfl hm_run fun X E hP hw hK hmg hb hcalm hN hs hfn hr tk hst hpo => ?_
  subst hK
  have c0 : Ct P w X.K mg base N_law (defScope st_law) T_law 13 X (WE0 E) := ⟨⟨hP, hw, rfl, hmg, hb⟩, On.of hcalm hN hs fs_law.nd nt_law, hN, hs, fs_law.nd, rfl, hr, tk⟩
  exact (vss_cons (vs_setO c0.on 1 (vn_call c0 (cal_law_bag hd) (by decide) 10 (.head _) (va_cons (v_var c0.on 0) va_nil) vk_nil) (hf := .inl (hfn _)))
      (vss_sto 1 (vss_cons (vs_for (vs := [2]) hpo c0.on (vi_range1 (c0.mg' hd.f_range) (VE.r ve_int) (c0.gl 11)) (vg_name c0.on 2 (by decide)) (vss_cons (vs_set c0.on 3 (ve_join (VE.r ve_str) (VE.r (VN.e (vn_lc c0.on (vi_range1 (c0.mg' hd.f_range) (VE.r (ve_call c0 (cal_law_draw hd) (by decide) 12 (.head _) (va_cons (v_var c0.on 1) (va_cons ve_int va_nil)) vk_nil)) (c0.gl 11)) (c0.bo bo_law_1) rfl (fun s H C cl fp => have c1 := c0.blk T_law_1 nt_law_1 rfl s H C cl fp; (vg_name c1.on 0 (by decide))) (fun s H C cl fp => have c1 := c0.blk T_law_1 nt_law_1 rfl s H C cl fp; vts_nil) (fun s H C cl fp => have c1 := c0.blk T_law_1 nt_law_1 rfl s H C cl fp; (ve_call c1 (cal_law_of hd) (by decide) 1 (.head _) (va_cons (v_var c1.on 2) (va_cons ve_str va_nil)) vk_nil)))))))
      (vss_cons (vs_set c0.on 4 (ve_call c0 (cal_law_draw hd) (by decide) 12 (.head _) (va_cons (v_var c0.on 1) (va_cons (ve_op op_addA h_add (VE.r (ve_len (c0.mg' hd.f_len) (r_var c0.on 3) (c0.gl 13))) (VE.r ve_int)) va_nil)) vk_nil))
      (vss_cons (vs_set c0.on 5 (ve_op op_addA h_add (VE.r (ve_op op_addA h_add (VE.r (ve_sl (r_var c0.on 3) vp_none (vp_some (r_var c0.on 4)))) (VE.r (ve_call c0 (cal_law_of hd) (by decide) 14 (.head _) (va_cons (v_var c0.on 1) (va_cons (VN.e (vn_lst (va_cons ve_str (va_cons ve_str (va_cons ve_str (va_cons ve_str (va_cons ve_str (va_cons ve_str (va_cons ve_str va_nil))))))))) va_nil)) vk_nil)))) (VE.r (ve_sl (r_var c0.on 3) (vp_some (r_var c0.on 4)) vp_none))))
      (vss_cons (vs_set c0.on 6 (VN.e (vn_lst (va_cons (ve_call c0 (cal_is_name hd) (by decide) 15 (.head _) (va_cons (v_var c0.on 3) va_nil) vk_nil) (va_cons (ve_call c0 (cal_is_name hd) (by decide) 15 (.head _) (va_cons (v_var c0.on 5) va_nil) vk_nil) (va_cons (ve_call0 c0 (cal_is_name hd) (by decide) 15 (.tail _ (.head _)) (vk_cons (v_var c0.on 3) vk_nil)) (va_cons (ve_call c0 (cal_is_name hd) (by decide) 15 (.head _) (va_cons (ve_op op_addA h_add (r_var c0.on 3) (VE.r ve_str)) va_nil) vk_nil) va_nil)))))))
      (vss_cons (vs_if (vt_not (vt_of (VE.r (ve_call c0 (cal_law_same hd 12) (by decide) 16 (.head _) (va_cons (v_var c0.on 6) (va_cons (VN.e (vn_lst (va_cons (ve_chain op_leA h_le op_leA h_le (VE.r ve_int) (VE.r (ve_len (c0.mg' hd.f_len) (r_var c0.on 3) (c0.gl 13))) (VE.r ve_int)) (va_cons ve_bl (va_cons (ve_chain op_leA h_le op_leA h_le (VE.r ve_int) (VE.r (ve_len (c0.mg' hd.f_len) (r_var c0.on 3) (c0.gl 13))) (VE.r ve_int)) (va_cons ve_bl va_nil)))))) va_nil)) vk_nil)))) (vss_one (vs_ret ve_bl)) vss_nil)
      (vss_cons (ps_parV c0.on 7 8 (vnv_v (ve_op op_sub h_sub (VE.r (ve_call c0 (cal_law_draw hd) (by decide) 12 (.head _) (va_cons (v_var c0.on 1) (va_cons ve_int va_nil)) vk_nil)) (VE.r ve_int))) (vnv_v (ve_op op_sub h_sub (VE.r (ve_call c0 (cal_law_draw hd) (by decide) 12 (.head _) (va_cons (v_var c0.on 1) (va_cons ve_int va_nil)) vk_nil)) (VE.r ve_int))) (hw := c0.sw rfl))
      (vss_cons (vs_set c0.on 6 (VN.e (vn_lst (va_cons (ve_call c0 (cal_is_number hd) (by decide) 17 (.head _) (va_cons (v_var c0.on 7) (va_cons (v_var c0.on 8) va_nil)) vk_nil) (va_cons (ve_call0 c0 (cal_is_number hd) (by decide) 17 (.tail _ (.head _)) (vk_cons (v_var c0.on 8) (vk_cons (v_var c0.on 8) vk_nil))) (va_cons (ve_call c0 (cal_is_number hd) (by decide) 17 (.head _) (va_cons (ve_op op_sub h_sub (r_var c0.on 8) (VE.r ve_int)) (va_cons (v_var c0.on 8) va_nil)) vk_nil) va_nil))))))
      (vss_cons (vs_if (vt_not (vt_of (VE.r (ve_call c0 (cal_law_same hd 12) (by decide) 16 (.head _) (va_cons (v_var c0.on 6) (va_cons (VN.e (vn_lst (va_cons (ve_cmp op_geA h_ge (r_var c0.on 7) (r_var c0.on 8)) (va_cons ve_bl (va_cons ve_bl va_nil))))) va_nil)) vk_nil)))) (vss_one (vs_ret ve_bl)) vss_nil)
      (vss_cons (vs_set c0.on 9 (ve_call c0 (cal_law_of hd) (by decide) 14 (.head _) (va_cons (v_var c0.on 1) (va_cons (VN.e (vn_lst (va_cons ve_non (va_cons ve_bl (va_cons ve_bl (va_cons ve_str (va_cons (VN.e (vn_lst (va_cons ve_int va_nil))) (va_cons (ve_tup (va_cons ve_int va_nil)) (va_cons ve_str (va_cons ve_str va_nil)))))))))) va_nil)) vk_nil))
      (vss_cons (vs_if (vt_not (vt_of (VE.r (ve_call c0 (cal_law_same hd 12) (by decide) 16 (.head _) (va_cons (VN.e (vn_lst (va_cons (ve_call c0 (cal_is_number hd) (by decide) 17 (.head _) (va_cons (v_var c0.on 9) (va_cons ve_int va_nil)) vk_nil) (va_cons (ve_call c0 (cal_is_number hd) (by decide) 17 (.head _) (va_cons (v_var c0.on 9) (va_cons (ve_neg (VE.r ve_int)) va_nil)) vk_nil) va_nil)))) (va_cons (VN.e (vn_lst (va_cons ve_bl (va_cons ve_bl va_nil)))) va_nil)) vk_nil)))) (vss_one (vs_ret ve_bl)) vss_nil)
      (vss_one (vs_if (vt_not (vt_of (VE.r (ve_call c0 (cal_law_same hd 12) (by decide) 16 (.head _) (va_cons (ve_call c0 (cal_is_name hd) (by decide) 15 (.head _) (va_cons (ve_call c0 (cal_law_of hd) (by decide) 14 (.head _) (va_cons (v_var c0.on 1) (va_cons (VN.e (vn_lst (va_cons ve_non (va_cons ve_bl (va_cons ve_int (va_cons (VN.e (vn_lst (va_cons ve_str va_nil))) (va_cons (ve_tup (va_cons ve_str va_nil)) (va_cons ve_str (va_cons ve_str va_nil))))))))) va_nil)) vk_nil) va_nil) vk_nil) (va_cons ve_bl va_nil)) vk_nil)))) (vss_one (vs_ret ve_bl)) vss_nil)))))))))))))
      (vss_one (vs_ret (ve_and (VE.r (ve_call c0 (cal_is_name hd) (by decide) 15 (.head _) (va_cons ve_str va_nil) vk_nil)) (ve_and (VE.r (ve_call c0 (cal_is_number hd) (by decide) 17 (.head _) (va_cons (ve_op op_pow h_pow (VE.r ve_int) (VE.r ve_int)) (va_cons ve_int va_nil)) vk_nil)) (ve_one (ve_call c0 (cal_is_number hd) (by decide) 17 (.head _) (va_cons ve_int (va_cons ve_int va_nil)) vk_nil)))))))))
theorem cal_law (hd : Hd K mg) : Cal P w K mg base (He.ga K) 14 1 (Str.ofString "law") (rDen K (He.ga K)) fm_law (m_law) := by
  obtain ⟨fd, F⟩ := hd.d_law
  exact ⟨_, fd, ps_law, rfl, fn_law hd F, hd.g_law, F.kp, (fun _ h => nomatch h)⟩
end
end PV.LW
end

section
namespace PV.LW
open PySem PySem.Spec L2
open PyProof.Rows hiding St
def dd_is_name : He.DefD := ⟨((Str.ofString "is_name"), none), (Str.ofString "is_name"), (Str.ofString "is_name"), defArgs st_is_name, defBody st_is_name, defScope st_is_name, [], []⟩
def dd_is_integer : He.DefD := ⟨((Str.ofString "is_integer"), none), (Str.ofString "is_integer"), (Str.ofString "is_integer"), defArgs st_is_integer, defBody st_is_integer, defScope st_is_integer, [], []⟩
def dd_is_number : He.DefD := ⟨((Str.ofString "is_number"), none), (Str.ofString "is_number"), (Str.ofString "is_number"), defArgs st_is_number, defBody st_is_number, defScope st_is_number, [], []⟩
def dd_law_bag : He.DefD := ⟨((Str.ofString "_law_bag"), none), (Str.ofString "_law_bag"), (Str.ofString "_law_bag"), defArgs st_law_bag, defBody st_law_bag, defScope st_law_bag, [], []⟩
def dd_law_draw : He.DefD := ⟨((Str.ofString "_law_draw"), none), (Str.ofString "_law_draw"), (Str.ofString "_law_draw"), defArgs st_law_draw, defBody st_law_draw, defScope st_law_draw, [], []⟩
def dd_law_of : He.DefD := ⟨((Str.ofString "_law_of"), none), (Str.ofString "_law_of"), (Str.ofString "_law_of"), defArgs st_law_of, defBody st_law_of, defScope st_law_of, [], []⟩
def dd_law_same : He.DefD := ⟨((Str.ofString "_law_same"), none), (Str.ofString "_law_same"), (Str.ofString "_law_same"), defArgs st_law_same, defBody st_law_same, defScope st_law_same, [], []⟩
def dd_law : He.DefD := ⟨((Str.ofString "law"), none), (Str.ofString "law"), (Str.ofString "law"), defArgs st_law, defBody st_law, defScope st_law, [], []⟩
def hfn : List He.DefD := [dd_is_name, dd_is_integer, dd_is_number, dd_law_bag, dd_law_draw, dd_law_of, dd_law_same, dd_law]
def hfa : List He.Fa := [.glo (Str.ofString "is_name"), .glo (Str.ofString "is_integer"), .glo (Str.ofString "is_number"), .glo (Str.ofString "_law_bag"), .glo (Str.ofString "_law_draw"), .glo (Str.ofString "_law_of"), .glo (Str.ofString "_law_same"), .glo (Str.ofString "law"), .free (Str.ofString "all"), .free (Str.ofString "bool"), .free (Str.ofString "int"), .free (Str.ofString "isinstance"), .free (Str.ofString "len"), .free (Str.ofString "list"), .free (Str.ofString "range"), .free (Str.ofString "str"), .free (Str.ofString "tuple"), .free (Str.ofString "zip"), .str (Str.ofString "LETTERS") (Str.ofString "abcdefghijklmnopqrstuvwxyz"), .int (Str.ofString "MOST_LETTERS") 6]
abbrev loose : List Str := ([(Str.ofString "__name__"), (Str.ofString "LETTERS"), (Str.ofString "MOST_LETTERS"), (Str.ofString "is_name"), (Str.ofString "is_integer"), (Str.ofString "is_number"), (Str.ofString "_law_bag"), (Str.ofString "_law_draw"), (Str.ofString "_law_of"), (Str.ofString "_law_same")] : List Str)
abbrev R : PySem.W.OpenRow := PySem.W.OpenLaw.row PySem.Challenge.rw_forkmeet_k02_names_and_numbers
abbrev hk : PySem.W.Hook := He.hookD 4 hfa hfn
def ob (s : PySem.W.SharedT) : He.AlD := He.obsDG 4 hfa hfn (HandSHeadRun.getT s)
theorem ob_eq (s : PySem.W.SharedT) : ob s = hk.obs s.abs := He.obsDG_eq (HandSHeadRun.getT_eq s)
theorem run (w : World) : HandSHeadRun.RunEq R (PySem.W.view R.prog [11]) hk ob 4000 loose w := by
  intro os
  kernel_rfl
theorem facts {K : PySem.W.Frag} {h : Heap} {mg : Str → Option Value} (X : K.In h) (G : h.Ns mainGlobals mg) (c : He.SaysD hfa hfn K) : Hd K mg where
  d_is_name := c.def_ 0 (d := dd_is_name) rfl
  g_is_name := He.glo_ok X G (c.fact 0 (f := .glo (Str.ofString "is_name")) rfl)
  d_is_integer := c.def_ 1 (d := dd_is_integer) rfl
  g_is_integer := He.glo_ok X G (c.fact 1 (f := .glo (Str.ofString "is_integer")) rfl)
  d_is_number := c.def_ 2 (d := dd_is_number) rfl
  g_is_number := He.glo_ok X G (c.fact 2 (f := .glo (Str.ofString "is_number")) rfl)
  d_law_bag := c.def_ 3 (d := dd_law_bag) rfl
  g_law_bag := He.glo_ok X G (c.fact 3 (f := .glo (Str.ofString "_law_bag")) rfl)
  d_law_draw := c.def_ 4 (d := dd_law_draw) rfl
  g_law_draw := He.glo_ok X G (c.fact 4 (f := .glo (Str.ofString "_law_draw")) rfl)
  d_law_of := c.def_ 5 (d := dd_law_of) rfl
  g_law_of := He.glo_ok X G (c.fact 5 (f := .glo (Str.ofString "_law_of")) rfl)
  d_law_same := c.def_ 6 (d := dd_law_same) rfl
  g_law_same := He.glo_ok X G (c.fact 6 (f := .glo (Str.ofString "_law_same")) rfl)
  d_law := c.def_ 7 (d := dd_law) rfl
  g_law := He.glo_ok X G (c.fact 7 (f := .glo (Str.ofString "law")) rfl)
  f_all := He.free_ok X G (c.fact 8 (f := .free (Str.ofString "all")) rfl)
  f_bool := He.free_ok X G (c.fact 9 (f := .free (Str.ofString "bool")) rfl)
  f_int := He.free_ok X G (c.fact 10 (f := .free (Str.ofString "int")) rfl)
  f_isinstance := He.free_ok X G (c.fact 11 (f := .free (Str.ofString "isinstance")) rfl)
  f_len := He.free_ok X G (c.fact 12 (f := .free (Str.ofString "len")) rfl)
  f_list := He.free_ok X G (c.fact 13 (f := .free (Str.ofString "list")) rfl)
  f_range := He.free_ok X G (c.fact 14 (f := .free (Str.ofString "range")) rfl)
  f_str := He.free_ok X G (c.fact 15 (f := .free (Str.ofString "str")) rfl)
  f_tuple := He.free_ok X G (c.fact 16 (f := .free (Str.ofString "tuple")) rfl)
  f_zip := He.free_ok X G (c.fact 17 (f := .free (Str.ofString "zip")) rfl)
  c_LETTERS := He.str_ok X G (c.fact 18 (f := .str (Str.ofString "LETTERS") (Str.ofString "abcdefghijklmnopqrstuvwxyz")) rfl)
  c_MOST_LETTERS := He.int_ok X G (c.fact 19 (f := .int (Str.ofString "MOST_LETTERS") 6) rfl)
end PV.LW
end

section
namespace PV.LW
open PySem PySem.Spec L2
open PyProof.Rows hiding St
local macro_rules | `(tactic| simp_all! [$ls,*]) => `(tactic| simp -dsimp (disch := first | assumption | omega | (simp only [List.length_cons, List.length_nil]; omega) | decide) only [s_brT, s_brF, s_pure, s_Mpure, s_bind, s_if, s_raise, s_getV0, s_getR0, s_getO0, s_getV, s_getR, s_seq, s_nil, s_set, s_setO, s_ret, s_drop, s_sif, s_par, s_slotT, s_slotF, s_add, s_sub, s_lt, s_le, s_gt, s_ge, s_toint, s_tointB, s_asB, s_notD, s_negD, s_absD, s_trB, s_trI, s_trL, s_trTu, s_trN, s_asI, s_asS, s_eqI, s_neI, s_eqB, s_neB, s_eqS, s_neS, s_ltS, s_leS, s_lenL, s_lenT, s_lenD, s_lenS, s_addS, s_addL, s_catL, s_mul, s_mod, s_fdiv, s_lst0, s_lst, s_tup, s_listL, s_listT, s_slL, s_slLL, s_slS, s_seqL, s_seqT, s_seqS, s_rng1, s_zip, s_enum, s_atM, s_inS, s_c1, s_c2, s_c3, s_c4, s_c5, s_k1, s_k2, s_k2', s_p1k1, s_isiAny1, s_isiAny0, s_iNI, s_iNS, s_iNB, s_iNL, s_iNT, s_iND, s_iBI, s_iBS, s_iBB, s_iBL, s_iBT, s_iBD, s_iII, s_iIS, s_iIB, s_iIL, s_iIT, s_iID, s_iSI, s_iSS, s_iSB, s_iSL, s_iST, s_iSD, s_iLI, s_iLS, s_iLB, s_iLL, s_iLT, s_iLD, s_iTI, s_iTS, s_iTB, s_iTL, s_iTT, s_iTD, s_iDI, s_iDS, s_iDB, s_iDL, s_iDT, s_iDD, wipeE, e1, e2, eNil, eCons, kI, kS, kB, kN, tCmp, tChn, eChn, tNot, tAnd, tOr, eAnd, eOr, eIf, eIsi, eIsiT, eIsN, eNotN, tIsN, tNotN, eJoin, eSl, pN, eCal, eCal0, tYesM, isNonB, List.set_cons_zero, List.set_cons_succ, List.length_cons, List.length_nil, List.map_cons, List.map_nil, List.isEmpty_cons, List.isEmpty_nil, Bool.not_true, Bool.not_false, decide_true, decide_false, and_self, true_and, and_true, Int.reduceAdd, Int.reduceSub, Int.reduceMul, Int.reduceNeg, Int.reduceLE, Int.reduceLT, Int.reduceEq, Int.reduceNe, Int.reduceToNat, Int.reducePow, Nat.reduceAdd, Nat.reduceSub, Nat.reduceMul, Nat.reduceLeDiff, Nat.reduceLT, Nat.reduceEqDiff, Int.le_refl, Int.reduceBNe, Nat.reduceBNe, $ls,*])
local macro_rules | `(tactic| trivial) => `(tactic| (simp only [gNm, gTp, gsCons, gsNil, wipeE, Option.bind, List.set_cons_zero, List.set_cons_succ, List.length_cons, List.length_nil, if_true]; exact rfl))
section
variable {s : Stt} {Q : D → Stt → Prop} {E : Err → Stt → Prop}
abbrev LET : Str := Str.ofString "abcdefghijklmnopqrstuvwxyz"
/-- what is_name tells of a text -/
def nm (z : Str) : Bool := decide (1 ≤ (z.length : Int)) && (decide ((z.length : Int) ≤ 6) && z.cps.toList.all fun c => decide (c ∈ LET.cps.toList))
theorem s_is_name {z : Str} (hz : z.length ≤ 1000000) : EV (m_is_name [.str z]) s Q E ↔ Q (.bl (nm z)) s := by
  refine s_of_ev (w_run (ρ := [.val (.str z), .no]) rfl ?_)
  unfold b_is_name nm
  simp_all! []
  have hl : (chrD z).length = z.length := by simp [chrD, Str.length]
  refine br_intro (fun h1 => br_intro (fun h2 => ?_) (fun h2 => ?_)) (fun h1 => ?_)
  · simp at h1 h2
    have : ¬ (z.length : Int) ≤ 6 := by omega
    simp_all! []
    simp [this]
  · simp only [Bool.not_eq_false', decide_eq_true_eq] at h1 h2
    simp_all! []
    refine ev_lcF ?_
    simp_all! []
    refine LcF.mk (fun d => match d with
      | .str x => .bl (decide (x.cps.toList.headD 0 ∈ LET.cps.toList))
      | _ => .non) (by rw [hl]; omega) (fun d hd => ?_) ?_
    · obtain ⟨c, _, rfl⟩ := List.mem_map.mp hd
      refine ⟨_, by trivial, ?_⟩
      simp_all! []
      rfl
    · unfold chrD
      rw [List.map_map]
      show EV (allD (.lst (z.cps.toList.map fun c => .bl (decide (c ∈ LET.cps.toList))))) s _ _
      rw [s_all]
      simp [h1, h2]
  · simp at h1
    have : ¬ 1 ≤ (z.length : Int) := by omega
    simp_all! []
    simp [this]
/-- what is no text -/
def noS : D → Prop
  | .non | .bl _ | .int _ | .lst _ | .tup _ => True
  | _ => False
theorem s_is_name_no {x : D} (hx : noS x) : EV (m_is_name [x]) s Q E ↔ Q (.bl false) s := by
  refine s_of_ev (w_run (ρ := [.val x, .no]) rfl ?_)
  unfold b_is_name
  cases x <;> first | exact hx.elim | simp_all! []
def noI : D → Prop
  | .non | .bl _ | .str _ | .lst _ | .tup _ => True
  | _ => False
theorem s_is_int {i : Int} : EV (m_is_integer [.int i]) s Q E ↔ Q (.bl true) s := by
  refine s_of_ev (w_run (ρ := [.val (.int i)]) rfl ?_)
  unfold b_is_integer
  simp_all! []
theorem s_is_int_no {x : D} (hx : noI x) : EV (m_is_integer [x]) s Q E ↔ Q (.bl false) s := by
  refine s_of_ev (w_run (ρ := [.val x]) rfl ?_)
  unfold b_is_integer
  cases x <;> first | exact hx.elim | simp_all! []
theorem s_is_number {i j : Int} : EV (m_is_number [.int i, .int j]) s Q E ↔ Q (.bl (decide (j ≤ i))) s := by
  refine s_of_ev (w_run (ρ := [.val (.int i), .val (.int j)]) rfl ?_)
  unfold b_is_number
  simp_all! [s_is_int]
theorem s_is_number_no {x : D} {j : Int} (hx : noI x) : EV (m_is_number [x, .int j]) s Q E ↔ Q (.bl false) s := by
  refine s_of_ev (w_run (ρ := [.val x, .val (.int j)]) rfl ?_)
  unfold b_is_number
  simp_all! [s_is_int_no hx]
theorem tl_word (ys : List Nat) : (Txt.join (Str.ofString "") (ys.map fun c => (⟨#[c]⟩ : Str))).cps.toList = ys := by
  have e : (Txt.join (Str.ofString "") (ys.map fun c => (⟨#[c]⟩ : Str))) = Str.join (Str.ofString "") (ys.map fun c => (⟨#[c]⟩ : Str)) := TL.join_eq _ _
  rw [e]
  have k := TL.tl_join (Str.ofString "") (ys.map fun c => (⟨#[c]⟩ : Str))
  have e2 : TL.tl (Str.ofString "") = [] := by decide +kernel
  rw [e2] at k
  have e3 : ∀ l : List Nat, TL.joinL [] ((l.map fun c => (⟨#[c]⟩ : Str)).map TL.tl) = l := fun l => by
    induction l with
    | nil => rfl
    | cons a l ih =>
      cases l with
      | nil => rfl
      | cons b l =>
        show TL.tl ⟨#[a]⟩ ++ ([] ++ TL.joinL [] (((b :: l).map fun c => (⟨#[c]⟩ : Str)).map TL.tl)) = _
        rw [ih]; rfl
  exact k.trans (e3 ys)
theorem strs_map (l : List Nat) : strsD (l.map fun c => D.str (⟨#[c]⟩ : Str)) = some (l.map fun c => (⟨#[c]⟩ : Str)) := by
  induction l with
  | nil => rfl
  | cons a l ih =>
    show (strsD (l.map fun c => D.str (⟨#[c]⟩ : Str))).map _ = _
    rw [ih]; rfl
theorem signs_of {P : Nat → Prop} : ∀ (ys : List D), (∀ (i : Nat) (y : D), ys[i]? = some y → ∃ c, P c ∧ y = D.str ⟨#[c]⟩) → ∃ cs : List Nat, (∀ c ∈ cs, P c) ∧ ys = cs.map fun c => D.str ⟨#[c]⟩
  | [], _ => ⟨[], by simp, rfl⟩
  | y :: ys, h => by
    obtain ⟨cs, h1, rfl⟩ := signs_of ys fun i z hz => h (i + 1) z (by simpa using hz)
    obtain ⟨c, hc, rfl⟩ := h 0 y rfl
    exact ⟨c :: cs, fun d hd => by rcases List.mem_cons.mp hd with rfl | hd; exact hc; exact h1 d hd, rfl⟩
theorem s_join0 {cs : List Nat} (h : cs.length ≤ 1000000) : EV (joinD (Str.ofString "") (.lst (cs.map fun c => D.str ⟨#[c]⟩))) s Q E ↔ Q (.str ⟨cs.toArray⟩) s := by
  have hsum : ((cs.map fun a => (⟨#[a]⟩ : Str)).map (·.length)).sum = cs.length := by
    rw [List.map_map]
    clear h
    induction cs with
    | nil => rfl
    | cons a l ih =>
      simp only [List.map_cons, List.sum_cons, List.length_cons, ih]
      show 1 + l.length = _
      omega
  have e : (Txt.join (Str.ofString "") (cs.map fun a => (⟨#[a]⟩ : Str))) = ⟨cs.toArray⟩ := by
    have := tl_word cs
    generalize Txt.join (Str.ofString "") (cs.map fun a => (⟨#[a]⟩ : Str)) = z at this
    obtain ⟨⟨l⟩⟩ := z
    have : l = cs := this
    rw [this]
  have hj : joinD (Str.ofString "") (.lst (cs.map fun a => D.str (⟨#[a]⟩ : Str))) s = .ok (.str ⟨cs.toArray⟩) s := by
    unfold joinD
    have e0 : (Str.ofString "").length = 0 := by decide +kernel
    simp only [strs_map, hsum, e0, e]
    rw [if_pos (by omega)]; rfl
  exact s_okeq hj
theorem len_mk (cs : List Nat) : (⟨cs.toArray⟩ : Str).length = cs.length := by simp [Str.length]
theorem nm_word {w : Str} (h : ∀ a ∈ w.cps.toList, a ∈ LET.cps.toList) : nm w = (decide (1 ≤ (w.length : Int)) && decide ((w.length : Int) ≤ 6)) := by
  unfold nm
  have : (w.cps.toList.all fun c => decide (c ∈ LET.cps.toList)) = true := by
    rw [List.all_eq_true]; intro x hx; exact decide_eq_true (h x hx)
  rw [this, Bool.and_true]
theorem nm_bad {w : Str} {a : Nat} (h : a ∈ w.cps.toList) (ha : a ∉ LET.cps.toList) : nm w = false := by
  unfold nm
  have : (w.cps.toList.all fun c => decide (c ∈ LET.cps.toList)) = false := by
    rw [List.all_eq_false]; exact ⟨a, h, by simpa using ha⟩
  rw [this, Bool.and_false, Bool.and_false]
theorem cut_len (w : Str) (lo hi : Option Int) : (cutS w lo hi).length ≤ w.length := by
  unfold cutS Str.length
  simp only [List.size_toArray, List.length_take, List.length_drop, Array.length_toList]
  omega
theorem nl_eq : Str.ofString "\n" = (⟨#[10]⟩ : Str) := by decide +kernel
theorem law_true (ns : List Int) (h1 : ns.length ≤ 63) (h2 : ∀ z ∈ ns, Builtin.Int.intBits z ≤ 1048576) : ∃ st, m_law [.lst (ns.map D.int)] [] = .ok (.bl true) st := by
  have main : EV (m_law [.lst (ns.map D.int)]) [] (fun d _ => d = .bl true) NoE := by
    refine w_run (ρ := [.val (.lst (ns.map D.int)), .no, .no, .no, .no, .no, .no, .no, .no, .no, .no]) rfl ?_
    unfold b_law
    simp_all! []
    refine ev_bg fun bag hbag => ?_
    simp_all! []
    rw [s_sto rfl]
    simp_all! []
    refine w_forB ?_
    simp_all! []
    refine ForB.mk 100 (fun i ρ => ∃ a2 a3 a4 a5 a6 a7 a8 a9 a10 : Slot, ρ = [.val (.lst (ns.map D.int)), .val (.obj 0), a2, a3, a4, a5, a6, a7, a8, a9, a10]) (hbag []) ⟨_, _, _, _, _, _, _, _, _, rfl⟩ ?_ ?_
    · rintro i d ρ s hd hi ⟨a2, a3, a4, a5, a6, a7, a8, a9, a10, rfl⟩ hB
      have hi : i < 5 := by simpa [rangeD] using hi
      refine ⟨_, by trivial, ?_⟩
      simp_all! []
      -- the word
      refine ev_lcB ?_
      simp_all! []
      refine ev_dr hB (by omega) (by omega) (by omega) fun r s hr0 hr1 hB => ?_
      simp_all! []
      have hlen : (rangeD 0 r.toNat).length = r.toNat := by simp [rangeD]
      refine LcB.mk 1 (fun _ y => ∃ c, c ∈ LET.cps.toList ∧ y = .str ⟨#[c]⟩) (by rw [hlen]; omega) hB ?_ ?_
      · rintro j d s _ hj hB
        refine ⟨_, by trivial, ?_⟩
        simp_all! []
        exact ev_os hB (by omega) (by decide +kernel) (by decide +kernel) fun ch s hch hB => ⟨⟨ch, hch, rfl⟩, hB⟩
      rintro ys s hys hP hB
      obtain ⟨cs, hcs, rfl⟩ := signs_of ys hP
      have hcl : cs.length ≤ 8 := by rw [hlen] at hys; simp at hys; omega
      have hB : Bg (i * 100 + 9) [] s := hB.le (by omega)
      simp_all! [s_join0]
      have hw : (⟨cs.toArray⟩ : Str).length ≤ 8 := by rw [len_mk]; exact hcl
      have hl : ∀ a ∈ (⟨cs.toArray⟩ : Str).cps.toList, a ∈ LET.cps.toList := hcs
      generalize (⟨cs.toArray⟩ : Str) = w at hw hl ⊢
      have hwS : w.length ≤ 1000000 := by omega
      -- the place, the bent word
      simp_all! []
      refine ev_dr hB (by omega) (by omega) (by omega) fun at_ s hat0 hat1 hB => ?_
      simp_all! []
      have l1 := cut_len w none (some at_)
      have l2 := cut_len w (some at_) none
      refine ev_olP (fun x => ∃ a, x = .str ⟨#[a]⟩ ∧ a ∉ LET.cps.toList) ?_ hB (by omega) (by decide) (by decide) fun x s hx hB => ?_
      · simp only [List.mem_cons, List.not_mem_nil, or_false]
        rintro x (rfl | rfl | rfl | rfl | rfl | rfl | rfl)
        · exact ⟨65, by rw [show Str.ofString "A" = (⟨#[65]⟩ : Str) by decide +kernel], by decide +kernel⟩
        · exact ⟨32, by rw [show Str.ofString " " = (⟨#[32]⟩ : Str) by decide +kernel], by decide +kernel⟩
        · exact ⟨45, by rw [show Str.ofString "-" = (⟨#[45]⟩ : Str) by decide +kernel], by decide +kernel⟩
        · exact ⟨49, by rw [show Str.ofString "1" = (⟨#[49]⟩ : Str) by decide +kernel], by decide +kernel⟩
        · exact ⟨10, by rw [nl_eq], by decide +kernel⟩
        · exact ⟨90, by rw [show Str.ofString "Z" = (⟨#[90]⟩ : Str) by decide +kernel], by decide +kernel⟩
        · exact ⟨48, by rw [show Str.ofString "0" = (⟨#[48]⟩ : Str) by decide +kernel], by decide +kernel⟩
      obtain ⟨a, rfl, hna⟩ := hx
      rw [s_addS (by show _ + 1 ≤ 1000000; omega)]
      simp_all! []
      generalize cutS w none (some at_) = w1 at l1 ⊢
      generalize cutS w (some at_) none = w2 at l2 ⊢
      have hb1 : (w1 ++ (⟨#[a]⟩ : Str)).length ≤ 9 := by rw [PySem.Str.length_append]; show _ + 1 ≤ 9; omega
      rw [s_addS (by omega)]
      have hbl : (w1 ++ (⟨#[a]⟩ : Str) ++ w2).length ≤ 1000000 := by rw [PySem.Str.length_append]; omega
      have hbm : a ∈ (w1 ++ (⟨#[a]⟩ : Str) ++ w2).cps.toList := by
        show a ∈ (w1.cps ++ #[a] ++ w2.cps).toList
        simp
      generalize (w1 ++ (⟨#[a]⟩ : Str) ++ w2) = bent at hbl hbm ⊢
      have hnl : w.length + (Str.ofString "\n").length ≤ 1000000 := by rw [show (Str.ofString "\n").length = 1 by decide +kernel]; omega
      have hnl2 : (w ++ Str.ofString "\n").length ≤ 1000000 := by rw [PySem.Str.length_append]; exact hnl
      have n1 : nm bent = false := nm_bad hbm hna
      have n2 : nm (w ++ Str.ofString "\n") = false := nm_bad (a := 10) (by rw [nl_eq]; show 10 ∈ (w.cps ++ #[10]).toList; simp) (by decide +kernel)
      simp_all! [s_is_name, n1, n2, nm_word hl]
      have chn : ∀ {ρ : Env} {s : Stt} {Q : D → Stt → Prop} {E : Err → Stt → Prop}, Q (.bl (decide (1 ≤ (w.length : Int)) && decide ((w.length : Int) ≤ 6))) s → Br (decide (1 ≤ (w.length : Int))) (EV (do let u ← kI 6 ρ; leD (.int w.length) u) s Q E) (EV (pure (.bl false)) s Q E) := fun q => by
        refine br_ev (br_intro (fun h => ?_) fun h => ?_) q
        · simp_all! []; rw [h]; rfl
        · simp_all! []; rw [h]; rfl
      refine chn ?_
      simp_all! []
      refine chn ?_
      simp_all! []
      refine ev_sm rfl rfl ?_
      simp_all! []
      refine ev_dr hB (by omega) (by omega) (by omega) fun n s hn0 hn1 hB => ?_
      simp_all! []
      refine ev_dr hB (by omega) (by omega) (by omega) fun l s hl0 hl1 hB => ?_
      have e1 : decide (l - 30 ≤ l - 30) = true := decide_eq_true (Int.le_refl _)
      have e2 : decide (l - 30 ≤ l - 30 - 1) = false := decide_eq_false (by omega)
      simp_all! [s_is_number, e1, e2]
      refine ev_sm rfl rfl ?_
      simp_all! []
      refine ev_olP noI ?_ hB (by omega) (by decide) (by decide) fun odd s ho hB => ?_
      · simp only [List.mem_cons, List.not_mem_nil, or_false]
        rintro x (rfl | rfl | rfl | rfl | rfl | rfl | rfl | rfl) <;> trivial
      simp_all! [s_is_number_no ho]
      refine ev_sm rfl rfl ?_
      simp_all! []
      refine ev_olP (fun x => ∀ (s : Stt) (Q : D → Stt → Prop), Q (.bl false) s → EV (m_is_name [x]) s Q NoE) ?_ hB (by omega) (by decide) (by decide) fun odd2 s ho hB => ?_
      · simp only [List.mem_cons, List.not_mem_nil, or_false]
        rintro x (rfl | rfl | rfl | rfl | rfl | rfl | rfl) s Q q
        · exact (s_is_name_no (by exact True.intro)).mpr q
        · exact (s_is_name_no (by exact True.intro)).mpr q
        · exact (s_is_name_no (by exact True.intro)).mpr q
        · exact (s_is_name_no (by exact True.intro)).mpr q
        · exact (s_is_name_no (by exact True.intro)).mpr q
        · refine (s_is_name (by decide +kernel)).mpr ?_
          rw [show nm (Str.ofString "") = false by decide +kernel]; exact q
        · refine (s_is_name (by decide +kernel)).mpr ?_
          rw [show nm (Str.ofString "abcdefg") = false by decide +kernel]; exact q
      simp_all! []
      refine ho _ _ ?_
      simp_all! []
      refine ev_sm rfl rfl ?_
      simp_all! []
      exact ⟨⟨_, _, _, _, _, _, _, _, _, rfl⟩, hB.le (by omega)⟩
    · rintro ρ s ⟨a2, a3, a4, a5, a6, a7, a8, a9, a10, rfl⟩ hB
      have n1 : nm (Str.ofString "abcdef") = true := by decide +kernel
      have h1 : (Str.ofString "abcdef").length ≤ 1000000 := by decide +kernel
      have e1 : (10 : Int) ^ (30 : Int).toNat = 1000000000000000000000000000000 := by decide +kernel
      simp_all! [s_is_name, n1, e1, s_is_number]
      rw [s_pow (by decide) (by decide) (by decide), e1]
      simp_all! [s_is_number]
  obtain ⟨a, s', e, rfl⟩ := ev_get main
  exact ⟨s', e⟩
end
end PV.LW
end

open PySem PySem.W PySem.Calls PyProof.Rows
theorem PySem.Challenge.cw_forkmeet_k02_names_and_numbers_holds : PySem.Challenge.rw_forkmeet_k02_names_and_numbers.Holds := by
  w_on; o_law
  refine HandSHeadRun.head_any (r := OpenLaw.row PySem.Challenge.rw_forkmeet_k02_names_and_numbers) (q := view (OpenLaw.row PySem.Challenge.rw_forkmeet_k02_names_and_numbers).prog [11]) (H := PV.LW.hk) (ob := PV.LW.ob) (M := 4000) (loose := PV.LW.loose) (d := HandSHeadRun.topDef (OpenLaw.row PySem.Challenge.rw_forkmeet_k02_names_and_numbers).prog 11) (kwd := []) PV.LW.ob_eq
    (by kernel_rfl) (fun s => by kernel_rfl) PV.LW.run (by kernel_rfl) (by kernel_rfl) (by kernel_rfl) (by rfl) (by first | assumption | decide +kernel) (by decide +kernel) ⟨rfl, rfl, rfl, rfl, rfl, by decide +kernel⟩ ?hw ?hc
  case hw => w_witness2
  case hc =>
    refine PV.walk_pv (l := PySem.Challenge.rw_forkmeet_k02_names_and_numbers) (n := 63) (k := 14) (x := (Str.ofString "_law_script")) rfl (by decide) (by kernel_rfl) ⟨rfl, by decide, by decide⟩ ?F
    intro w mg fa h Y G hmg0
    obtain ⟨K, KX, c⟩ := Y
    have hmg : mg ((Str.ofString "law") : PySem.Str) = some (.ref fa) := by
      have e : (HandSHeadRun.topDef (OpenLaw.row PySem.Challenge.rw_forkmeet_k02_names_and_numbers).prog 11).name = ((Str.ofString "law") : PySem.Str) := by kernel_rfl
      rw [← e]
      exact hmg0
    have hd := PV.LW.facts KX G c
    obtain ⟨fd, F⟩ := hd.d_law
    have e := hmg.symm.trans hd.g_law
    cases e
    have b := L2.FunD.bindsA (ps := PV.LW.ps_law) F fun _ _ _ _ _ _ us hl => match us, hl with | [_], _ => rfl
    refine ⟨K, He.ga K, fd, PV.LW.m_law, KX, fun s v => b s [v] rfl, fun ns h1 h2 => PV.LW.law_true ns h1 h2, fun base _ _ => ?_⟩
    exact PV.LW.fn_law (P := (PySem.Challenge.rw_forkmeet_k02_names_and_numbers).prog) (w := w) (base := base) hd F
