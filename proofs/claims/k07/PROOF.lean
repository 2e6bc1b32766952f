import PyProof.Rows.All
import Wide.All
import OpenK.AllK
import Wide.FinOn
import HandS.Base
import HandS.Call
import HandS.Dict
import HandS.List
import HandS.Exc
import HandS.Words
import HandS.WordsList
import HandS.Lambda
import HandS.Text
import HandS.Wide
import PyProof.Rows.SeqMore
import HandS.More
import HandS.IsInst
import HandS.ExcOwn
import HandS.WordsExc
import HandS.Defaults
import HandS.Iter
import HandS.Walk
import HandS.Comp
import HandS.Zip
import HandS.Small
import HandS.EndBits
import HandS.HeadEnd
import HandS.MakeKw
import HandS.Property
import KE.KOpsOwn
import KE.KCallOwn
import OpenK.KOps
import OpenK.KMeth
import HandS.SlotsOwn
import HandS.FStr
import HandS.DictComp
import HandS.DictEq
import HandS.StrMore
import HandS.HeadHook4
import HandS.Style
import PyProof.StrOps2
import HandS.Star
import HandS.TryOnly
import HandS.ClsMeth
import HandS.TupMul
import PyProof.ListMulRight
import HandS.ExcInit
import KE.KExcInit
import KE.KTryMore
import HandS.HotCalls
import HandS.ExcField
import HandS.Head2
import HandS.EndTab
import HandS.HeadWalk
import HandS.Head0
import HandS.Head1
import HandS.HeadHook1
import HandS.HeadHook2
import KE.KStateDown
import PySem.Challenge.RW_forkmeet_k07_texts_that_are_no_heaps
set_option Elab.async false
set_option linter.all false
set_option maxRecDepth 100000
set_option maxHeartbeats 0
section
namespace PV
open PySem PySem.Spec L2
open PyProof.Rows hiding St

/-! values as trees -/
inductive D where
  | non | bl (b : Bool) | int (i : Int) | str (s : Str)
  | lst (xs : List D) | tup (xs : List D) | dic (kvs : List (Key × D))
  | ins (c : Str) (fs : List (Str × D))
  | cls (c : Str) | ty (n : String) | obj (i : Nat)
  | tab (q : Str) (a : Addr)

/-- where the own classes stand -/
abbrev ClsAt := Str → Addr

/-- what a part F of the heap holds at a: tracked, or written at the top -/
abbrev LsAt (K : PySem.W.Frag) (F : Hp) (a : Addr) (xs : List V) : Prop := SqL K F a xs

mutual
inductive Den (K : PySem.W.Frag) (G : ClsAt) (As : List Addr) (F : Hp) : D → V → Prop
  | non : Den K G As F .non .non
  | bl {b : Bool} : Den K G As F (.bl b) (.bl b)
  | int {i : Int} : Den K G As F (.int i) (.int i)
  | str {s : Str} : Den K G As F (.str s) (.str s)
  | ty {n : String} : Den K G As F (.ty n) (.ty n)
  | cls {c : Str} : Den K G As F (.cls c) (.ref (G c))
  | obj {i : Nat} {a : Addr} : As[i]? = some a → Den K G As F (.obj i) (.ref a)
  | lst {xs : List D} {vs : List V} {a : Addr} : SqL K F a vs → DenL K G As F xs vs → Den K G As F (.lst xs) (.ref a)
  | tup {xs : List D} {vs : List V} {a : Addr} : SqT K F a vs → DenL K G As F xs vs → Den K G As F (.tup xs) (.ref a)
  | dic {ks : List (Key × D)} {ws : List (Key × V)} {a : Addr} : Rd F a (.dK ws) → DenK K G As F ks ws → Den K G As F (.dic ks) (.ref a)
  | ins {c : Str} {fs : List (Str × D)} {ws : List (Str × V)} {a dx : Addr} : F a = some (.ins (G c) dx ws) → DenF K G As F fs ws → Den K G As F (.ins c fs) (.ref a)
inductive DenL (K : PySem.W.Frag) (G : ClsAt) (As : List Addr) (F : Hp) : List D → List V → Prop
  | nil : DenL K G As F [] []
  | cons {d : D} {v : V} {ds : List D} {vs : List V} : Den K G As F d v → DenL K G As F ds vs → DenL K G As F (d :: ds) (v :: vs)
inductive DenK (K : PySem.W.Frag) (G : ClsAt) (As : List Addr) (F : Hp) : List (Key × D) → List (Key × V) → Prop
  | nil : DenK K G As F [] []
  | cons {k : Key} {d : D} {v : V} {ds : List (Key × D)} {vs : List (Key × V)} : Den K G As F d v → DenK K G As F ds vs → DenK K G As F ((k, d) :: ds) ((k, v) :: vs)
inductive DenF (K : PySem.W.Frag) (G : ClsAt) (As : List Addr) (F : Hp) : List (Str × D) → List (Str × V) → Prop
  | nil : DenF K G As F [] []
  | cons {k : Str} {d : D} {v : V} {ds : List (Str × D)} {vs : List (Str × V)} : Den K G As F d v → DenF K G As F ds vs → DenF K G As F ((k, d) :: ds) ((k, v) :: vs)
end

/-- F is a part of H (a dict may be locked there) -/
def LeF (F H : Hp) : Prop := ∀ a o, F a = some o → H a = some o ∨ ((∃ ws, o = .dK ws) ∧ ∃ ob, H a = some (.frz ob o))
/-- F grew to F' -/
abbrev Sub (F F' : Hp) : Prop := ∀ a o, F a = some o → F' a = some o

theorem Sub.refl (F : Hp) : Sub F F := fun _ _ h => h
theorem Sub.trans {F F' F'' : Hp} (a : Sub F F') (b : Sub F' F'') : Sub F F'' := fun c o h => b c o (a c o h)
theorem Rd.sub {F F' : Hp} {a : Addr} {u : HO} (s : Sub F F') (r : Rd F a u) : Rd F' a u := by
  rcases r with r | ⟨o, r⟩
  · exact .inl (s _ _ r)
  · exact .inr ⟨o, s _ _ r⟩
theorem SqL.sub {K : PySem.W.Frag} {F F' : Hp} {a : Addr} {xs : List V} (s : Sub F F') (r : SqL K F a xs) : SqL K F' a xs := by
  rcases r with r | r
  · exact .inl (Rd.sub s r)
  · exact .inr r
theorem SqT.sub {K : PySem.W.Frag} {F F' : Hp} {a : Addr} {xs : List V} (s : Sub F F') (r : SqT K F a xs) : SqT K F' a xs := by
  rcases r with r | r
  · exact .inl (Rd.sub s r)
  · exact .inr r

section
variable {K : PySem.W.Frag} {G : ClsAt} {As As' : List Addr} {F F' H : Hp}
/-- more is known: the same holds -/
theorem as_get {As As' : List Addr} (p : As <+: As') {i : Nat} {a : Addr} (h : As[i]? = some a) : As'[i]? = some a := by
  obtain ⟨m, rfl⟩ := p
  have hl : i < As.length := (List.getElem?_eq_some_iff.mp h).1
  rw [List.getElem?_append_left hl]; exact h
mutual
theorem Den.mono (s : Sub F F') (p : As <+: As') : ∀ {d : D} {v : V}, Den K G As F d v → Den K G As' F' d v
  | _, _, .non => .non
  | _, _, .bl => .bl
  | _, _, .int => .int
  | _, _, .str => .str
  | _, _, .ty => .ty
  | _, _, .cls => .cls
  | _, _, .obj h => .obj (as_get p h)
  | _, _, .lst h l => .lst (SqL.sub s h) (DenL.mono s p l)
  | _, _, .tup h l => .tup (SqT.sub s h) (DenL.mono s p l)
  | _, _, .dic h l => .dic (Rd.sub s h) (DenK.mono s p l)
  | _, _, .ins h l => .ins (s _ _ h) (DenF.mono s p l)
theorem DenL.mono (s : Sub F F') (p : As <+: As') : ∀ {d : List D} {v : List V}, DenL K G As F d v → DenL K G As' F' d v
  | _, _, .nil => .nil
  | _, _, .cons h l => .cons (Den.mono s p h) (DenL.mono s p l)
theorem DenK.mono (s : Sub F F') (p : As <+: As') : ∀ {d : List (Key × D)} {v : List (Key × V)}, DenK K G As F d v → DenK K G As' F' d v
  | _, _, .nil => .nil
  | _, _, .cons h l => .cons (Den.mono s p h) (DenK.mono s p l)
theorem DenF.mono (s : Sub F F') (p : As <+: As') : ∀ {d : List (Str × D)} {v : List (Str × V)}, DenF K G As F d v → DenF K G As' F' d v
  | _, _, .nil => .nil
  | _, _, .cons h l => .cons (Den.mono s p h) (DenF.mono s p l)
end
theorem DenL.length : ∀ {d : List D} {v : List V}, DenL K G As F d v → d.length = v.length
  | _, _, .nil => rfl
  | _, _, .cons _ l => congrArg (· + 1) (DenL.length l)
theorem DenL.app : ∀ {d d' : List D} {v v' : List V}, DenL K G As F d v → DenL K G As F d' v' → DenL K G As F (d ++ d') (v ++ v')
  | _, _, _, _, .nil, h => h
  | _, _, _, _, .cons h l, h' => .cons h (DenL.app l h')
theorem DenL.get : ∀ {ds : List D} {vs : List V} {i : Nat} {v : V}, DenL K G As F ds vs → vs[i]? = some v → ∃ d, ds[i]? = some d ∧ Den K G As F d v
  | _, _, _, _, .nil, e => by simp at e
  | _, _, 0, _, .cons h _, e => by simp at e; subst e; exact ⟨_, rfl, h⟩
  | _, _, i + 1, _, .cons _ l, e => by
    obtain ⟨d, h1, h2⟩ := DenL.get (i := i) l (by simpa using e)
    exact ⟨d, by simpa using h1, h2⟩
theorem DenL.getD : ∀ {ds : List D} {vs : List V} {i : Nat} {d : D}, DenL K G As F ds vs → ds[i]? = some d → ∃ v, vs[i]? = some v ∧ Den K G As F d v
  | _, _, _, _, .nil, e => by simp at e
  | _, _, 0, _, .cons h _, e => by simp at e; subst e; exact ⟨_, rfl, h⟩
  | _, _, i + 1, _, .cons _ l, e => by
    obtain ⟨d, h1, h2⟩ := DenL.getD (i := i) l (by simpa using e)
    exact ⟨d, by simpa using h1, h2⟩
end

/-! the monad of mirrors -/
structure Err where
  cls : Str
  fs : List (Str × D)
abbrev Stt := List D
inductive R (α : Type) where
  | ok (a : α) (s : Stt) | err (e : Err) (s : Stt) | no
abbrev M (α : Type) := Stt → R α
@[reducible] def M.pure {α : Type} (a : α) : M α := fun s => .ok a s
@[reducible] def M.bind {α β : Type} (x : M α) (f : α → M β) : M β := fun s => match x s with
  | .ok a s' => f a s'
  | .err e s' => .err e s'
  | .no => .no
instance : Monad M := { pure := M.pure, bind := M.bind }
def no {α : Type} : M α := fun _ => .no
def raise {α : Type} (e : Err) : M α := fun s => .err e s

end PV
end

section
namespace PV
open PySem PySem.Spec L2
open PyProof.Rows hiding St

/-- F: what is shared and stands still; As: where the store's objects stand; st: what they hold -/
structure Cf where
  F : Hp
  As : List Addr
  st : Stt

section
variable (K : PySem.W.Frag) (G : ClsAt)
/-- an object of one's own: what is in it is shared -/
def OwnAt (As : List Addr) (F H : Hp) (a : Addr) : D → Prop
  | .lst xs => ∃ vs, H a = some (.lst vs) ∧ DenL K G As F xs vs
  | .dic ks => ∃ ws, H a = some (.dK ws) ∧ DenK K G As F ks ws
  | .ins c fs => ∃ dx ws, H a = some (.ins (G c) dx ws) ∧ DenF K G As F fs ws
  | _ => False
/-- a code object's table: it grows, what stands in it stays -/
def TabAt (F H : Hp) (a : Addr) (q : Str) : Prop := ∃ ps : Array Value, H a = some (.tbl ps) ∧ TriplesOk ps.toList ∧ ∀ (pos : Pos) (cv : Value), codeAmong pos ps.toList = some cv → ∃ b, cv = .ref b ∧ F b = some (LamX.CodeO b q)
/-- what the store holds -/
def ObAt (As : List Addr) (F H : Hp) (a : Addr) : D → Prop
  | .tab q a2 => a2 = a ∧ TabAt F H a q
  | d => OwnAt K G As F H a d
structure CfOk (c : Cf) (H : Hp) : Prop where
  le : LeF c.F H
  len : c.As.length = c.st.length
  nd : c.As.Nodup
  obj : ∀ (i : Nat) (a : Addr) (d : D), c.As[i]? = some a → c.st[i]? = some d → c.F a = none ∧ ObAt K G c.As c.F H a d
end
/-- as it was; a shared dict may have been locked -/
def KeepX (F' H' : Hp) (a : Addr) (o : HO) : Prop := H' a = some o ∨ (F' a = some o ∧ (∃ ws, o = .dK ws) ∧ ∃ ob, H' a = some (.frz ob o))
theorem KeepX.up {F F' H : Hp} {a : Addr} {o : HO} (s : Sub F F') (k : KeepX F H a o) : KeepX F' H a o := k.elim .inl fun ⟨h1, h2⟩ => .inr ⟨s _ _ h1, h2⟩
theorem KeepX.heap {F H H' : Hp} {a : Addr} {o : HO} (s : ∀ u, H a = some u → H' a = some u) (k : KeepX F H a o) : KeepX F H' a o := k.elim (fun h => .inl (s _ h)) fun ⟨h1, h2, ob, h3⟩ => .inr ⟨h1, h2, ob, s _ h3⟩
structure Ext (c : Cf) (H : Hp) (c' : Cf) (H' : Hp) : Prop where
  keep : ∀ a o, H a = some o → a ∉ c.As → KeepX c'.F H' a o
  there : ∀ a o, H a = some o → ∃ o', H' a = some o'
  sub : Sub c.F c'.F
  new : ∀ a o, c'.F a = some o → c.F a = some o ∨ H a = none
  pre : c.As <+: c'.As
  anew : ∀ a, a ∈ c'.As → a ∈ c.As ∨ H a = none
theorem Ext.refl (c : Cf) (H : Hp) : Ext c H c H := ⟨fun _ _ h _ => .inl h, fun _ o h => ⟨o, h⟩, Sub.refl _, fun _ _ h => .inl h, List.prefix_rfl, fun _ h => .inl h⟩
theorem Ext.none {c c' : Cf} {H H' : Hp} (e : Ext c H c' H') {a : Addr} (h : H' a = Option.none) : H a = Option.none := by
  cases q : H a with
  | none => rfl
  | some o => obtain ⟨o', z⟩ := e.there a o q; rw [h] at z; cases z
theorem Ext.trans {c c' c'' : Cf} {H H' H'' : Hp} (a : Ext c H c' H') (b : Ext c' H' c'' H'') : Ext c H c'' H'' where
  keep := fun x o h n => by
    have nm : x ∉ c'.As := fun hm => (a.anew x hm).elim n fun z => by rw [h] at z; cases z
    rcases a.keep x o h n with k | ⟨f, ⟨ws, e⟩, ob, k⟩
    · exact b.keep x o k nm
    · rcases b.keep x _ k nm with k2 | ⟨_, ⟨ws', e'⟩, _⟩
      · exact .inr ⟨b.sub x o f, ⟨ws, e⟩, ob, k2⟩
      · cases e'
  there := fun x o h => let ⟨o', h'⟩ := a.there x o h; b.there x o' h'
  sub := Sub.trans a.sub b.sub
  new := fun x o h => (b.new x o h).elim (a.new x o) fun z => .inr (a.none z)
  pre := a.pre.trans b.pre
  anew := fun x h => (b.anew x h).elim (a.anew x) fun z => .inr (a.none z)
/-- what is not shared stays -/
theorem Ext.keepO {c c' : Cf} {H H' : Hp} (x : Ext c H c' H') {a : Addr} {o : HO} (h : H a = some o) (n : a ∉ c.As) (f : c.F a = Option.none) : H' a = some o := by
  rcases x.keep a o h n with k | ⟨g, _⟩
  · exact k
  · rcases x.new a o g with z | z
    · rw [f] at z; cases z
    · rw [h] at z; cases z
/-- only the heap grew -/
theorem Ext.heap {c : Cf} {H H' : Hp} (h : ∀ a o, H a = some o → H' a = some o) : Ext c H c H' := ⟨fun a o q _ => .inl (h a o q), fun a o q => ⟨o, h a o q⟩, Sub.refl _, fun _ _ h => .inl h, List.prefix_rfl, fun _ h => .inl h⟩

section
variable {K : PySem.W.Frag} {G : ClsAt}
theorem OwnAt.mono {As As' : List Addr} {F F' H H' : Hp} {a : Addr} (s : Sub F F') (p : As <+: As') (h : ∀ o, H a = some o → H' a = some o) : ∀ {d : D}, OwnAt K G As F H a d → OwnAt K G As' F' H' a d
  | .lst _, ⟨vs, q, l⟩ => ⟨vs, h _ q, l.mono s p⟩
  | .dic _, ⟨vs, q, l⟩ => ⟨vs, h _ q, l.mono s p⟩
  | .ins _ _, ⟨dx, vs, q, l⟩ => ⟨dx, vs, h _ q, l.mono s p⟩
  | .non, z | .bl _, z | .int _, z | .str _, z | .tup _, z | .cls _, z | .ty _, z | .obj _, z | .tab _ _, z => z
theorem OwnAt.some {As : List Addr} {F H : Hp} {a : Addr} : ∀ {d : D}, OwnAt K G As F H a d → ∃ o, H a = some o
  | .lst _, ⟨vs, q, l⟩ => ⟨_, q⟩
  | .dic _, ⟨vs, q, l⟩ => ⟨_, q⟩
  | .ins _ _, ⟨dx, vs, q, l⟩ => ⟨_, q⟩
theorem ObAt.mono {As As' : List Addr} {F F' H H' : Hp} {a : Addr} (s : Sub F F') (p : As <+: As') (h : ∀ o, H a = some o → H' a = some o) {d : D} (w : ObAt K G As F H a d) : ObAt K G As' F' H' a d := by
  cases d with
  | tab q a2 =>
    obtain ⟨ea, ps, e, t, l⟩ := w
    exact ⟨ea, ps, h _ e, t, fun pos cv e => let ⟨b, e1, e2⟩ := l pos cv e; ⟨b, e1, s _ _ e2⟩⟩
  | _ => unfold ObAt at w ⊢; exact OwnAt.mono s p h w
theorem ObAt.some {As : List Addr} {F H : Hp} {a : Addr} {d : D} (w : ObAt K G As F H a d) : ∃ o, H a = some o := by
  cases d with
  | tab q a2 => obtain ⟨_, ps, e, _⟩ := w; exact ⟨_, e⟩
  | _ => unfold ObAt at w; exact OwnAt.some w
theorem OwnAt.ob {As : List Addr} {F H : Hp} {a : Addr} {d : D} (w : OwnAt K G As F H a d) : ObAt K G As F H a d := by
  cases d with
  | tab q a2 => exact w.elim
  | _ => exact w
theorem LeF.up {F H H' : Hp} (h : LeF F H) (k : ∀ a o, F a = Option.some o → ∀ u, H a = Option.some u → H' a = Option.some u) : LeF F H' := fun a o q => by
  rcases h a o q with z | ⟨w, ob, z⟩
  · exact .inl (k a o q _ z)
  · exact .inr ⟨w, ob, k a o q _ z⟩
theorem LeF.some {F H : Hp} (h : LeF F H) {a : Addr} {o : HO} (q : F a = Option.some o) : ∃ u, H a = Option.some u := by
  rcases h a o q with z | ⟨w, ob, z⟩
  · exact ⟨_, z⟩
  · exact ⟨_, z⟩
theorem LeF.none {F H : Hp} (h : LeF F H) {a : Addr} (q : H a = Option.none) : F a = Option.none := by
  cases z : F a with
  | none => rfl
  | some o => obtain ⟨u, y⟩ := h.some z; rw [q] at y; cases y
theorem LeF.rdD {F H : Hp} (h : LeF F H) {a : Addr} {ws : List (Key × V)} (r : Rd F a (.dK ws)) : Rd H a (.dK ws) := by
  rcases r with r | ⟨o, r⟩
  · rcases h _ _ r with z | ⟨_, ob, z⟩
    · exact .inl z
    · exact .inr ⟨ob, z⟩
  · rcases h _ _ r with z | ⟨⟨ws', q⟩, ob, z⟩
    · exact .inr ⟨o, z⟩
    · cases q
theorem LeF.lst {F H : Hp} (h : LeF F H) {a : Addr} {xs : List V} (r : SqL K F a xs) : SqL K H a xs := by
  rcases r with (r | ⟨o, r⟩) | r
  · rcases h _ _ r with z | ⟨⟨ws, q⟩, _⟩
    · exact .inl (.inl z)
    · cases q
  · rcases h _ _ r with z | ⟨⟨ws', q⟩, ob, z⟩
    · exact .inl (.inr ⟨o, z⟩)
    · cases q
  · exact .inr r
theorem LeF.tup {F H : Hp} (h : LeF F H) {a : Addr} {xs : List V} (r : SqT K F a xs) : SqT K H a xs := by
  rcases r with (r | ⟨o, r⟩) | r
  · rcases h _ _ r with z | ⟨⟨ws, q⟩, _⟩
    · exact .inl (.inl z)
    · cases q
  · rcases h _ _ r with z | ⟨⟨ws', q⟩, ob, z⟩
    · exact .inl (.inr ⟨o, z⟩)
    · cases q
  · exact .inr r
theorem LeF.ins {F H : Hp} (h : LeF F H) {a C dx : Addr} {ws : List (Str × V)} (r : F a = Option.some (.ins C dx ws)) : H a = Option.some (.ins C dx ws) := by
  rcases h _ _ r with z | ⟨⟨ws, q⟩, _⟩
  · exact z
  · cases q
/-- the heap grew, nothing else -/
theorem CfOk.grow {c : Cf} {H H' : Hp} (o : CfOk K G c H) (h : ∀ a u, H a = Option.some u → H' a = Option.some u) : CfOk K G c H' :=
  ⟨o.le.up fun a _ _ u q => h a u q, o.len, o.nd, fun i a d e1 e2 => ⟨(o.obj i a d e1 e2).1, (o.obj i a d e1 e2).2.mono (Sub.refl _) List.prefix_rfl (h a)⟩⟩
theorem CfOk.mem {c : Cf} {H : Hp} (o : CfOk K G c H) {a : Addr} (h : a ∈ c.As) : c.F a = Option.none ∧ ∃ u, H a = Option.some u := by
  obtain ⟨i, hi, e⟩ := List.getElem_of_mem h
  have e1 : c.As[i]? = some a := by rw [List.getElem?_eq_getElem hi, e]
  have hi2 : i < c.st.length := by rw [← o.len]; exact hi
  have e2 : c.st[i]? = some c.st[i] := List.getElem?_eq_getElem hi2
  obtain ⟨q1, q2⟩ := o.obj i a _ e1 e2
  exact ⟨q1, q2.some⟩
/-- a new object becomes shared -/
theorem CfOk.share {c : Cf} {H : Hp} (o : CfOk K G c H) {a : Addr} {u : HO} (h : H a = Option.some u) (n : a ∉ c.As) (f : c.F a = Option.none) : CfOk K G { c with F := upd c.F a u } H := by
  have sb : Sub c.F (upd c.F a u) := fun b v q => by rw [upd_ne (fun z => by rw [z, f] at q; cases q)]; exact q
  refine ⟨fun b v q => ?_, o.len, o.nd, fun i b d e1 e2 => ?_⟩
  · by_cases z : b = a
    · subst z
      have q' : upd c.F b u b = Option.some v := q
      rw [upd_same] at q'; cases q'
      exact .inl h
    · have q' : upd c.F a u b = Option.some v := q
      rw [upd_ne z] at q'
      exact o.le b v q'
  · obtain ⟨q1, q2⟩ := o.obj i b d e1 e2
    have z : b ≠ a := fun z => n (by rw [← z]; exact List.mem_of_getElem? e1)
    exact ⟨by show upd c.F a u b = _; rw [upd_ne z]; exact q1, q2.mono sb List.prefix_rfl fun _ q => q⟩
theorem sub_upd {F : Hp} {a : Addr} {u : HO} (f : F a = Option.none) : Sub F (upd F a u) := fun b v q => by rw [upd_ne (fun z => by rw [z, f] at q; cases q)]; exact q

/-- read without keeping: shared, or one's own at the top -/
def DenT (K : PySem.W.Frag) (G : ClsAt) (c : Cf) (H : Hp) (d : D) (v : V) : Prop := Den K G c.As c.F d v ∨ ∃ a, v = .ref a ∧ a ∉ c.As ∧ c.F a = none ∧ OwnAt K G c.As c.F H a d
theorem DenT.ext {c c' : Cf} {H H' : Hp} {d : D} {v : V} (x : Ext c H c' H') (t : DenT K G c H d v) : DenT K G c' H' d v := by
  rcases t with t | ⟨a, e, n, f, t⟩
  · exact .inl (t.mono x.sub x.pre)
  · obtain ⟨u, hu⟩ := t.some
    refine .inr ⟨a, e, fun z => ?_, ?_, t.mono x.sub x.pre fun o q => x.keepO q n f⟩
    · rcases x.anew a z with z | z
      · exact n z
      · rw [hu] at z; cases z
    · cases q : c'.F a with
      | none => rfl
      | some o =>
        rcases x.new a o q with z | z
        · rw [f] at z; cases z
        · rw [hu] at z; cases z
theorem DenT.lst {c : Cf} {H : Hp} {xs : List D} {v : V} (o : CfOk K G c H) (t : DenT K G c H (.lst xs) v) : ∃ a vs, v = .ref a ∧ SqL K H a vs ∧ DenL K G c.As c.F xs vs := by
  rcases t with t | ⟨a, e, n, f, vs, h, l⟩
  · cases t with
    | lst h l => exact ⟨_, _, rfl, o.le.lst h, l⟩
  · exact ⟨a, vs, e, SqL.of h, l⟩
theorem DenT.tup {c : Cf} {H : Hp} {xs : List D} {v : V} (o : CfOk K G c H) (t : DenT K G c H (.tup xs) v) : ∃ a vs, v = .ref a ∧ SqT K H a vs ∧ DenL K G c.As c.F xs vs := by
  rcases t with t | ⟨a, e, n, f, z⟩
  · cases t with
    | tup h l => exact ⟨_, _, rfl, o.le.tup h, l⟩
  · exact z.elim
theorem DenT.dic {c : Cf} {H : Hp} {ks : List (Key × D)} {v : V} (o : CfOk K G c H) (t : DenT K G c H (.dic ks) v) : ∃ a ws, v = .ref a ∧ Rd H a (.dK ws) ∧ DenK K G c.As c.F ks ws := by
  rcases t with t | ⟨a, e, n, f, vs, h, l⟩
  · cases t with
    | dic h l => exact ⟨_, _, rfl, o.le.rdD h, l⟩
  · exact ⟨a, vs, e, .inl h, l⟩
theorem DenT.ins {c : Cf} {H : Hp} {k : Str} {fs : List (Str × D)} {v : V} (o : CfOk K G c H) (t : DenT K G c H (.ins k fs) v) : ∃ a dx ws, v = .ref a ∧ H a = some (.ins (G k) dx ws) ∧ DenF K G c.As c.F fs ws := by
  rcases t with t | ⟨a, e, n, f, dx, vs, h, l⟩
  · cases t with
    | ins h l => exact ⟨_, _, _, rfl, o.le.ins h, l⟩
  · exact ⟨a, dx, vs, e, h, l⟩
theorem DenT.int {c : Cf} {H : Hp} {i : Int} {v : V} (t : DenT K G c H (.int i) v) : v = .int i := by
  rcases t with t | ⟨a, e, n, f, z⟩
  · cases t; rfl
  · exact z.elim
theorem DenT.str {c : Cf} {H : Hp} {i : Str} {v : V} (t : DenT K G c H (.str i) v) : v = .str i := by
  rcases t with t | ⟨a, e, n, f, z⟩
  · cases t; rfl
  · exact z.elim
theorem DenT.bl {c : Cf} {H : Hp} {i : Bool} {v : V} (t : DenT K G c H (.bl i) v) : v = .bl i := by
  rcases t with t | ⟨a, e, n, f, z⟩
  · cases t; rfl
  · exact z.elim
theorem DenT.non {c : Cf} {H : Hp} {v : V} (t : DenT K G c H .non v) : v = .non := by
  rcases t with t | ⟨a, e, n, f, z⟩
  · cases t; rfl
  · exact z.elim
theorem DenT.obj {c : Cf} {H : Hp} {i : Nat} {v : V} (t : DenT K G c H (.obj i) v) : ∃ a, v = .ref a ∧ c.As[i]? = some a := by
  rcases t with t | ⟨a, e, n, f, z⟩
  · cases t with
    | obj h => exact ⟨_, rfl, h⟩
  · exact z.elim
end

/-! slots -/
inductive Slot where
  | no | val (d : D) | own (d : D)
abbrev Env := List Slot
section
variable (K : PySem.W.Frag) (G : ClsAt)
def SlotOk (c : Cf) (H : Hp) : Slot → Option V → Prop
  | .no, _ => True
  | .val d, o => ∃ v, o = some v ∧ Den K G c.As c.F d v
  | .own d, o => ∃ a, o = some (.ref a) ∧ c.F a = none ∧ a ∉ c.As ∧ OwnAt K G c.As c.F H a d
/-- the slots; H0: the heap at the entry (what one owns was not there) -/
structure Slots (H0 : Hp) (c : Cf) (H : Hp) (ρ : Env) (σ : St) : Prop where
  len : ρ.length = σ.length
  ok : ∀ (i : Nat) (sl : Slot) (o : Option V), ρ[i]? = some sl → σ[i]? = some o → SlotOk K G c H sl o
  sep : ∀ (i j : Nat) (d d' : D) (a : Addr), ρ[i]? = some (.own d) → ρ[j]? = some (.own d') → σ[i]? = some (some (.ref a)) → σ[j]? = some (some (.ref a)) → i = j
  mine : ∀ (i : Nat) (d : D) (a : Addr), ρ[i]? = some (.own d) → σ[i]? = some (some (.ref a)) → H0 a = none
end
section
variable {K : PySem.W.Frag} {G : ClsAt}
theorem SlotOk.ext {c c' : Cf} {H H' : Hp} (x : Ext c H c' H') : ∀ {sl : Slot} {o : Option V}, SlotOk K G c H sl o → SlotOk K G c' H' sl o
  | .no, _, _ => trivial
  | .val d, _, ⟨v, e, h⟩ => ⟨v, e, h.mono x.sub x.pre⟩
  | .own d, o, ⟨a, e, f, n, h⟩ => by
    have t : DenT K G c H d (.ref a) := .inr ⟨a, rfl, n, f, h⟩
    obtain ⟨u, hu⟩ := h.some
    refine ⟨a, e, ?_, fun z => ?_, h.mono x.sub x.pre fun o q => x.keepO q n f⟩
    · cases q : c'.F a with
      | none => rfl
      | some o =>
        rcases x.new a o q with z | z
        · rw [f] at z; cases z
        · rw [hu] at z; cases z
    · rcases x.anew a z with z | z
      · exact n z
      · rw [hu] at z; cases z
theorem Slots.ext {H0 : Hp} {c c' : Cf} {H H' : Hp} {ρ : Env} {σ : St} (x : Ext c H c' H') (s : Slots K G H0 c H ρ σ) : Slots K G H0 c' H' ρ σ :=
  ⟨s.len, fun i sl o e1 e2 => (s.ok i sl o e1 e2).ext x, s.sep, s.mine⟩
end

/-! posts -/
/-- how an error lies -/
def ErrAt (K : PySem.W.Frag) (G : ClsAt) (c : Cf) (H : Hp) (e : Err) (cls : Value) (dx : Option Addr) : Prop :=
  cls = .ref (G e.cls) ∧ ∃ d ws, dx = some d ∧ H d = some (.xd ws) ∧ DenF K G c.As c.F e.fs ws
section
variable (K : PySem.W.Frag) (G : ClsAt)
/-- what a mirror's result asks of what follows: P tells how the value lies -/
def Post {α β : Type} (P : Cf → Hp → α → β → Prop) (E : XK) (c : Cf) (H : Hp) (r : R α) (Q : β → Hp → Prop) : Prop := match r with
  | .ok d st' => ∀ v F' As' H', Ext c H ⟨F', As', st'⟩ H' → CfOk K G ⟨F', As', st'⟩ H' → P ⟨F', As', st'⟩ H' d v → Q v H'
  | .err e st' => ∀ F' As' H' cls dx, Ext c H ⟨F', As', st'⟩ H' → CfOk K G ⟨F', As', st'⟩ H' → ErrAt K G ⟨F', As', st'⟩ H' e cls dx → E cls dx H'
  | .no => False
abbrev PDen : Cf → Hp → D → V → Prop := fun c _ d v => Den K G c.As c.F d v
abbrev PTop : Cf → Hp → D → V → Prop := fun c H d v => DenT K G c H d v
/-- new, one's own; Hb: the heap before -/
abbrev POwn (Hb : Hp) : Cf → Hp → D → V → Prop := fun c H d v => ∃ a, v = .ref a ∧ Hb a = none ∧ a ∉ c.As ∧ c.F a = none ∧ OwnAt K G c.As c.F H a d
abbrev PDens : Cf → Hp → List D → List V → Prop := fun c _ d v => DenL K G c.As c.F d v
abbrev PBl : Cf → Hp → Bool → Bool → Prop := fun _ _ d v => d = v

/-- expressions: shared values, read values, new values, tests, arguments -/
def tV (W : WX) (f : Env → M D) : TE := fun σ H Q => ∃ H0 ρ c, CfOk K G c H ∧ Slots K G H0 c H ρ σ ∧ Post K G (PDen K G) (fun cls dx H' => W cls dx σ H') c H (f ρ c.st) Q
def tR (W : WX) (f : Env → M D) : TE := fun σ H Q => ∃ H0 ρ c, CfOk K G c H ∧ Slots K G H0 c H ρ σ ∧ Post K G (PTop K G) (fun cls dx H' => W cls dx σ H') c H (f ρ c.st) Q
def tN (W : WX) (f : Env → M D) : TE := fun σ H Q => ∃ H0 ρ c, CfOk K G c H ∧ Slots K G H0 c H ρ σ ∧ Post K G (POwn K G H) (fun cls dx H' => W cls dx σ H') c H (f ρ c.st) Q
def tT (W : WX) (f : Env → M Bool) : TT := fun σ H Q => ∃ H0 ρ c, CfOk K G c H ∧ Slots K G H0 c H ρ σ ∧ Post K G PBl (fun cls dx H' => W cls dx σ H') c H (f ρ c.st) Q
def tL (W : WX) (f : Env → M (List D)) : TA := fun σ H Q => ∃ H0 ρ c, CfOk K G c H ∧ Slots K G H0 c H ρ σ ∧ Post K G (PDens K G) (fun cls dx H' => W cls dx σ H') c H (f ρ c.st) Q
end
abbrev VE (G : ClsAt) (X : Cx) (W : WX) (e : Expr) (f : Env → M D) : Prop := PE X e (tV X.K G W f)
abbrev VR (G : ClsAt) (X : Cx) (W : WX) (e : Expr) (f : Env → M D) : Prop := PE X e (tR X.K G W f)
abbrev VN (G : ClsAt) (X : Cx) (W : WX) (e : Expr) (f : Env → M D) : Prop := PE X e (tN X.K G W f)
abbrev VT (G : ClsAt) (X : Cx) (W : WX) (e : Expr) (f : Env → M Bool) : Prop := PT X e (tT X.K G W f)
abbrev VA (G : ClsAt) (X : Cx) (W : WX) (es : List Expr) (f : Env → M (List D)) : Prop := PA X es (tL X.K G W f)

theorem PE.imp {X : Cx} {e : Expr} {t t' : TE} (h : PE X e t) (i : ∀ σ H Q, t' σ H Q → t σ H Q) : PE X e t' := ⟨fun pins s σ H Q I q => h.run pins s σ H Q I (i σ H Q q)⟩
theorem PT.imp {X : Cx} {e : Expr} {t t' : TT} (h : PT X e t) (i : ∀ σ H Q, t' σ H Q → t σ H Q) : PT X e t' := ⟨fun pins s σ H Q I q => h.run pins s σ H Q I (i σ H Q q)⟩
theorem PA.imp {X : Cx} {e : List Expr} {t t' : TA} (h : PA X e t) (i : ∀ σ H Q, t' σ H Q → t σ H Q) : PA X e t' := ⟨fun pos pins s σ H Q I q => h.run pos pins s σ H Q I (i σ H Q q)⟩
theorem PS.imp {X : Cx} {e : Stmt} {t t' : TS} (h : PS X e t) (i : ∀ D σ H, t' D σ H → t D σ H) : PS X e t' := ⟨fun pins s σ H D I q => h.run pins s σ H D I (i D σ H q)⟩
theorem PSs.imp {X : Cx} {e : List Stmt} {t t' : TS} (h : PSs X e t) (i : ∀ D σ H, t' D σ H → t D σ H) : PSs X e t' := ⟨fun pins s σ H D I q => h.run pins s σ H D I (i D σ H q)⟩

section
variable {K : PySem.W.Frag} {G : ClsAt} {α β γ δ : Type}
/-- one step behind another -/
theorem Post.bind {P : Cf → Hp → α → β → Prop} {P' : Cf → Hp → γ → δ → Prop} {E : XK} {c : Cf} {H : Hp} {r : R α} {f : α → M γ} {Q : δ → Hp → Prop}
    (h : Post K G P' E c H (match r with | .ok a s' => f a s' | .err e s' => .err e s' | .no => .no) Q) :
    Post K G P E c H r fun v H' => ∃ a c', Ext c H c' H' ∧ CfOk K G c' H' ∧ P c' H' a v ∧ Post K G P' E c' H' (f a c'.st) Q := by
  cases r with
  | no => exact h
  | err e s' => exact h
  | ok a s' =>
    intro v F' As' H' x o p
    refine ⟨a, _, x, o, p, ?_⟩
    have h : Post K G P' E c H (f a s') Q := h
    show Post K G P' E ⟨F', As', s'⟩ H' (f a s') Q
    cases q : f a s' with
    | no => rw [q] at h; exact h
    | err e s'' => rw [q] at h; exact fun F2 As2 H2 cls dx x2 o2 z => h F2 As2 H2 cls dx (x.trans x2) o2 z
    | ok b s'' => rw [q] at h; exact fun w F2 As2 H2 x2 o2 z => h w F2 As2 H2 (x.trans x2) o2 z
theorem Post.imp {P P' : Cf → Hp → α → β → Prop} {E E' : XK} {c : Cf} {H : Hp} {r : R α} {Q Q' : β → Hp → Prop} (h : Post K G P E c H r Q) (hp : ∀ c' H' a v, Ext c H c' H' → CfOk K G c' H' → P' c' H' a v → P c' H' a v) (hq : ∀ v H', Q v H' → Q' v H')
    (he : ∀ cls dx H', E cls dx H' → E' cls dx H') : Post K G P' E' c H r Q' := by
  cases r with
  | no => exact h
  | err e s' => exact fun F' As' H' cls dx x o z => he _ _ _ (h F' As' H' cls dx x o z)
  | ok a s' => exact fun v F' As' H' x o p => hq _ _ (h v F' As' H' x o (hp _ _ _ _ x o p))
/-- a value at hand -/
theorem Post.here {P : Cf → Hp → α → β → Prop} {E : XK} {c : Cf} {H : Hp} {a : α} {Q : β → Hp → Prop} (h : Post K G P E c H (.ok a c.st) Q) (o : CfOk K G c H) {v : β} {H' : Hp} (g : ∀ a u, H a = some u → H' a = some u) (p : P c H' a v) : Q v H' :=
  h v c.F c.As H' (Ext.heap g) (o.grow g) p
end
end PV
end

section
namespace PV
open PySem PySem.Spec L2
open PyProof.Rows hiding St

abbrev SIZE : Nat := 1000000

section
variable {K : PySem.W.Frag} {G : ClsAt} {W : WX} {α β γ δ : Type} {σ : L2.St} {H H0 : Hp} {ρ : Env} {c : Cf}
theorem tR_step {f : M D} {fe : Env → M D} {k : D → M γ} {P' : Cf → Hp → γ → δ → Prop} {Q' : δ → Hp → Prop} {R : VK} (e : fe ρ = f) (o : CfOk K G c H) (sl : Slots K G H0 c H ρ σ)
    (post : Post K G P' (fun cls dx H' => W cls dx σ H') c H ((f >>= k) c.st) Q')
    (next : ∀ d v c' H', Ext c H c' H' → CfOk K G c' H' → Slots K G H0 c' H' ρ σ → DenT K G c' H' d v → Post K G P' (fun cls dx H' => W cls dx σ H') c' H' (k d c'.st) Q' → R v H') : tR K G W fe σ H R := by
  refine ⟨H0, ρ, c, o, sl, ?_⟩
  rw [e]
  exact (Post.bind (P := PTop K G) (f := k) post).imp (fun _ _ _ _ _ _ p => p) (fun v H' ⟨d, c', x, o', p, q⟩ => next d v c' H' x o' (sl.ext x) p q) fun _ _ _ z => z
theorem tV_step {f : M D} {fe : Env → M D} {k : D → M γ} {P' : Cf → Hp → γ → δ → Prop} {Q' : δ → Hp → Prop} {R : VK} (e : fe ρ = f) (o : CfOk K G c H) (sl : Slots K G H0 c H ρ σ)
    (post : Post K G P' (fun cls dx H' => W cls dx σ H') c H ((f >>= k) c.st) Q')
    (next : ∀ d v c' H', Ext c H c' H' → CfOk K G c' H' → Slots K G H0 c' H' ρ σ → Den K G c'.As c'.F d v → Post K G P' (fun cls dx H' => W cls dx σ H') c' H' (k d c'.st) Q' → R v H') : tV K G W fe σ H R := by
  refine ⟨H0, ρ, c, o, sl, ?_⟩
  rw [e]
  exact (Post.bind (P := PDen K G) (f := k) post).imp (fun _ _ _ _ _ _ p => p) (fun v H' ⟨d, c', x, o', p, q⟩ => next d v c' H' x o' (sl.ext x) p q) fun _ _ _ z => z
theorem tT_step {f : M Bool} {fe : Env → M Bool} {k : Bool → M γ} {P' : Cf → Hp → γ → δ → Prop} {Q' : δ → Hp → Prop} {R : Bool → Hp → Prop} (e : fe ρ = f) (o : CfOk K G c H) (sl : Slots K G H0 c H ρ σ)
    (post : Post K G P' (fun cls dx H' => W cls dx σ H') c H ((f >>= k) c.st) Q')
    (next : ∀ b c' H', Ext c H c' H' → CfOk K G c' H' → Slots K G H0 c' H' ρ σ → Post K G P' (fun cls dx H' => W cls dx σ H') c' H' (k b c'.st) Q' → R b H') : tT K G W fe σ H R := by
  refine ⟨H0, ρ, c, o, sl, ?_⟩
  rw [e]
  exact (Post.bind (P := PBl) (f := k) post).imp (fun _ _ _ _ _ _ p => p) (fun v H' ⟨d, c', x, o', p, q⟩ => next v c' H' x o' (sl.ext x) (by cases (show d = v from p); exact q)) fun _ _ _ z => z
theorem tL_step {f : M (List D)} {fe : Env → M (List D)} {k : List D → M γ} {P' : Cf → Hp → γ → δ → Prop} {Q' : δ → Hp → Prop} {R : List V → Hp → Prop} (e : fe ρ = f) (o : CfOk K G c H) (sl : Slots K G H0 c H ρ σ)
    (post : Post K G P' (fun cls dx H' => W cls dx σ H') c H ((f >>= k) c.st) Q')
    (next : ∀ d v c' H', Ext c H c' H' → CfOk K G c' H' → Slots K G H0 c' H' ρ σ → DenL K G c'.As c'.F d v → Post K G P' (fun cls dx H' => W cls dx σ H') c' H' (k d c'.st) Q' → R v H') : tL K G W fe σ H R := by
  refine ⟨H0, ρ, c, o, sl, ?_⟩
  rw [e]
  exact (Post.bind (P := PDens K G) (f := k) post).imp (fun _ _ _ _ _ _ p => p) (fun v H' ⟨d, c', x, o', p, q⟩ => next d v c' H' x o' (sl.ext x) p q) fun _ _ _ z => z
end

section
variable {G : ClsAt} {X : Cx} {W : WX}
/-! from one judgement to another -/
theorem VE.r {e : Expr} {f : Env → M D} (h : VE G X W e f) : VR G X W e f := PE.imp h fun σ H Q ⟨H0, ρ, c, o, sl, p⟩ => ⟨H0, ρ, c, o, sl, p.imp (fun _ _ _ _ _ _ z => .inl z) (fun _ _ q => q) fun _ _ _ q => q⟩
/-- a new object is shared from now on -/
theorem share_at {K : PySem.W.Frag} {c c' : Cf} {H H' : Hp} {d : D} {v : V} (x : Ext c H c' H') (o : CfOk K G c' H') (p : POwn K G H c' H' d v) :
    ∃ F2, Ext c H ⟨F2, c'.As, c'.st⟩ H' ∧ CfOk K G ⟨F2, c'.As, c'.st⟩ H' ∧ Den K G c'.As F2 d v := by
  obtain ⟨a, rfl, hn, n, f, w⟩ := p
  have key : ∀ u, H' a = some u → Ext c H ⟨upd c'.F a u, c'.As, c'.st⟩ H' ∧ CfOk K G ⟨upd c'.F a u, c'.As, c'.st⟩ H' := fun u hu => by
    refine ⟨⟨fun b o h n => (x.keep b o h n).up (sub_upd f), x.there, Sub.trans x.sub (sub_upd f), fun b o q => ?_, x.pre, x.anew⟩, o.share hu n f⟩
    by_cases z : b = a
    · subst z; exact .inr hn
    · have q' : upd c'.F a u b = some o := q
      rw [upd_ne z] at q'
      exact x.new b o q'
  cases d with
  | lst xs =>
    obtain ⟨vs, h, l⟩ := w
    exact ⟨_, (key _ h).1, (key _ h).2, .lst (SqL.of upd_same) (l.mono (sub_upd f) List.prefix_rfl)⟩
  | dic ks =>
    obtain ⟨vs, h, l⟩ := w
    exact ⟨_, (key _ h).1, (key _ h).2, .dic (.inl upd_same) (l.mono (sub_upd f) List.prefix_rfl)⟩
  | ins k fs =>
    obtain ⟨dx, vs, h, l⟩ := w
    exact ⟨_, (key _ h).1, (key _ h).2, .ins upd_same (l.mono (sub_upd f) List.prefix_rfl)⟩
  | _ => exact w.elim
theorem Post.own {K : PySem.W.Frag} {E : XK} {c : Cf} {H : Hp} {r : R D} {Q : VK} (h : Post K G (PDen K G) E c H r Q) : Post K G (POwn K G H) E c H r Q := by
  cases r with
  | no => exact h
  | err e s' => exact h
  | ok a s' =>
    intro v F' As' H' x o p
    obtain ⟨F2, x2, o2, p2⟩ := share_at x o p
    exact h v F2 As' H' x2 o2 p2
theorem VN.e {e : Expr} {f : Env → M D} (h : VN G X W e f) : VE G X W e f := PE.imp h fun σ H Q ⟨H0, ρ, c, o, sl, p⟩ => ⟨H0, ρ, c, o, sl, p.own⟩

/-! names, constants -/
def getV (i : Nat) (ρ : Env) : M D := match ρ[i]? with
  | some (.val d) => pure d
  | _ => no
def getR (i : Nat) (ρ : Env) : M D := match ρ[i]? with
  | some (.val d) => pure d
  | some (.own d) => pure d
  | _ => no
theorem ve_var {x : Str} {pos : Pos} (i : Nat) (hN : X.N[i]? = some x := by rfl) (hv : Vis X.env.scope x := by first | exact Or.inl rfl | exact Or.inr (Or.inl rfl) | exact Or.inr (Or.inr rfl)) (hd : (x == ("__debug__" : Str)) = false := by decide)
    (hcd : (x == ("__classdict__" : Str)) = false := by decide) : VE G X W (.Name x pos) (getV i) := PE.imp (pe_var (i := i) hN hv hd hcd) fun σ H Q ⟨H0, ρ, c, o, sl, p⟩ => by
  unfold getV at p
  cases e : ρ[i]? with
  | none => rw [e] at p; exact p.elim
  | some s =>
    rw [e] at p
    cases s with
    | val d =>
      have hl : i < σ.length := by rw [← sl.len]; exact (List.getElem?_eq_some_iff.mp e).1
      obtain ⟨v, e2, h⟩ := sl.ok i _ _ e (List.getElem?_eq_getElem hl)
      refine ⟨v, by rw [List.getElem?_eq_getElem hl, e2], ?_⟩
      exact p.here o (fun _ _ h => h) h
    | no => exact p.elim
    | own d => exact p.elim
theorem vr_var {x : Str} {pos : Pos} (i : Nat) (hN : X.N[i]? = some x := by rfl) (hv : Vis X.env.scope x := by first | exact Or.inl rfl | exact Or.inr (Or.inl rfl) | exact Or.inr (Or.inr rfl)) (hd : (x == ("__debug__" : Str)) = false := by decide)
    (hcd : (x == ("__classdict__" : Str)) = false := by decide) : VR G X W (.Name x pos) (getR i) := PE.imp (pe_var (i := i) hN hv hd hcd) fun σ H Q ⟨H0, ρ, c, o, sl, p⟩ => by
  unfold getR at p
  cases e : ρ[i]? with
  | none => rw [e] at p; exact p.elim
  | some s =>
    rw [e] at p
    cases s with
    | val d =>
      have hl : i < σ.length := by rw [← sl.len]; exact (List.getElem?_eq_some_iff.mp e).1
      obtain ⟨v, e2, h⟩ := sl.ok i _ _ e (List.getElem?_eq_getElem hl)
      refine ⟨v, by rw [List.getElem?_eq_getElem hl, e2], ?_⟩
      exact p.here o (fun _ _ h => h) (.inl h)
    | no => exact p.elim
    | own d =>
      have hl : i < σ.length := by rw [← sl.len]; exact (List.getElem?_eq_some_iff.mp e).1
      obtain ⟨a, e2, f, n, h⟩ := sl.ok i _ _ e (List.getElem?_eq_getElem hl)
      refine ⟨_, by rw [List.getElem?_eq_getElem hl, e2], ?_⟩
      exact p.here o (fun _ _ h => h) (.inr ⟨a, rfl, n, f, h⟩)
theorem ve_int {i : Int} {j : Nat} {pos : Pos} : VE G X W (.Constant (.int i) j pos) (fun _ => pure (.int i)) := PE.imp pe_int fun σ H Q ⟨H0, ρ, c, o, sl, p⟩ => p.here o (fun _ _ h => h) .int
theorem ve_bl {b : Bool} {j : Nat} {pos : Pos} : VE G X W (.Constant (.bool b) j pos) (fun _ => pure (.bl b)) := PE.imp pe_bl fun σ H Q ⟨H0, ρ, c, o, sl, p⟩ => p.here o (fun _ _ h => h) .bl
theorem ve_non {j : Nat} {pos : Pos} : VE G X W (.Constant .none j pos) (fun _ => pure .non) := PE.imp pe_non fun σ H Q ⟨H0, ρ, c, o, sl, p⟩ => p.here o (fun _ _ h => h) .non
theorem ve_str {x : Str} {j : Nat} {pos : Pos} : VE G X W (.Constant (.str x) j pos) (fun _ => pure (.str x)) := PE.imp pe_str fun σ H Q ⟨H0, ρ, c, o, sl, p⟩ => p.here o (fun _ _ h => h) .str
theorem ve_gint {x : Str} {i : Int} {t : Tok} {pos : Pos} (hm : X.mg x = some (.int i t)) (hg : Gl X x := by rfl) (hd : (x == ("__debug__" : Str)) = false := by decide) : VE G X W (.Name x pos) (fun _ => pure (.int i)) :=
  PE.imp (pe_glob (v := .int i) hg hm ⟨t, rfl⟩ hd) fun σ H Q ⟨H0, ρ, c, o, sl, p⟩ => p.here o (fun _ _ h => h) .int
theorem ve_gstr {x z : Str} {t : Tok} {pos : Pos} (hm : X.mg x = some (.str z t)) (hg : Gl X x := by rfl) (hd : (x == ("__debug__" : Str)) = false := by decide) : VE G X W (.Name x pos) (fun _ => pure (.str z)) :=
  PE.imp (pe_glob (v := .str z) hg hm ⟨t, rfl⟩ hd) fun σ H Q ⟨H0, ρ, c, o, sl, p⟩ => p.here o (fun _ _ h => h) .str
theorem ve_gcls {x k : Str} {pos : Pos} (hm : X.mg x = some (.ref (G k))) (hg : Gl X x := by rfl) (hd : (x == ("__debug__" : Str)) = false := by decide) : VE G X W (.Name x pos) (fun _ => pure (.cls k)) :=
  PE.imp (pe_glob (v := .ref (G k)) hg hm rfl hd) fun σ H Q ⟨H0, ρ, c, o, sl, p⟩ => p.here o (fun _ _ h => h) .cls
theorem ve_ty {x : Str} {n : String} {pos : Pos} (hm : X.mg x = none) (hv : bootBuiltins x = some (.type n)) (hg : Gl X x := by rfl) (hn : x ≠ "__name__" := by decide) (hd : (x == ("__debug__" : Str)) = false := by decide) : VE G X W (.Name x pos) (fun _ => pure (.ty n)) :=
  PE.imp (pe_bltn (v := .ty n) hg hm hv rfl hn hd) fun σ H Q ⟨H0, ρ, c, o, sl, p⟩ => p.here o (fun _ _ h => h) .ty

/-! two operands -/
/-- an operation by values: what its mirror asks is what its rule asks -/
def Op2 (X : Cx) (G : ClsAt) (r : R2) (P : Cf → Hp → Cf → Hp → D → V → Prop) (F2 : D → D → M D) : Prop := ∀ (c : Cf) (H : Hp) (x y : D) (v w : V) (E : XK) (Q : VK), CfOk X.K G c H → DenT X.K G c H x v → DenT X.K G c H y w → Post X.K G (P c H) E c H (F2 x y c.st) Q → r v w H Q
theorem ve_op {a b : Expr} {f g : Env → M D} {op : Operator} {r : R2} {F2 : D → D → M D} {pos : Pos} (ho : OpR X (binaryOp op) r) (h2 : Op2 X G r (fun _ _ => PDen X.K G) F2) (ha : VR G X W a f) (hb : VR G X W b g) : VE G X W (.BinOp a op b pos) (fun ρ => do let x ← f ρ; let y ← g ρ; F2 x y) :=
  PE.imp (pe_op ho ha hb) fun σ H Q ⟨H0, ρ, c, o, sl, p⟩ => tR_step rfl o sl p fun x v c1 H1 x1 o1 sl1 t1 p1 => tR_step rfl o1 sl1 p1 fun y w c2 H2 x2 o2 sl2 t2 p2 => h2 _ _ _ _ _ _ _ _ o2 (t1.ext x2) t2 p2
theorem vn_op {a b : Expr} {f g : Env → M D} {op : Operator} {r : R2} {F2 : D → D → M D} {pos : Pos} (ho : OpR X (binaryOp op) r) (h2 : Op2 X G r (fun _ H => POwn X.K G H) F2) (ha : VR G X W a f) (hb : VR G X W b g) : VN G X W (.BinOp a op b pos) (fun ρ => do let x ← f ρ; let y ← g ρ; F2 x y) :=
  PE.imp (pe_op ho ha hb) fun σ H Q ⟨H0, ρ, c, o, sl, p⟩ => tR_step rfl o sl p fun x v c1 H1 x1 o1 sl1 t1 p1 => tR_step rfl o1 sl1 p1 fun y w c2 H2 x2 o2 sl2 t2 p2 => h2 _ _ _ _ _ _ _ _ o2 (t1.ext x2) t2
    (p2.imp (P' := POwn X.K G H2) (fun c' H' d v _ _ ⟨a, e1, e2, e3⟩ => ⟨a, e1, (x1.trans x2).none e2, e3⟩) (fun _ _ q => q) fun _ _ _ q => q)
end
end PV
end

section
namespace PV
open PySem PySem.Spec L2
open PyProof.Rows hiding St

/-! new objects -/
def keyD : Key → D
  | .inl i => .int i
  | .inr s => .str s
theorem keyD_den {K : PySem.W.Frag} {G : ClsAt} {As : List Addr} {F : Hp} : ∀ {k : Key}, Den K G As F (keyD k) (kV k)
  | .inl _ => .int
  | .inr _ => .str
abbrev keysD (ks : List (Key × D)) : List D := ks.map fun p => keyD p.1
section
variable {K : PySem.W.Frag} {G : ClsAt} {c : Cf} {H : Hp} {E : XK} {Q : VK} {d : D} {p : Addr} {u : HO}
theorem upd_keep (hp : H p = none) : ∀ a o, H a = some o → upd H p u a = some o := fun a o q => by rw [upd_ne (fun z => by rw [z, hp] at q; cases q)]; exact q
theorem CfOk.notAs (o : CfOk K G c H) (hp : H p = none) : p ∉ c.As := fun z => by
  obtain ⟨_, u, hu⟩ := o.mem z
  rw [hp] at hu; cases hu
theorem Post.newOwn (h : Post K G (POwn K G H) E c H (.ok d c.st) Q) (o : CfOk K G c H) (hp : H p = none) (w : OwnAt K G c.As c.F (upd H p u) p d) : Q (.ref p) (upd H p u) :=
  h.here o (upd_keep hp) ⟨p, rfl, hp, o.notAs hp, o.le.none hp, w⟩
theorem Post.newDen (h : Post K G (PDen K G) E c H (.ok d c.st) Q) (o : CfOk K G c H) (hp : H p = none) (w : OwnAt K G c.As c.F (upd H p u) p d) : Q (.ref p) (upd H p u) := h.own.newOwn o hp w
/-- a new tuple -/
theorem Post.newTup {ds : List D} {vs : List V} (h : Post K G (PDen K G) E c H (.ok (.tup ds) c.st) Q) (o : CfOk K G c H) (hp : H p = none) (l : DenL K G c.As c.F ds vs) : Q (.ref p) (upd H p (.tup vs)) := by
  have f := o.le.none hp
  have o2 : CfOk K G c (upd H p (.tup vs)) := o.grow (upd_keep hp)
  have o3 := o2.share (a := p) (u := .tup vs) upd_same (o.notAs hp) f
  refine h (.ref p) _ c.As _ ⟨fun a u q _ => .inl (upd_keep hp a u q), fun a u q => ⟨u, upd_keep hp a u q⟩, sub_upd (u := .tup vs) f, fun a u q => ?_, List.prefix_rfl, fun _ z => .inl z⟩ o3 (.tup (SqT.of upd_same) (l.mono (sub_upd f) List.prefix_rfl))
  by_cases z : a = p
  · rw [z]; exact .inr hp
  · have q' : upd c.F p (.tup vs) a = some u := q
    rw [upd_ne z] at q'
    exact .inl q'
end

section
variable {X : Cx} {G : ClsAt}
def rCatL (K : PySem.W.Frag) : R2 := fun x y H Q => ∃ l b xs zs, x = .ref l ∧ y = .ref b ∧ SqL K H l xs ∧ SqL K H b zs ∧ xs.length + zs.length ≤ sizeLine ∧ ∀ p, H p = none → Q (.ref p) (upd H p (.lst (xs ++ zs)))
theorem op_catL : OpR X (binaryOp .Add) (rCatL X.K) := by
  intro pins s σ H x y v u Q I rx ry h
  obtain ⟨l, b, xs, zs, rfl, rfl, hH, hB, hz, q⟩ := h
  cases rx
  cases ry
  obtain ⟨its, r, ⟨⟨c1, d1, t1, s1⟩, n, e, hc, hd, ht⟩, _⟩ := I.list hH
  obtain ⟨its2, r2, ⟨⟨c2, d2, t2, s2⟩, n2, e2, hc2, hd2, ht2⟩, _⟩ := I.list hB
  simp only at hc hd ht hc2 hd2 ht2
  subst hc hd ht hc2 hd2 ht2
  have l1 := r.length
  have l2 := r2.length
  refine concat_meets ⟨_, e, rfl⟩ ⟨_, e2, rfl⟩ noFill_list_add seq_list_add PySem.F.slot_list_add PySem.F.entry_list_add (PySem.F.args_list_add_2 _ _)
    (list_addW l b its.toArray its2.toArray n n2 Option.none Option.none s1 s2 (by rw [List.size_toArray, List.size_toArray]; omega)) ⟨e, e2, ?_⟩
  have ea : its.toArray ++ its2.toArray = (its ++ its2).toArray := by simp
  rw [ea]
  refine ⟨.ref s.heap.objs.size, _, I.laid (t' := s.toks) (o := .lst (xs ++ zs)) (fun b ob q => Heap.get?_push_of_some _ q) (Nat.le_refl _) ?_, rfl, q _ (I.hok.fresh (Nat.le_refl _))⟩
  exact ⟨by rw [List.length_append]; exact hz, _, 0, r.append r2, Heap.get?_push_size _ rfl⟩
end

/-! mirrors of the operations -/
def addD : D → D → M D
  | .int i, .int j => pure (.int (i + j))
  | .str a, .str b => if a.length + b.length ≤ SIZE then pure (.str (a ++ b)) else no
  | .lst xs, .lst ys => if xs.length + ys.length ≤ SIZE then pure (.lst (xs ++ ys)) else no
  | _, _ => no
def catD : D → D → M D
  | .lst xs, .lst ys => if xs.length + ys.length ≤ SIZE then pure (.lst (xs ++ ys)) else no
  | _, _ => no
def subD : D → D → M D
  | .int i, .int j => pure (.int (i - j))
  | _, _ => no
def mulD : D → D → M D
  | .int i, .int j => if i.natAbs.log2 + j.natAbs.log2 < 1000000 then pure (.int (i * j)) else no
  | _, _ => no
def fdivD : D → D → M D
  | .int i, .int j => if j ≠ 0 ∧ j.natAbs.log2 < 9000 then pure (.int (i.fdiv j)) else no
  | _, _ => no
def modD : D → D → M D
  | .int i, .int j => if j ≠ 0 then pure (.int (i.fmod j)) else no
  | _, _ => no
def powD : D → D → M D
  | .int i, .int j => if 0 ≤ j ∧ j ≤ 1000000 ∧ i.natAbs < 2 ^ 64 then pure (.int (i ^ j.toNat)) else no
  | _, _ => no
def ltD : D → D → M D
  | .int i, .int j => pure (.bl (decide (i < j)))
  | .str a, .str b => pure (.bl (decide (a.cps.toList < b.cps.toList)))
  | _, _ => no
def leD : D → D → M D
  | .int i, .int j => pure (.bl (decide (i ≤ j)))
  | .str a, .str b => pure (.bl (!decide (b.cps.toList < a.cps.toList)))
  | _, _ => no
def gtD : D → D → M D
  | .int i, .int j => pure (.bl (decide (j < i)))
  | .str a, .str b => pure (.bl (decide (b.cps.toList < a.cps.toList)))
  | _, _ => no
def geD : D → D → M D
  | .int i, .int j => pure (.bl (decide (j ≤ i)))
  | .str a, .str b => pure (.bl (!decide (a.cps.toList < b.cps.toList)))
  | _, _ => no
/-- data without instances, dicts; at most n deep -/
def D.py : Nat → D → Option PyData
  | _, .non => some .none
  | _, .bl b => some (.bool b)
  | _, .int i => some (.int i)
  | _, .str s => if PyData.strOk s = true then some (.str s) else none
  | n + 1, .lst xs => (xs.mapM (D.py n)).map .list
  | n + 1, .tup xs => (xs.mapM (D.py n)).map .tuple
  | _, _ => none
def eqB : D → D → M Bool
  | .str a, .str b => pure (decide (a = b))
  | x, y => match D.py 8 x, D.py 8 y with
    | some a, some b => pure (PyData.eqv a b)
    | _, _ => no
def eqD (x y : D) : M D := do let b ← eqB x y; pure (.bl b)
def neD (x y : D) : M D := do let b ← eqB x y; pure (.bl !b)
def isNonB : D → Bool
  | .non => true
  | _ => false
def D.flat : D → Option V
  | .non => some .non
  | .bl b => some (.bl b)
  | .int i => some (.int i)
  | .str s => some (.str s)
  | _ => none
def D.key : D → Option Key
  | .int i => some (.inl i)
  | .str s => some (.inr s)
  | _ => none
def getK (ks : List (Key × D)) (k : Key) : Option D := (ks.find? fun p => decide (p.1 = k)).map (·.2)
def inB : D → D → M Bool
  | .str s, .str z => match s.cps.toList with
    | [ch] => pure (decide (ch ∈ z.cps.toList))
    | _ => no
  | x, .lst ys => match D.flat x, ys.mapM D.flat with
    | some v, some vs => pure (inV v vs)
    | _, _ => no
  | x, .tup ys => match D.flat x, ys.mapM D.flat with
    | some v, some vs => pure (inV v vs)
    | _, _ => no
  | x, .dic ks => match D.key x with
    | some k => pure (getK ks k).isSome
    | none => no
  | _, _ => no
def inD (x y : D) : M D := do let b ← inB x y; pure (.bl b)
def notInD (x y : D) : M D := do let b ← inB x y; pure (.bl !b)

theorem sz {n : Nat} (h : n ≤ SIZE) : n ≤ sizeLine := Nat.le_trans h (by rw [sizeLine_eq]; decide)

/-! they are what the rules say -/
section
variable {X : Cx} {G : ClsAt}
abbrev P0 (X : Cx) (G : ClsAt) : Cf → Hp → Cf → Hp → D → V → Prop := fun _ _ => PDen X.K G
theorem elim_no {K : PySem.W.Frag} {α β : Type} {P : Cf → Hp → α → β → Prop} {E : XK} {c : Cf} {H : Hp} {Q : β → Hp → Prop} {Z : Prop} (h : Post K G P E c H (.no : R α) Q) : Z := h.elim
theorem post_if {K : PySem.W.Frag} {α β : Type} {P : Cf → Hp → α → β → Prop} {E : XK} {c : Cf} {H : Hp} {Q : β → Hp → Prop} {p : Prop} [Decidable p] {x : M α} {s : Stt} (h : Post K G P E c H ((if p then x else no) s) Q) : p ∧ Post K G P E c H (x s) Q := by
  by_cases q : p
  · rw [if_pos q] at h; exact ⟨q, h⟩
  · rw [if_neg q] at h; exact h.elim

def rAddA (K : PySem.W.Frag) : R2 := fun x y H Q => rI0 (fun i j => .int (i + j)) x y H Q ∨ (∃ i j, x = .str i ∧ y = .str j ∧ i.length + j.length ≤ sizeLine ∧ Q (.str (i ++ j)) H) ∨ rCatL K x y H Q
theorem op_addA : OpR X (binaryOp .Add) (rAddA X.K) := op_add.or (op_add_str.or op_catL)
theorem h_add : Op2 X G (rAddA X.K) (P0 X G) addD := by
  intro c H x y v w E Q o tx ty p
  unfold addD at p
  split at p
  · cases tx.int; cases ty.int
    exact .inl ⟨_, _, rfl, rfl, p.here o (fun _ _ h => h) .int⟩
  · cases tx.str; cases ty.str
    obtain ⟨hz, p⟩ := post_if p
    exact .inr (.inl ⟨_, _, rfl, rfl, sz hz, p.here o (fun _ _ h => h) .str⟩)
  · obtain ⟨a, vs, rfl, ha, la⟩ := tx.lst o
    obtain ⟨b, ws, rfl, hb, lb⟩ := ty.lst o
    obtain ⟨hz, p⟩ := post_if p
    exact .inr (.inr ⟨a, b, vs, ws, rfl, rfl, ha, hb, by rw [← la.length, ← lb.length]; exact sz hz, fun q hq => p.newDen o hq ⟨_, upd_same, la.app lb⟩⟩)
  · exact p.elim
theorem h_cat : Op2 X G (rCatL X.K) (fun _ H => POwn X.K G H) catD := by
  intro c H x y v w E Q o tx ty p
  unfold catD at p
  split at p
  · obtain ⟨a, vs, rfl, ha, la⟩ := tx.lst o
    obtain ⟨b, ws, rfl, hb, lb⟩ := ty.lst o
    obtain ⟨hz, p⟩ := post_if p
    exact ⟨a, b, vs, ws, rfl, rfl, ha, hb, by rw [← la.length, ← lb.length]; exact sz hz, fun q hq => p.newOwn o hq ⟨_, upd_same, la.app lb⟩⟩
  · exact p.elim
theorem h_sub : Op2 X G (rI0 fun i j => .int (i - j)) (P0 X G) subD := by
  intro c H x y v w E Q o tx ty p
  unfold subD at p
  split at p
  · cases tx.int; cases ty.int
    exact ⟨_, _, rfl, rfl, p.here o (fun _ _ h => h) .int⟩
  · exact p.elim
theorem h_mul : Op2 X G (rI CMulW fun i j => .int (i * j)) (P0 X G) mulD := by
  intro c H x y v w E Q o tx ty p
  unfold mulD at p
  split at p
  · cases tx.int; cases ty.int
    obtain ⟨hz, p⟩ := post_if p
    exact ⟨_, _, rfl, rfl, hz, p.here o (fun _ _ h => h) .int⟩
  · exact p.elim
def CFd (i j : Int) : Prop := j ≠ 0 ∧ j.natAbs.log2 < 9000
theorem op_fdivA : OpR X (binaryOp .FloorDiv) (rI CFd fun i j => .int (i.fdiv j)) := opI fun i j _ _ _ _ _ hc q => floordiv_int hc.1 q (.inl (PyProof.noPylong_of_log2 hc.2))
theorem h_fdiv : Op2 X G (rI CFd fun i j => .int (i.fdiv j)) (P0 X G) fdivD := by
  intro c H x y v w E Q o tx ty p
  unfold fdivD at p
  split at p
  · cases tx.int; cases ty.int
    obtain ⟨hz, p⟩ := post_if p
    exact ⟨_, _, rfl, rfl, hz, p.here o (fun _ _ h => h) .int⟩
  · exact p.elim
theorem h_mod : Op2 X G (rI (fun _ j => j ≠ 0) fun i j => .int (i.fmod j)) (P0 X G) modD := by
  intro c H x y v w E Q o tx ty p
  unfold modD at p
  split at p
  · cases tx.int; cases ty.int
    obtain ⟨hz, p⟩ := post_if p
    exact ⟨_, _, rfl, rfl, hz, p.here o (fun _ _ h => h) .int⟩
  · exact p.elim
theorem h_pow : Op2 X G (rI CPow fun i j => .int (i ^ j.toNat)) (P0 X G) powD := by
  intro c H x y v w E Q o tx ty p
  unfold powD at p
  split at p
  · cases tx.int; cases ty.int
    obtain ⟨hz, p⟩ := post_if p
    exact ⟨_, _, rfl, rfl, hz, p.here o (fun _ _ h => h) .int⟩
  · exact p.elim

def rOrd (f : Int → Int → Bool) (g : Str → Str → Bool) : R2 := fun x y H Q => rI0 (fun i j => .bl (f i j)) x y H Q ∨ ∃ i j, x = .str i ∧ y = .str j ∧ Q (.bl (g i j)) H
theorem op_ltA : OpR X (compareOp .Lt) (rOrd (fun i j => decide (i < j)) fun a b => decide (a.cps.toList < b.cps.toList)) := op_lt.or op_lt_str
theorem op_leA : OpR X (compareOp .LtE) (rOrd (fun i j => decide (i ≤ j)) fun a b => !decide (b.cps.toList < a.cps.toList)) := op_le.or op_le_str
theorem op_gtA : OpR X (compareOp .Gt) (rOrd (fun i j => decide (j < i)) fun a b => decide (b.cps.toList < a.cps.toList)) := op_gt.or op_gt_str
theorem op_geA : OpR X (compareOp .GtE) (rOrd (fun i j => decide (j ≤ i)) fun a b => !decide (a.cps.toList < b.cps.toList)) := op_ge.or op_ge_str
theorem h_lt : Op2 X G (rOrd (fun i j => decide (i < j)) fun a b => decide (a.cps.toList < b.cps.toList)) (P0 X G) ltD := by
  intro c H x y v w E Q o tx ty p
  unfold ltD at p
  split at p
  · cases tx.int; cases ty.int; exact .inl ⟨_, _, rfl, rfl, p.here o (fun _ _ h => h) .bl⟩
  · cases tx.str; cases ty.str; exact .inr ⟨_, _, rfl, rfl, p.here o (fun _ _ h => h) .bl⟩
  · exact p.elim
theorem h_le : Op2 X G (rOrd (fun i j => decide (i ≤ j)) fun a b => !decide (b.cps.toList < a.cps.toList)) (P0 X G) leD := by
  intro c H x y v w E Q o tx ty p
  unfold leD at p
  split at p
  · cases tx.int; cases ty.int; exact .inl ⟨_, _, rfl, rfl, p.here o (fun _ _ h => h) .bl⟩
  · cases tx.str; cases ty.str; exact .inr ⟨_, _, rfl, rfl, p.here o (fun _ _ h => h) .bl⟩
  · exact p.elim
theorem h_gt : Op2 X G (rOrd (fun i j => decide (j < i)) fun a b => decide (b.cps.toList < a.cps.toList)) (P0 X G) gtD := by
  intro c H x y v w E Q o tx ty p
  unfold gtD at p
  split at p
  · cases tx.int; cases ty.int; exact .inl ⟨_, _, rfl, rfl, p.here o (fun _ _ h => h) .bl⟩
  · cases tx.str; cases ty.str; exact .inr ⟨_, _, rfl, rfl, p.here o (fun _ _ h => h) .bl⟩
  · exact p.elim
theorem h_ge : Op2 X G (rOrd (fun i j => decide (j ≤ i)) fun a b => !decide (a.cps.toList < b.cps.toList)) (P0 X G) geD := by
  intro c H x y v w E Q o tx ty p
  unfold geD at p
  split at p
  · cases tx.int; cases ty.int; exact .inl ⟨_, _, rfl, rfl, p.here o (fun _ _ h => h) .bl⟩
  · cases tx.str; cases ty.str; exact .inr ⟨_, _, rfl, rfl, p.here o (fun _ _ h => h) .bl⟩
  · exact p.elim

theorem py_ok : ∀ (n : Nat) (d : D) (p : PyData), D.py n d = some p → p.canLay0 = true ∧ p.depth ≤ n
  | n, .non, p, h => by cases n <;> (cases h; exact ⟨by simp [PyData.canLay0], by simp [PyData.depth]⟩)
  | n, .bl b, p, h => by cases n <;> (cases h; exact ⟨by simp [PyData.canLay0], by simp [PyData.depth]⟩)
  | n, .int b, p, h => by cases n <;> (cases h; exact ⟨by simp [PyData.canLay0], by simp [PyData.depth]⟩)
  | n, .str x, p, h => by
    have h' : (if PyData.strOk x = true then some (PyData.str x) else none) = some p := by cases n <;> exact h
    split at h'
    · rename_i hx; cases h'; exact ⟨by simp [PyData.canLay0, hx], by simp [PyData.depth]⟩
    · cases h'
  | 0, .lst xs, p, h | 0, .tup xs, p, h | 0, .dic xs, p, h | 0, .ins _ xs, p, h | 0, .cls xs, p, h | 0, .ty xs, p, h | 0, .obj xs, p, h | 0, .tab _ _, p, h => by cases h
  | n + 1, .dic xs, p, h | n + 1, .ins _ xs, p, h | n + 1, .cls xs, p, h | n + 1, .ty xs, p, h | n + 1, .obj xs, p, h | n + 1, .tab _ _, p, h => by cases h
  | n + 1, .lst xs, p, h => by
    have h : (xs.mapM (D.py n)).map PyData.list = some p := h
    obtain ⟨ps, h1, rfl⟩ := Option.map_eq_some_iff.mp h
    have key : ∀ (xs : List D) (ps : List PyData), xs.mapM (D.py n) = some ps → PyData.canLayAll0 ps = true ∧ PyData.depthAll ps ≤ n := by
      intro xs
      induction xs with
      | nil => intro ps h; cases h; exact ⟨by simp [PyData.canLayAll0], by simp [PyData.depthAll]⟩
      | cons x r ih =>
        intro ps h
        rw [List.mapM_cons] at h
        obtain ⟨q, h2, h3⟩ := Option.bind_eq_some_iff.mp h
        obtain ⟨qs, h4, h5⟩ := Option.bind_eq_some_iff.mp h3
        cases h5
        have a := py_ok n x q h2
        have b := ih qs h4
        exact ⟨by simp [PyData.canLayAll0, a.1, b.1], by simp only [PyData.depthAll]; omega⟩
    have := key xs ps h1
    exact ⟨by simp [PyData.canLay0, this.1], by simp only [PyData.depth]; omega⟩
  | n + 1, .tup xs, p, h => by
    have h : (xs.mapM (D.py n)).map PyData.tuple = some p := h
    obtain ⟨ps, h1, rfl⟩ := Option.map_eq_some_iff.mp h
    have key : ∀ (xs : List D) (ps : List PyData), xs.mapM (D.py n) = some ps → PyData.canLayAll0 ps = true ∧ PyData.depthAll ps ≤ n := by
      intro xs
      induction xs with
      | nil => intro ps h; cases h; exact ⟨by simp [PyData.canLayAll0], by simp [PyData.depthAll]⟩
      | cons x r ih =>
        intro ps h
        rw [List.mapM_cons] at h
        obtain ⟨q, h2, h3⟩ := Option.bind_eq_some_iff.mp h
        obtain ⟨qs, h4, h5⟩ := Option.bind_eq_some_iff.mp h3
        cases h5
        have a := py_ok n x q h2
        have b := ih qs h4
        exact ⟨by simp [PyData.canLayAll0, a.1, b.1], by simp only [PyData.depthAll]; omega⟩
    have := key xs ps h1
    exact ⟨by simp [PyData.canLay0, this.1], by simp only [PyData.depth]; omega⟩
theorem py_shaped {d : D} {p : PyData} (h : D.py 8 d = some p) : SeqAt.shaped p = true := by
  obtain ⟨a, b⟩ := py_ok 8 d p h
  unfold SeqAt.shaped
  rw [a, decide_eq_true (show p.depth ≤ 64 by omega)]; rfl

theorem py_dp {K : PySem.W.Frag} {G : ClsAt} {As : List Addr} {F H : Hp} (le : LeF F H) : ∀ (n : Nat) (d : D) (p : PyData) (v : V), D.py n d = some p → Den K G As F d v → Dp K H v p
  | n, .non, p, v, h, t => by cases t; cases n <;> (cases h; exact .non)
  | n, .bl b, p, v, h, t => by cases t; cases n <;> (cases h; exact .bl b)
  | n, .int b, p, v, h, t => by cases t; cases n <;> (cases h; exact .int b)
  | n, .str x, p, v, h, t => by
    have h' : (if PyData.strOk x = true then some (PyData.str x) else none) = some p := by cases n <;> exact h
    split at h'
    · cases h'; cases t; exact .str x
    · cases h'
  | 0, .lst xs, p, v, h, t | 0, .tup xs, p, v, h, t | 0, .dic xs, p, v, h, t | 0, .ins _ xs, p, v, h, t | 0, .cls xs, p, v, h, t | 0, .ty xs, p, v, h, t | 0, .obj xs, p, v, h, t => by cases h
  | n + 1, .dic xs, p, v, h, t | n + 1, .ins _ xs, p, v, h, t | n + 1, .cls xs, p, v, h, t | n + 1, .ty xs, p, v, h, t | n + 1, .obj xs, p, v, h, t => by cases h
  | n + 1, .lst xs, p, v, h, t => by
    have h : (xs.mapM (D.py n)).map PyData.list = some p := h
    obtain ⟨ps, h1, rfl⟩ := Option.map_eq_some_iff.mp h
    have key : ∀ (xs : List D) (ps : List PyData) (vs : List V), xs.mapM (D.py n) = some ps → DenL K G As F xs vs → DpAll K H vs ps := by
      intro xs
      induction xs with
      | nil => intro ps vs h l; cases h; cases l; exact .nil
      | cons x r ih =>
        intro ps vs h l
        rw [List.mapM_cons] at h
        obtain ⟨q, h2, h3⟩ := Option.bind_eq_some_iff.mp h
        obtain ⟨qs, h4, h5⟩ := Option.bind_eq_some_iff.mp h3
        cases h5
        cases l with
        | cons t l => exact .cons (py_dp le n x q _ h2 t) (ih qs _ h4 l)
    cases t with
    | lst hs l => exact .lst (le.lst hs) (key xs ps _ h1 l)
  | n + 1, .tup xs, p, v, h, t => by
    have h : (xs.mapM (D.py n)).map PyData.tuple = some p := h
    obtain ⟨ps, h1, rfl⟩ := Option.map_eq_some_iff.mp h
    have key : ∀ (xs : List D) (ps : List PyData) (vs : List V), xs.mapM (D.py n) = some ps → DenL K G As F xs vs → DpAll K H vs ps := by
      intro xs
      induction xs with
      | nil => intro ps vs h l; cases h; cases l; exact .nil
      | cons x r ih =>
        intro ps vs h l
        rw [List.mapM_cons] at h
        obtain ⟨q, h2, h3⟩ := Option.bind_eq_some_iff.mp h
        obtain ⟨qs, h4, h5⟩ := Option.bind_eq_some_iff.mp h3
        cases h5
        cases l with
        | cons t l => exact .cons (py_dp le n x q _ h2 t) (ih qs _ h4 l)
    cases t with
    | tup hs l => exact .tup (le.tup hs) (key xs ps _ h1 l)
theorem py_dpT {K : PySem.W.Frag} {G : ClsAt} {c : Cf} {H : Hp} {d : D} {p : PyData} {v : V} (o : CfOk K G c H) (h : D.py 8 d = some p) (t : DenT K G c H d v) : Dp K H v p := by
  rcases t with t | ⟨a, rfl, n, f, w⟩
  · exact py_dp o.le 8 d p v h t
  · cases d with
    | lst xs =>
      obtain ⟨vs, h1, l⟩ := w
      have h : (xs.mapM (D.py 7)).map PyData.list = some p := h
      obtain ⟨ps, h2, rfl⟩ := Option.map_eq_some_iff.mp h
      have key : ∀ (xs : List D) (ps : List PyData) (vs : List V), xs.mapM (D.py 7) = some ps → DenL K G c.As c.F xs vs → DpAll K H vs ps := by
        intro xs
        induction xs with
        | nil => intro ps vs h l; cases h; cases l; exact .nil
        | cons x r ih =>
          intro ps vs h l
          rw [List.mapM_cons] at h
          obtain ⟨q, h2, h3⟩ := Option.bind_eq_some_iff.mp h
          obtain ⟨qs, h4, h5⟩ := Option.bind_eq_some_iff.mp h3
          cases h5
          cases l with
          | cons t l => exact .cons (py_dp o.le 7 x q _ h2 t) (ih qs _ h4 l)
      exact .lst (SqL.of h1) (key xs ps vs h2 l)
    | dic _ => cases h
    | ins _ _ => cases h
    | _ => exact w.elim
def rEqA (K : PySem.W.Frag) : R2 := fun x y H Q => rEq x y H Q ∨ rEqD K x y H Q
def rNeA (K : PySem.W.Frag) : R2 := fun x y H Q => rNe x y H Q ∨ rNeD K x y H Q
theorem op_eqA (hu : X.A.units + 64 < cLine) : OpR X (compareOp .Eq) (rEqA X.K) := op_eq.or (op_eqD hu)
theorem op_neA (hu : X.A.units + 64 < cLine) : OpR X (compareOp .NotEq) (rNeA X.K) := op_ne.or (op_neD hu)
theorem h_eq : Op2 X G (rEqA X.K) (P0 X G) eqD := by
  intro c H x y v w E Q o tx ty p
  unfold eqD eqB at p
  split at p
  · cases tx.str; cases ty.str
    refine .inl ⟨rfl, ?_⟩
    have e : ∀ a b : Str, decide (V.str a = V.str b) = decide (a = b) := fun a b => by rw [dec_str, Bool.eq_iff_iff]; simp
    rw [e]
    exact p.here o (fun _ _ h => h) .bl
  · split at p
    · rename_i h1 h2
      exact .inr ⟨_, _, py_dpT o h1 tx, py_dpT o h2 ty, py_shaped h1, py_shaped h2, p.here o (fun _ _ h => h) .bl⟩
    · exact p.elim
theorem h_ne : Op2 X G (rNeA X.K) (P0 X G) neD := by
  intro c H x y v w E Q o tx ty p
  unfold neD eqB at p
  split at p
  · cases tx.str; cases ty.str
    refine .inl ⟨rfl, ?_⟩
    have e : ∀ a b : Str, decide (V.str a = V.str b) = decide (a = b) := fun a b => by rw [dec_str, Bool.eq_iff_iff]; simp
    rw [e]
    exact p.here o (fun _ _ h => h) .bl
  · split at p
    · rename_i h1 h2
      exact .inr ⟨_, _, py_dpT o h1 tx, py_dpT o h2 ty, py_shaped h1, py_shaped h2, p.here o (fun _ _ h => h) .bl⟩
    · exact p.elim
end
end PV
end

section
namespace PV
open PySem PySem.Spec L2
open PyProof.Rows hiding St

section
variable {X : Cx} {G : ClsAt} {W : WX}
/-! in, not in -/
def rInDic : R2 := fun x y H Q => ∃ a o, y = .ref a ∧ DGet H a x o ∧ Q (.bl o.isSome) H
def rNotInDic : R2 := fun x y H Q => ∃ a o, y = .ref a ∧ DGet H a x o ∧ Q (.bl (!o.isSome)) H
theorem op_in_dic (hu : X.A.units + 1 < cLine) : OpR X (compareOp .In) rInDic := by
  intro pins s σ H x y v u Q I rx ry h
  obtain ⟨a, o, rfl, g, q⟩ := h
  cases ry
  exact d_in hu I g rx fun s' I' => ⟨.bl _, H, I', rfl, q⟩
theorem op_notin_dic (hu : X.A.units + 1 < cLine) : OpR X (compareOp .NotIn) rNotInDic := by
  intro pins s σ H x y v u Q I rx ry h
  obtain ⟨a, o, rfl, g, q⟩ := h
  cases ry
  exact d_notIn hu I g rx fun s' I' => ⟨.bl _, H, I', rfl, q⟩
def rInA (K : PySem.W.Frag) : R2 := fun x y H Q => (∃ (c : Nat) (z : Str), x = .str ⟨#[c]⟩ ∧ y = .str z ∧ Q (.bl (decide (c ∈ z.cps.toList))) H) ∨ rIn K false x y H Q ∨ rInDic x y H Q
def rNotInA (K : PySem.W.Frag) : R2 := fun x y H Q => (∃ (c : Nat) (z : Str), x = .str ⟨#[c]⟩ ∧ y = .str z ∧ Q (.bl (!decide (c ∈ z.cps.toList))) H) ∨ rIn K true x y H Q ∨ rNotInDic x y H Q
theorem op_inA (hu : X.A.units + 1 < cLine) : OpR X (compareOp .In) (rInA X.K) := op_in_sign.or (op_in_seq.or (op_in_dic hu))
theorem op_notInA (hu : X.A.units + 1 < cLine) : OpR X (compareOp .NotIn) (rNotInA X.K) := op_notIn_sign.or (op_notIn_seq.or (op_notin_dic hu))

section
variable {K : PySem.W.Frag} {c : Cf} {H : Hp}
theorem flat_den {As : List Addr} {F : Hp} {d : D} {v w : V} (h : D.flat d = some w) (t : Den K G As F d v) : v = w ∧ flatV v = true := by
  cases d <;> first | (cases h; cases t; exact ⟨rfl, rfl⟩) | cases h
theorem flat_denT {d : D} {v w : V} (h : D.flat d = some w) (t : DenT K G c H d v) : v = w ∧ flatV v = true := by
  rcases t with t | ⟨a, rfl, n, f, w⟩
  · exact flat_den h t
  · cases d <;> first | exact w.elim | cases h
theorem flat_denL {As : List Addr} {F : Hp} : ∀ {ds : List D} {vs ws : List V}, ds.mapM D.flat = some ws → DenL K G As F ds vs → vs = ws ∧ vs.all flatV = true
  | [], _, _, h, .nil => by cases h; exact ⟨rfl, rfl⟩
  | d :: r, _, _, h, .cons t l => by
    rw [List.mapM_cons] at h
    obtain ⟨q, h2, h3⟩ := Option.bind_eq_some_iff.mp h
    obtain ⟨qs, h4, h5⟩ := Option.bind_eq_some_iff.mp h3
    cases h5
    obtain ⟨rfl, a2⟩ := flat_den h2 t
    obtain ⟨rfl, b2⟩ := flat_denL h4 l
    exact ⟨rfl, by rw [List.all_cons, a2, b2]; rfl⟩
theorem key_denT {d : D} {v : V} {k : Key} (h : D.key d = some k) (t : DenT K G c H d v) : v = kV k := by
  cases d with
  | int i => cases h; rw [t.int]; rfl
  | str i => cases h; rw [t.str]; rfl
  | _ => cases h
theorem key_den {As : List Addr} {F : Hp} {d : D} {v : V} {k : Key} (h : D.key d = some k) (t : Den K G As F d v) : v = kV k := by
  cases d with
  | int i => cases h; cases t; rfl
  | str i => cases h; cases t; rfl
  | _ => cases h
/-- a look-up, in both -/
theorem getK_den {As : List Addr} {F : Hp} {k : Key} : ∀ {ks : List (Key × D)} {ws : List (Key × V)}, DenK K G As F ks ws → (match getK ks k with | some d => ∃ v, valV ws k = some v ∧ Den K G As F d v | none => valV ws k = none)
  | [], _, .nil => rfl
  | (k', d) :: r, (_, v) :: rw_, .cons t l => by
    have ih := getK_den (k := k) l
    by_cases e : k' = k
    · have h1 : getK ((k', d) :: r) k = some d := by unfold getK; rw [List.find?_cons, decide_eq_true (show (k', d).1 = k from e)]; rfl
      rw [h1]
      exact ⟨v, valV_pos (p := (k', v)) e, t⟩
    · have h1 : getK ((k', d) :: r) k = getK r k := by unfold getK; rw [List.find?_cons, decide_eq_false (show ¬ (k', d).1 = k from e)]
      rw [h1, valV_neg (p := (k', v)) e]
      exact ih
theorem getK_some {As : List Addr} {F : Hp} {k : Key} {ks : List (Key × D)} {ws : List (Key × V)} (l : DenK K G As F ks ws) : (valV ws k).isSome = (getK ks k).isSome := by
  have h := getK_den (k := k) l
  cases e : getK ks k with
  | none => rw [e] at h; rw [h]; rfl
  | some d => rw [e] at h; obtain ⟨v, q, _⟩ := h; rw [q]; rfl
end
theorem DGet.r {H : Hp} {a : Addr} {ws : List (Key × V)} {k : Key} (e : Rd H a (.dK ws)) : DGet H a (kV k) (valV ws k) := .inl ⟨ws, k, e, rfl, rfl⟩
theorem one_cp {s : Str} {ch : Nat} (e : s.cps.toList = [ch]) : s = ⟨#[ch]⟩ := by
  obtain ⟨a⟩ := s
  obtain ⟨l⟩ := a
  have e : l = [ch] := e
  rw [e]
theorem h_inB {neg : Bool} {c : Cf} {H : Hp} {x y : D} {v w : V} {E : XK} {Q : VK} (o : CfOk X.K G c H) (tx : DenT X.K G c H x v) (ty : DenT X.K G c H y w) {f : Bool → D} (hf : ∀ b, f b = .bl (if neg then !b else b))
    (p : Post X.K G (PDen X.K G) E c H ((inB x y >>= fun b => (pure (f b) : M D)) c.st) Q) :
    (∃ (ch : Nat) (z : Str), v = .str ⟨#[ch]⟩ ∧ w = .str z ∧ Q (.bl (if neg then !decide (ch ∈ z.cps.toList) else decide (ch ∈ z.cps.toList))) H) ∨ rIn X.K neg v w H Q ∨ (∃ a o, w = .ref a ∧ DGet H a v o ∧ Q (.bl (if neg then !o.isSome else o.isSome)) H) := by
  have fin : ∀ b, Post X.K G (PDen X.K G) E c H ((pure (f b) : M D) c.st) Q → Q (.bl (if neg then !b else b)) H := fun b q => by
    rw [hf] at q
    exact Post.here (a := D.bl _) q o (fun _ _ h => h) .bl
  unfold inB at p
  split at p
  · cases tx.str; cases ty.str
    split at p
    · rename_i ch e
      exact .inl ⟨ch, _, by rw [one_cp e], rfl, fin _ p⟩
    · exact p.elim
  · rename_i ys _
    obtain ⟨a, vs, rfl, ha, la⟩ := ty.lst o
    split at p
    · rename_i h1 h2
      obtain ⟨rfl, fx⟩ := flat_denT h1 tx
      obtain ⟨rfl, fs⟩ := flat_denL h2 la
      refine .inr (.inl ⟨a, vs, rfl, .inl ha, fx, fs, ?_⟩)
      have q := fin _ p
      cases neg <;> exact q
    · exact p.elim
  · rename_i ys _
    obtain ⟨a, vs, rfl, ha, la⟩ := ty.tup o
    split at p
    · rename_i h1 h2
      obtain ⟨rfl, fx⟩ := flat_denT h1 tx
      obtain ⟨rfl, fs⟩ := flat_denL h2 la
      refine .inr (.inl ⟨a, vs, rfl, .inr ha, fx, fs, ?_⟩)
      have q := fin _ p
      cases neg <;> exact q
    · exact p.elim
  · obtain ⟨a, ws, rfl, ha, la⟩ := ty.dic o
    split at p
    · rename_i k h1
      rw [key_denT h1 tx]
      refine .inr (.inr ⟨a, _, rfl, DGet.r ha, ?_⟩)
      rw [getK_some la]
      exact fin _ p
    · exact p.elim
  · exact p.elim
theorem h_in : Op2 X G (rInA X.K) (P0 X G) inD := by
  intro c H x y v w E Q o tx ty p
  rcases h_inB (neg := false) o tx ty (fun b => rfl) p with h | h | h
  · exact .inl h
  · exact .inr (.inl h)
  · exact .inr (.inr h)
theorem h_notIn : Op2 X G (rNotInA X.K) (P0 X G) notInD := by
  intro c H x y v w E Q o tx ty p
  rcases h_inB (neg := true) o tx ty (fun b => rfl) p with h | h | h
  · exact .inl h
  · exact .inr (.inl h)
  · exact .inr (.inr h)

/-! is None -/
theorem isNon_of {K : PySem.W.Frag} {c : Cf} {H : Hp} {d : D} {v : V} (t : DenT K G c H d v) : decide (v = V.non) = isNonB d := by
  rcases t with t | ⟨a, rfl, n, f, w⟩
  · cases t <;> first | exact decide_eq_false (fun z => nomatch z) | exact decide_eq_true rfl
  · cases d <;> first | exact w.elim | exact decide_eq_false (fun z => nomatch z)
theorem ve_isN {a : Expr} {f : Env → M D} {j : Nat} {pos pos' : Pos} (h : VR G X W a f) : VE G X W (.Compare a [.Is] [.Constant .none j pos'] pos) (fun ρ => do let x ← f ρ; pure (.bl (isNonB x))) :=
  PE.imp (pe_cmp (pc_isN h)) fun σ H Q ⟨H0, ρ, c, o, sl, p⟩ => tR_step rfl o sl p fun x v c1 H1 x1 o1 sl1 t1 p1 => by rw [isNon_of t1]; exact p1.here o1 (fun _ _ h => h) .bl
theorem ve_notN {a : Expr} {f : Env → M D} {j : Nat} {pos pos' : Pos} (h : VR G X W a f) : VE G X W (.Compare a [.IsNot] [.Constant .none j pos'] pos) (fun ρ => do let x ← f ρ; pure (.bl !(isNonB x))) :=
  PE.imp (pe_cmp (pc_notN h)) fun σ H Q ⟨H0, ρ, c, o, sl, p⟩ => tR_step rfl o sl p fun x v c1 H1 x1 o1 sl1 t1 p1 => by rw [isNon_of t1]; exact p1.here o1 (fun _ _ h => h) .bl

/-! tests -/
def truD : D → M Bool
  | .non => pure false
  | .bl b => pure b
  | .int i => pure (i != 0)
  | .str s => if s.length ≤ SIZE then pure (s.length != 0) else no
  | .lst xs => pure !xs.isEmpty
  | .tup xs => pure !xs.isEmpty
  | _ => no
theorem h_tru {c : Cf} {H : Hp} {x : D} {v : V} {E : XK} {Q : Bool → Hp → Prop} (o : CfOk X.K G c H) (t : DenT X.K G c H x v) (p : Post X.K G PBl E c H (truD x c.st) Q) : ∃ k, TruV X.K v H k ∧ Q k H := by
  have em : ∀ {ds : List D} {vs : List V} {As : List Addr} {F : Hp}, DenL X.K G As F ds vs → (!ds.isEmpty) = !vs.isEmpty := fun l => by cases l <;> rfl
  unfold truD at p
  split at p
  · rw [t.non]; exact ⟨false, rfl, p.here o (fun _ _ h => h) rfl⟩
  · rw [t.bl]; exact ⟨_, rfl, p.here o (fun _ _ h => h) rfl⟩
  · rw [t.int]; exact ⟨_, rfl, p.here o (fun _ _ h => h) rfl⟩
  · rename_i s
    rw [t.str]
    obtain ⟨hz, p⟩ := post_if p
    refine ⟨_, ⟨sz hz, rfl⟩, ?_⟩
    have e : ((s.length : Int) != 0) = (s.length != 0) := by rw [Bool.eq_iff_iff]; simp [bne_iff_ne]
    rw [e]
    exact p.here o (fun _ _ h => h) rfl
  · obtain ⟨a, vs, rfl, ha, la⟩ := t.lst o
    exact ⟨_, .inl ⟨vs, ha, rfl⟩, by rw [← em la]; exact p.here o (fun _ _ h => h) rfl⟩
  · obtain ⟨a, vs, rfl, ha, la⟩ := t.tup o
    exact ⟨_, .inr (.inl ⟨vs, ha, rfl⟩), by rw [← em la]; exact p.here o (fun _ _ h => h) rfl⟩
  · exact p.elim
/-- any expression as a test -/
theorem vt_of {a : Expr} {f : Env → M D} (h : VR G X W a f) (he : ∀ whole, isTrue a X.env whole = (do let v ← whole; standAt a.pos; holding [v] (truthy v)) := by intro _; rfl) : VT G X W a (fun ρ => do let x ← f ρ; truD x) :=
  PT.imp (pt_truth h he) fun σ H Q ⟨H0, ρ, c, o, sl, p⟩ => tR_step rfl o sl p fun x v c1 H1 x1 o1 sl1 t1 p1 => h_tru o1 t1 p1
def asB : D → M Bool
  | .bl b => pure b
  | _ => no
theorem vt_cmp {a b : Expr} {f g : Env → M D} {op : CmpOp} {r : R2} {F2 : D → D → M D} {pos : Pos} (ho : OpR X (compareOp op) r) (h2 : Op2 X G r (P0 X G) F2) (ha : VR G X W a f) (hb : VR G X W b g) (hm : behindInMarks op b = false := by first | exact nomark _ | rfl) :
    VT G X W (.Compare a [op] [b] pos) (fun ρ => do let x ← f ρ; let y ← g ρ; let z ← F2 x y; asB z) :=
  PT.imp (pt_cmpR ho ha hb hm) fun σ H Q ⟨H0, ρ, c, o, sl, p⟩ => tR_step rfl o sl p fun x v c1 H1 x1 o1 sl1 t1 p1 => tR_step rfl o1 sl1 p1 fun y w c2 H2 x2 o2 sl2 t2 p2 => h2 _ _ _ _ _ _ _ _ o2 (t1.ext x2) t2
    ((Post.bind (P := PDen X.K G) (f := asB) p2).imp (fun _ _ _ _ _ _ p => p) (fun v H' ⟨d, c', x, o', q, r⟩ => by
      cases d with
      | bl b => cases q; exact ⟨b, rfl, r.here o' (fun _ _ h => h) rfl⟩
      | _ => exact r.elim) fun _ _ _ z => z)
theorem ve_cmp {a b : Expr} {f g : Env → M D} {op : CmpOp} {r : R2} {F2 : D → D → M D} {pos : Pos} (ho : OpR X (compareOp op) r) (h2 : Op2 X G r (P0 X G) F2) (ha : VR G X W a f) (hb : VR G X W b g) (hm : behindInMarks op b = false := by first | exact nomark _ | rfl) :
    VE G X W (.Compare a [op] [b] pos) (fun ρ => do let x ← f ρ; let y ← g ρ; F2 x y) :=
  PE.imp (pe_cmpR ho ha hb hm) fun σ H Q ⟨H0, ρ, c, o, sl, p⟩ => tR_step rfl o sl p fun x v c1 H1 x1 o1 sl1 t1 p1 => tR_step rfl o1 sl1 p1 fun y w c2 H2 x2 o2 sl2 t2 p2 => h2 _ _ _ _ _ _ _ _ o2 (t1.ext x2) t2 p2
/-- a < b < c -/
theorem vt_chain {a b d : Expr} {f g h : Env → M D} {op op' : CmpOp} {r r' : R2} {F2 F2' : D → D → M D} {pos : Pos} (ho : OpR X (compareOp op) r) (h2 : Op2 X G r (P0 X G) F2) (ho' : OpR X (compareOp op') r') (h2' : Op2 X G r' (P0 X G) F2') (ha : VR G X W a f) (hb : VR G X W b g) (hc : VR G X W d h) (hm : lastMarks [op, op'] [b, d] = false := by rfl) :
    VT G X W (.Compare a [op, op'] [b, d] pos) (fun ρ => do let x ← f ρ; let y ← g ρ; let z ← F2 x y; let k ← asB z; if k then do let u ← h ρ; let z2 ← F2' y u; asB z2 else pure false) :=
  PT.imp (pt_chain ho ho' ha hb hc hm) fun σ H Q ⟨H0, ρ, c, o, sl, p⟩ => tR_step rfl o sl p fun x v c1 H1 x1 o1 sl1 t1 p1 => tR_step rfl o1 sl1 p1 fun y w c2 H2 x2 o2 sl2 t2 p2 => h2 _ _ _ _ _ _ _ _ o2 (t1.ext x2) t2
    ((Post.bind (P := PDen X.K G) p2).imp (fun _ _ _ _ _ _ p => p) (fun v3 H3 ⟨d3, c3, x3, o3, q, r⟩ => by
      cases d3 with
      | bl k =>
        cases q
        refine ⟨k, rfl, ?_⟩
        cases k with
        | false => exact iteF ⟨false, rfl, Post.here (a := false) r o3 (fun _ _ h => h) rfl⟩
        | true =>
          refine iteT ?_
          exact tR_step rfl o3 (sl2.ext x3) r fun u w2 c4 H4 x4 o4 sl4 t4 p4 => h2' _ _ _ _ _ _ _ _ o4 (t2.ext (x3.trans x4)) t4
            ((Post.bind (P := PDen X.K G) (f := asB) p4).imp (fun _ _ _ _ _ _ p => p) (fun v5 H5 ⟨d5, c5, x5, o5, q5, r5⟩ => by
              cases d5 with
              | bl b => cases q5; exact ⟨b, rfl, r5.here o5 (fun _ _ h => h) rfl⟩
              | _ => exact r5.elim) fun _ _ _ z => z)
      | _ => exact r.elim) fun _ _ _ z => z)
theorem vt_not {a : Expr} {f : Env → M Bool} {pos : Pos} (h : VT G X W a f) : VT G X W (.UnaryOp .Not a pos) (fun ρ => do let b ← f ρ; pure !b) :=
  PT.imp (pt_not h) fun σ H Q ⟨H0, ρ, c, o, sl, p⟩ => tT_step rfl o sl p fun b c1 H1 x1 o1 sl1 p1 => p1.here o1 (fun _ _ h => h) rfl
/-- a chain of tests, whatever its whole is -/
abbrev VW (G : ClsAt) (X : Cx) (W : WX) (e : Expr) (f : Env → M Bool) : Prop := PW X e (tT X.K G W f)
theorem PW.imp {e : Expr} {t t' : TT} (h : PW X e t) (i : ∀ σ H Q, t' σ H Q → t σ H Q) : PW X e t' := ⟨fun w pins s σ H Q I q => h.run w pins s σ H Q I (i σ H Q q)⟩
theorem vw_and1 {a : Expr} {f : Env → M Bool} {pos : Pos} (h : VT G X W a f) : VW G X W (.BoolOp .And [a] pos) f := pw_and1 h
theorem vw_or1 {a : Expr} {f : Env → M Bool} {pos : Pos} (h : VT G X W a f) : VW G X W (.BoolOp .Or [a] pos) f := pw_or1 h
theorem vw_and {a b : Expr} {r : List Expr} {f g : Env → M Bool} {pos : Pos} (ha : VT G X W a f) (hb : VW G X W (.BoolOp .And (b :: r) pos) g) : VW G X W (.BoolOp .And (a :: b :: r) pos) (fun ρ => do let x ← f ρ; if x then g ρ else pure false) :=
  PW.imp (pw_and ha hb) fun σ H Q ⟨H0, ρ, c, o, sl, p⟩ => tT_step rfl o sl p fun b c1 H1 x1 o1 sl1 p1 => by
    cases b with
    | true => exact iteT ⟨H0, ρ, c1, o1, sl1, p1⟩
    | false => exact iteF (Post.here (a := false) p1 o1 (fun _ _ h => h) rfl)
theorem vw_or {a b : Expr} {r : List Expr} {f g : Env → M Bool} {pos : Pos} (ha : VT G X W a f) (hb : VW G X W (.BoolOp .Or (b :: r) pos) g) : VW G X W (.BoolOp .Or (a :: b :: r) pos) (fun ρ => do let x ← f ρ; if x then pure true else g ρ) :=
  PW.imp (pw_or ha hb) fun σ H Q ⟨H0, ρ, c, o, sl, p⟩ => tT_step rfl o sl p fun b c1 H1 x1 o1 sl1 p1 => by
    cases b with
    | true => exact iteT (Post.here (a := true) p1 o1 (fun _ _ h => h) rfl)
    | false => exact iteF ⟨H0, ρ, c1, o1, sl1, p1⟩
theorem vt_w {e : Expr} {f : Env → M Bool} (h : VW G X W e f) : VT G X W e f := PW.pt h
/-! .. as values: what is not last is a bool -/
theorem ve_one {a : Expr} {f : Env → M D} {op : BoolOp} {pos : Pos} (h : VE G X W a f) : VE G X W (.BoolOp op [a] pos) f := pe_one h
theorem ve_and {a b : Expr} {r : List Expr} {f g : Env → M D} {pos : Pos} (ha : VR G X W a f) (hb : VE G X W (.BoolOp .And (b :: r) pos) g) : VE G X W (.BoolOp .And (a :: b :: r) pos) (fun ρ => do let x ← f ρ; let k ← asB x; if k then g ρ else pure (.bl false)) :=
  PE.imp (pe_and ha hb) fun σ H Q ⟨H0, ρ, c, o, sl, p⟩ => tR_step rfl o sl p fun x v c1 H1 x1 o1 sl1 t1 p1 => by
    cases x with
    | bl k =>
      rw [t1.bl]
      refine ⟨k, rfl, ?_⟩
      cases k with
      | true => exact iteT ⟨H0, ρ, c1, o1, sl1, p1⟩
      | false => exact iteF (Post.here (a := D.bl false) p1 o1 (fun _ _ h => h) .bl)
    | _ => exact p1.elim
theorem ve_or {a b : Expr} {r : List Expr} {f g : Env → M D} {pos : Pos} (ha : VR G X W a f) (hb : VE G X W (.BoolOp .Or (b :: r) pos) g) : VE G X W (.BoolOp .Or (a :: b :: r) pos) (fun ρ => do let x ← f ρ; let k ← asB x; if k then pure (.bl true) else g ρ) :=
  PE.imp (pe_or ha hb) fun σ H Q ⟨H0, ρ, c, o, sl, p⟩ => tR_step rfl o sl p fun x v c1 H1 x1 o1 sl1 t1 p1 => by
    cases x with
    | bl k =>
      rw [t1.bl]
      refine ⟨k, rfl, ?_⟩
      cases k with
      | true => exact iteT (Post.here (a := D.bl true) p1 o1 (fun _ _ h => h) .bl)
      | false => exact iteF ⟨H0, ρ, c1, o1, sl1, p1⟩
    | _ => exact p1.elim
def notD : D → M D
  | .bl b => pure (.bl !b)
  | _ => no
theorem ve_not {a : Expr} {f : Env → M D} {pos : Pos} (ha : VR G X W a f) : VE G X W (.UnaryOp .Not a pos) (fun ρ => do let x ← f ρ; notD x) :=
  PE.imp (pe_not ha) fun σ H Q ⟨H0, ρ, c, o, sl, p⟩ => tR_step rfl o sl p fun x v c1 H1 x1 o1 sl1 t1 p1 => by
    cases x with
    | bl k => rw [t1.bl]; exact ⟨k, rfl, p1.here o1 (fun _ _ h => h) .bl⟩
    | _ => exact p1.elim
def negD : D → M D
  | .int i => pure (.int (-i))
  | _ => no
theorem ve_neg {a : Expr} {f : Env → M D} {pos : Pos} (ha : VR G X W a f) : VE G X W (.UnaryOp .USub a pos) (fun ρ => do let x ← f ρ; negD x) :=
  PE.imp (pe_un un_neg ha) fun σ H Q ⟨H0, ρ, c, o, sl, p⟩ => tR_step rfl o sl p fun x v c1 H1 x1 o1 sl1 t1 p1 => by
    cases x with
    | int k => rw [t1.int]; exact ⟨k, rfl, p1.here o1 (fun _ _ h => h) .int⟩
    | _ => exact p1.elim
theorem ve_if {t a b : Expr} {k : Env → M Bool} {f g : Env → M D} {pos : Pos} (ht : VT G X W t k) (ha : VE G X W a f) (hb : VE G X W b g) : VE G X W (.IfExp t a b pos) (fun ρ => do let x ← k ρ; if x then f ρ else g ρ) :=
  PE.imp (pe_ifExp ht ha hb) fun σ H Q ⟨H0, ρ, c, o, sl, p⟩ => tT_step rfl o sl p fun b c1 H1 x1 o1 sl1 p1 => by
    cases b with
    | true => exact iteT ⟨H0, ρ, c1, o1, sl1, p1⟩
    | false => exact iteF ⟨H0, ρ, c1, o1, sl1, p1⟩

/-! arguments, displays -/
theorem va_nil : VA G X W [] (fun _ => pure []) := PA.imp pa_nil fun σ H Q ⟨H0, ρ, c, o, sl, p⟩ => p.here o (fun _ _ h => h) .nil
theorem va_cons {e : Expr} {es : List Expr} {f : Env → M D} {g : Env → M (List D)} (he : VE G X W e f) (hs : VA G X W es g) (hst : starEach (e :: es) X.env = (false, eval e X.env) :: starEach es X.env := by rfl) : VA G X W (e :: es) (fun ρ => do let x ← f ρ; let xs ← g ρ; pure (x :: xs)) :=
  PA.imp (pa_cons he hs hst) fun σ H Q ⟨H0, ρ, c, o, sl, p⟩ => tV_step rfl o sl p fun x v c1 H1 x1 o1 sl1 t1 p1 => tL_step rfl o1 sl1 p1 fun xs vs c2 H2 x2 o2 sl2 t2 p2 => p2.here o2 (fun _ _ h => h) (.cons (t1.mono x2.sub x2.pre) t2)
def lstD (xs : List D) : M D := if xs.length ≤ SIZE then pure (.lst xs) else no
def tupD (xs : List D) : M D := if xs.length ≤ SIZE then pure (.tup xs) else no
theorem vn_lst {es : List Expr} {g : Env → M (List D)} {pos : Pos} (hs : VA G X W es g) : VN G X W (.List es pos) (fun ρ => do let xs ← g ρ; lstD xs) :=
  PE.imp (pe_lst hs) fun σ H Q ⟨H0, ρ, c, o, sl, p⟩ => tL_step rfl o sl p fun xs vs c1 H1 x1 o1 sl1 t1 p1 => by
    obtain ⟨hz, p1⟩ := post_if p1
    refine ⟨by rw [← t1.length]; exact sz hz, fun q hq => ?_⟩
    have p2 := p1.imp (P' := POwn X.K G H1) (fun c' H' d v _ _ ⟨a, e1, e2, e3⟩ => ⟨a, e1, x1.none e2, e3⟩) (fun _ _ q => q) fun _ _ _ q => q
    exact p2.newOwn o1 hq ⟨vs, upd_same, t1⟩
theorem ve_tup {es : List Expr} {g : Env → M (List D)} {k : Nat} {pos : Pos} (hs : VA G X W es g) : VE G X W (.Tuple es k pos) (fun ρ => do let xs ← g ρ; tupD xs) :=
  PE.imp (pe_tup hs) fun σ H Q ⟨H0, ρ, c, o, sl, p⟩ => tL_step rfl o sl p fun xs vs c1 H1 x1 o1 sl1 t1 p1 => by
    obtain ⟨hz, p1⟩ := post_if p1
    exact ⟨by rw [← t1.length]; exact sz hz, fun q hq => p1.newTup o1 hq t1⟩
end
end PV
end

section
namespace PV
open PySem PySem.Spec L2
open PyProof.Rows hiding St

section
variable {X : Cx} {G : ClsAt} {W : WX}
/-! items -/
def rIxD : R2 := fun x y H Q => ∃ a v, x = .ref a ∧ DGet H a y (some v) ∧ Q v H
theorem ix_dic (hu : X.A.units + 1 < cLine) : IxR X rIxD := by
  intro value slice pins s σ H x y v u Q I rx ry h hs
  obtain ⟨a, z, rfl, g, q⟩ := h
  cases rx
  exact tail_any (dict_typeIs I g) PySem.F.slot_dict_getitem.lookup (d_getItem hu I g ry fun w' s3 I3 rw' => ⟨z, H, I3, rw', q⟩) hs
def atM {α : Type} : Option α → M α
  | some a => pure a
  | none => no
def ixD : D → D → M D
  | .lst xs, .int i => atM (atI xs i)
  | .tup xs, .int i => atM (atI xs i)
  | .str z, .int i => if z.length ≤ SIZE then atM ((atI z.cps.toList i).map fun c => .str ⟨#[c]⟩) else no
  | .dic ks, k => match D.key k with
    | some k => atM (getK ks k)
    | none => no
  | .obj o, .int i => fun s => match s[o]? with
    | some (.lst xs) => atM (atI xs i) s
    | _ => .no
  | _, _ => no
theorem atI_den {K : PySem.W.Frag} {As : List Addr} {F : Hp} {ds : List D} {vs : List V} (l : DenL K G As F ds vs) {i : Int} {d : D} (h : atI ds i = some d) : ∃ v, atI vs i = some v ∧ Den K G As F d v := by
  unfold atI at h ⊢
  obtain ⟨j, h1, h2⟩ := Option.bind_eq_some_iff.mp h
  obtain ⟨v, e, t⟩ := l.getD h2
  exact ⟨v, by rw [← l.length, h1]; exact e, t⟩
theorem post_at {K : PySem.W.Frag} {α β : Type} {P : Cf → Hp → α → β → Prop} {E : XK} {c : Cf} {H : Hp} {Q : β → Hp → Prop} {o : Option α} {s : Stt} (h : Post K G P E c H (atM o s) Q) : ∃ a, o = some a ∧ Post K G P E c H (.ok a s) Q := by
  cases o with
  | none => exact h.elim
  | some a => exact ⟨a, rfl, h⟩
theorem CfOk.store {K : PySem.W.Frag} {c : Cf} {H : Hp} (o : CfOk K G c H) {i : Nat} {a : Addr} {d : D} (h : c.As[i]? = some a) (e : c.st[i]? = some d) : ObAt K G c.As c.F H a d := (o.obj i a d h e).2
def rIxA (K : PySem.W.Frag) : R2 := fun x y H Q => rIx K x y H Q ∨ rIxD x y H Q
theorem ix_any (hu : X.A.units + 1 < cLine) : IxR X (rIxA X.K) := ix_seq.or (ix_dic hu)
theorem h_ix : Op2 X G (rIxA X.K) (P0 X G) ixD := by
  intro c H x y v w E Q o tx ty p
  unfold ixD at p
  split at p
  · obtain ⟨a, vs, rfl, ha, la⟩ := tx.lst o
    rw [ty.int]
    obtain ⟨d, e, p⟩ := post_at p
    obtain ⟨z, e2, t⟩ := atI_den la e
    exact .inl (.inl ⟨a, vs, _, z, rfl, rfl, ha, e2, p.here o (fun _ _ h => h) t⟩)
  · obtain ⟨a, vs, rfl, ha, la⟩ := tx.tup o
    rw [ty.int]
    obtain ⟨d, e, p⟩ := post_at p
    obtain ⟨z, e2, t⟩ := atI_den la e
    exact .inl (.inr (.inl ⟨a, vs, _, z, rfl, rfl, ha, e2, p.here o (fun _ _ h => h) t⟩))
  · rw [tx.str, ty.int]
    obtain ⟨hz, p⟩ := post_if p
    obtain ⟨d, e, p⟩ := post_at p
    obtain ⟨ch, e2, rfl⟩ := Option.map_eq_some_iff.mp e
    exact .inl (.inr (.inr ⟨_, _, ch, rfl, rfl, sz hz, e2, Post.here (a := D.str _) p o (fun _ _ h => h) .str⟩))
  · obtain ⟨a, ws, rfl, ha, la⟩ := tx.dic o
    cases hk : D.key y with
    | none => rw [hk] at p; exact p.elim
    | some k =>
      rw [hk] at p
      obtain ⟨d, e, p⟩ := post_at (s := c.st) p
      have g := getK_den (k := k) la
      rw [e] at g
      obtain ⟨z, e2, t⟩ := g
      refine .inr ⟨a, z, rfl, ?_, p.here o (fun _ _ h => h) t⟩
      rw [key_denT hk ty, ← e2]
      exact DGet.r ha
  · rename_i ob i
    obtain ⟨a, rfl, ea⟩ := tx.obj
    rw [ty.int]
    cases e : c.st[ob]? with
    | none => rw [e] at p; exact p.elim
    | some d =>
      rw [e] at p
      cases d with
      | lst xs =>
        obtain ⟨vs, hv, la⟩ := o.store ea e
        obtain ⟨d, e, p⟩ := post_at (s := c.st) p
        obtain ⟨z, e2, t⟩ := atI_den la e
        exact .inl (.inl ⟨a, vs, _, z, rfl, rfl, SqL.of hv, e2, p.here o (fun _ _ h => h) t⟩)
      | _ => exact p.elim
  · exact p.elim
theorem ve_ix {a b : Expr} {f g : Env → M D} {pos : Pos} (hu : X.A.units + 1 < cLine) (ha : VR G X W a f) (hb : VR G X W b g) (hs : PlainIx b := by exact fun _ _ => rfl) : VE G X W (.Subscript a b pos) (fun ρ => do let x ← f ρ; let y ← g ρ; ixD x y) :=
  PE.imp (pe_ix (ix_any hu) ha hb hs) fun σ H Q ⟨H0, ρ, c, o, sl, p⟩ => tR_step rfl o sl p fun x v c1 H1 x1 o1 sl1 t1 p1 => tR_step rfl o1 sl1 p1 fun y w c2 H2 x2 o2 sl2 t2 p2 => h_ix _ _ _ _ _ _ _ _ o2 (t1.ext x2) t2 p2

/-! slices -/
def tP (K : PySem.W.Frag) (G : ClsAt) (W : WX) (f : Env → M (Option Int)) : TO := fun σ H Q => ∃ H0 ρ c, CfOk K G c H ∧ Slots K G H0 c H ρ σ ∧ Post K G (fun _ _ (d v : Option Int) => d = v) (fun cls dx H' => W cls dx σ H') c H (f ρ c.st) Q
abbrev VP (G : ClsAt) (X : Cx) (W : WX) (e : Option Expr) (f : Env → M (Option Int)) : Prop := PO X e (tP X.K G W f)
theorem PO.imp {e : Option Expr} {t t' : TO} (h : PO X e t) (i : ∀ σ H Q, t' σ H Q → t σ H Q) : PO X e t' := ⟨fun pins s σ H Q I q => h.run pins s σ H Q I (i σ H Q q)⟩
def asI : D → M (Option Int)
  | .int i => pure (some i)
  | _ => no
theorem vp_none : VP G X W none (fun _ => pure none) := PO.imp po_none fun σ H Q ⟨H0, ρ, c, o, sl, p⟩ => Post.here (a := (none : Option Int)) p o (fun _ _ h => h) rfl
theorem vp_some {e : Expr} {f : Env → M D} (h : VR G X W e f) : VP G X W (some e) (fun ρ => do let x ← f ρ; asI x) :=
  PO.imp (po_some h) fun σ H Q ⟨H0, ρ, c, o, sl, p⟩ => tR_step rfl o sl p fun x v c1 H1 x1 o1 sl1 t1 p1 => by
    cases x with
    | int k => rw [t1.int]; exact ⟨k, rfl, Post.here (a := some k) p1 o1 (fun _ _ h => h) rfl⟩
    | _ => exact p1.elim
def cutD (xs : List D) (lo hi : Option Int) : List D := (xs.drop (HT.sIx xs.length 0 lo)).take (HT.sIx xs.length xs.length hi - HT.sIx xs.length 0 lo)
def slD : D → Option Int → Option Int → M D
  | .lst xs, lo, hi => pure (.lst (cutD xs lo hi))
  | .str z, lo, hi => if z.length ≤ SIZE then pure (.str (cutS z lo hi)) else no
  | _, _, _ => no
def slL : D → Option Int → Option Int → M D
  | .lst xs, lo, hi => pure (.lst (cutD xs lo hi))
  | _, _, _ => no
theorem DenL.drop {K : PySem.W.Frag} {As : List Addr} {F : Hp} : ∀ {ds : List D} {vs : List V} (n : Nat), DenL K G As F ds vs → DenL K G As F (ds.drop n) (vs.drop n)
  | _, _, 0, h => h
  | _, _, _ + 1, .nil => .nil
  | _, _, n + 1, .cons _ l => DenL.drop n l
theorem DenL.take {K : PySem.W.Frag} {As : List Addr} {F : Hp} : ∀ {ds : List D} {vs : List V} (n : Nat), DenL K G As F ds vs → DenL K G As F (ds.take n) (vs.take n)
  | _, _, 0, _ => .nil
  | _, _, _ + 1, .nil => .nil
  | _, _, n + 1, .cons h l => .cons h (DenL.take n l)
theorem cut_den {K : PySem.W.Frag} {As : List Addr} {F : Hp} {ds : List D} {vs : List V} (l : DenL K G As F ds vs) (lo hi : Option Int) : DenL K G As F (cutD ds lo hi) (cutV vs lo hi) := by
  unfold cutD cutV
  rw [← l.length]
  exact DenL.take _ (DenL.drop _ l)
def rSlA (K : PySem.W.Frag) : V → Option Int → Option Int → Hp → VK → Prop := fun x lo hi H Q => rSlL K x lo hi H Q ∨ rSlS x lo hi H Q
theorem sl_any : SlR X (rSlA X.K) := by
  intro pins s σ H x v vl vu lo hi sl Q I rx hs pl pu h
  rcases h with h | h
  · exact sl_list pins s σ H x v vl vu lo hi sl Q I rx hs pl pu h
  · exact sl_str pins s σ H x v vl vu lo hi sl Q I rx hs pl pu h
theorem tP_step {σ : L2.St} {H H0 : Hp} {ρ : Env} {c : Cf} {γ δ : Type} {f : M (Option Int)} {fe : Env → M (Option Int)} {k : Option Int → M γ} {P' : Cf → Hp → γ → δ → Prop} {Q' : δ → Hp → Prop} {R : Option Int → Hp → Prop} (e : fe ρ = f) (o : CfOk X.K G c H) (sl : Slots X.K G H0 c H ρ σ)
    (post : Post X.K G P' (fun cls dx H' => W cls dx σ H') c H ((f >>= k) c.st) Q')
    (next : ∀ b c' H', Ext c H c' H' → CfOk X.K G c' H' → Slots X.K G H0 c' H' ρ σ → Post X.K G P' (fun cls dx H' => W cls dx σ H') c' H' (k b c'.st) Q' → R b H') : tP X.K G W fe σ H R := by
  refine ⟨H0, ρ, c, o, sl, ?_⟩
  rw [e]
  exact (Post.bind (P := fun _ _ (d v : Option Int) => d = v) (f := k) post).imp (fun _ _ _ _ _ _ p => p) (fun v H' ⟨d, c', x, o', p, q⟩ => next v c' H' x o' (sl.ext x) (by cases (show d = v from p); exact q)) fun _ _ _ z => z
theorem ve_sl {a : Expr} {l h : Option Expr} {f : Env → M D} {fl fh : Env → M (Option Int)} {p1 p2 : Pos} (ha : VR G X W a f) (hl : VP G X W l fl) (hh : VP G X W h fh) : VE G X W (.Subscript a (.Slice l h none p2) p1) (fun ρ => do let x ← f ρ; let lo ← fl ρ; let hi ← fh ρ; slD x lo hi) :=
  PE.imp (pe_slice sl_any ha hl hh) fun σ H Q ⟨H0, ρ, c, o, sl, p⟩ => tR_step rfl o sl p fun x v c1 H1 x1 o1 sl1 t1 q1 => tP_step rfl o1 sl1 q1 fun lo c2 H2 x2 o2 sl2 q2 => tP_step rfl o2 sl2 q2 fun hi c3 H3 x3 o3 sl3 q3 => by
    have t3 := t1.ext (x2.trans x3)
    unfold slD at q3
    split at q3
    · obtain ⟨b, vs, rfl, hb, lb⟩ := t3.lst o3
      exact .inl ⟨b, vs, rfl, hb, fun q hq => q3.newDen o3 hq ⟨_, upd_same, cut_den lb lo hi⟩⟩
    · obtain ⟨hz, q3⟩ := post_if q3
      rw [t3.str]
      exact .inr ⟨_, rfl, sz hz, q3.here o3 (fun _ _ h => h) .str⟩
    · exact q3.elim
theorem vn_sl {a : Expr} {l h : Option Expr} {f : Env → M D} {fl fh : Env → M (Option Int)} {p1 p2 : Pos} (ha : VR G X W a f) (hl : VP G X W l fl) (hh : VP G X W h fh) : VN G X W (.Subscript a (.Slice l h none p2) p1) (fun ρ => do let x ← f ρ; let lo ← fl ρ; let hi ← fh ρ; slL x lo hi) :=
  PE.imp (pe_slice sl_list ha hl hh) fun σ H Q ⟨H0, ρ, c, o, sl, p⟩ => tR_step rfl o sl p fun x v c1 H1 x1 o1 sl1 t1 q1 => tP_step rfl o1 sl1 q1 fun lo c2 H2 x2 o2 sl2 q2 => tP_step rfl o2 sl2 q2 fun hi c3 H3 x3 o3 sl3 q3 => by
    have t3 := t1.ext (x2.trans x3)
    unfold slL at q3
    split at q3
    · obtain ⟨b, vs, rfl, hb, lb⟩ := t3.lst o3
      have q4 := q3.imp (P' := POwn X.K G H3) (fun c' H' d v _ _ ⟨a, e1, e2, e3⟩ => ⟨a, e1, (x1.trans (x2.trans x3)).none e2, e3⟩) (fun _ _ q => q) fun _ _ _ q => q
      exact ⟨b, vs, rfl, hb, fun q hq => q4.newOwn o3 hq ⟨_, upd_same, cut_den lb lo hi⟩⟩
    · exact q3.elim

/-! calls of built-ins -/
/-- one argument, read -/
def tL1 (K : PySem.W.Frag) (G : ClsAt) (W : WX) (f : Env → M D) : TA := fun σ H Q => tR K G W f σ H fun v H' => Q [v] H'
theorem va1 {e : Expr} {f : Env → M D} (he : VR G X W e f) (hst : starEach [e] X.env = [(false, eval e X.env)] := by rfl) : PA X [e] (tL1 X.K G W f) := PA.imp (pa_cons he pa_nil hst) fun σ H Q h => h
def tL2 (K : PySem.W.Frag) (G : ClsAt) (W : WX) (f g : Env → M D) : TA := fun σ H Q => tR K G W f σ H fun v H' => tR K G W g σ H' fun w H2 => Q [v, w] H2
theorem va2 {e e' : Expr} {f g : Env → M D} (he : VR G X W e f) (he' : VR G X W e' g) (h1 : starEach [e, e'] X.env = [(false, eval e X.env), (false, eval e' X.env)] := by rfl) (h2 : starEach [e'] X.env = [(false, eval e' X.env)] := by rfl) : PA X [e, e'] (tL2 X.K G W f g) :=
  PA.imp (pa_cons he (pa_cons he' pa_nil h2) (by rw [h1, h2])) fun σ H Q h => h
/-- a call by values of one read argument -/
def Op1 (X : Cx) (G : ClsAt) (r : List V → Hp → VK → Prop) (P : Cf → Hp → Cf → Hp → D → V → Prop) (F1 : D → M D) : Prop := ∀ (c : Cf) (H : Hp) (x : D) (v : V) (E : XK) (Q : VK), CfOk X.K G c H → DenT X.K G c H x v → Post X.K G (P c H) E c H (F1 x c.st) Q → r [v] H Q
theorem ve_b1 {e : Expr} {f : Env → M D} {x : Str} {id : String} {r : List V → Hp → VK → Prop} {F1 : D → M D} {p pos : Pos} (hc : CallR X (.builtin id) r) (h1 : Op1 X G r (P0 X G) F1) (hm : X.mg x = none) (hv : bootBuiltins x = some (.builtin id)) (he : VR G X W e f)
    (hg : Gl X x := by rfl) (hn : x ≠ "__name__" := by decide) (hdb : (x == ("__debug__" : Str)) = false := by decide) (hst : starEach [e] X.env = [(false, eval e X.env)] := by rfl) (hpl : (backTo pos (starEach ([] : List Expr) X.env)).any (·.1) = false := by rfl) : VE G X W (.Call (.Name x p) [e] [] pos) (fun ρ => do let x ← f ρ; F1 x) :=
  PE.imp (pe_callB hc hg hm hv (va1 he hst) hn hdb hst hpl) fun σ H Q ⟨H0, ρ, c, o, sl, p⟩ => tR_step rfl o sl p fun x v c1 H1 x1 o1 sl1 t1 p1 => h1 _ _ _ _ _ _ o1 t1 p1
theorem ve_t1 {e : Expr} {f : Env → M D} {x : Str} {id : String} {r : List V → Hp → VK → Prop} {F1 : D → M D} {p pos : Pos} (hc : CallR X (.type id) r) (h1 : Op1 X G r (P0 X G) F1) (hm : X.mg x = none) (hv : bootBuiltins x = some (.type id)) (he : VR G X W e f)
    (hg : Gl X x := by rfl) (hn : x ≠ "__name__" := by decide) (hdb : (x == ("__debug__" : Str)) = false := by decide) (hst : starEach [e] X.env = [(false, eval e X.env)] := by rfl) (hpl : (backTo pos (starEach ([] : List Expr) X.env)).any (·.1) = false := by rfl) : VE G X W (.Call (.Name x p) [e] [] pos) (fun ρ => do let x ← f ρ; F1 x) :=
  PE.imp (pe_callTy hc hg hm hv (va1 he hst) hn hdb hst hpl) fun σ H Q ⟨H0, ρ, c, o, sl, p⟩ => tR_step rfl o sl p fun x v c1 H1 x1 o1 sl1 t1 p1 => h1 _ _ _ _ _ _ o1 t1 p1
theorem vn_t1 {e : Expr} {f : Env → M D} {x : Str} {id : String} {r : List V → Hp → VK → Prop} {F1 : D → M D} {p pos : Pos} (hc : CallR X (.type id) r) (h1 : Op1 X G r (fun _ H => POwn X.K G H) F1) (hm : X.mg x = none) (hv : bootBuiltins x = some (.type id)) (he : VR G X W e f)
    (hg : Gl X x := by rfl) (hn : x ≠ "__name__" := by decide) (hdb : (x == ("__debug__" : Str)) = false := by decide) (hst : starEach [e] X.env = [(false, eval e X.env)] := by rfl) (hpl : (backTo pos (starEach ([] : List Expr) X.env)).any (·.1) = false := by rfl) : VN G X W (.Call (.Name x p) [e] [] pos) (fun ρ => do let x ← f ρ; F1 x) :=
  PE.imp (pe_callTy hc hg hm hv (va1 he hst) hn hdb hst hpl) fun σ H Q ⟨H0, ρ, c, o, sl, p⟩ => tR_step rfl o sl p fun x v c1 H1 x1 o1 sl1 t1 p1 => h1 _ _ _ _ _ _ o1 t1
    (p1.imp (P' := POwn X.K G H1) (fun c' H' d v _ _ ⟨a, e1, e2, e3⟩ => ⟨a, e1, x1.none e2, e3⟩) (fun _ _ q => q) fun _ _ _ q => q)

def lenD : D → M D
  | .str s => if s.length ≤ SIZE then pure (.int s.length) else no
  | .lst xs => pure (.int xs.length)
  | .tup xs => pure (.int xs.length)
  | .dic ks => pure (.int ks.length)
  | .obj o => fun s => match s[o]? with
    | some (.lst xs) => .ok (.int xs.length) s
    | _ => .no
  | _ => no
def rLenA (K : PySem.W.Frag) : List V → Hp → VK → Prop := fun xs H Q => (∃ x n, xs = [x] ∧ LenV K x H n ∧ Q (.int n) H) ∨ ∃ a kvs, xs = [V.ref a] ∧ Rd H a (.dK kvs) ∧ Q (.int kvs.length) H
theorem CallR.or {f : Value} {r r' : List V → Hp → VK → Prop} (h : CallR X f r) (h' : CallR X f r') : CallR X f (fun x H Q => r x H Q ∨ r' x H Q) := by
  intro pins s σ H xs us Q I rx q
  rcases q with q | q
  · exact h pins s σ H xs us Q I rx q
  · exact h' pins s σ H xs us Q I rx q
theorem call_lenR : CallR X (.builtin "len") (fun xs H Q => ∃ a kvs, xs = [V.ref a] ∧ Rd H a (.dK kvs) ∧ Q (.int kvs.length) H) := by
  intro pins s σ H xs us Q I r h
  obtain ⟨a, kvs, rfl, ha, q⟩ := h
  obtain ⟨u, rfl, ru⟩ := vals1 r
  cases ru
  exact d_len I ha fun t s' I' => ⟨.int kvs.length, H, I', ⟨t, rfl⟩, q⟩
theorem call_lenA : CallR X (.builtin "len") (rLenA X.K) := call_len.or call_lenR
theorem DenK.length {K : PySem.W.Frag} {As : List Addr} {F : Hp} : ∀ {d : List (Key × D)} {v : List (Key × V)}, DenK K G As F d v → d.length = v.length
  | _, _, .nil => rfl
  | _, _, .cons _ l => congrArg (· + 1) (DenK.length l)
theorem h_len : Op1 X G (rLenA X.K) (P0 X G) lenD := by
  intro c H x v E Q o t p
  unfold lenD at p
  cases x with
  | str s =>
    obtain ⟨hz, p⟩ := post_if p
    rw [t.str]
    exact .inl ⟨_, _, rfl, ⟨sz hz, rfl⟩, p.here o (fun _ _ h => h) .int⟩
  | lst xs =>
    obtain ⟨a, vs, rfl, ha, la⟩ := t.lst o
    exact .inl ⟨_, _, rfl, .inl ⟨vs, ha, rfl⟩, by rw [← la.length]; exact p.here o (fun _ _ h => h) .int⟩
  | tup xs =>
    obtain ⟨a, vs, rfl, ha, la⟩ := t.tup o
    exact .inl ⟨_, _, rfl, .inr ⟨vs, ha, rfl⟩, by rw [← la.length]; exact p.here o (fun _ _ h => h) .int⟩
  | dic ks =>
    obtain ⟨a, vs, rfl, ha, la⟩ := t.dic o
    exact .inr ⟨_, _, rfl, ha, by rw [← la.length]; exact p.here o (fun _ _ h => h) .int⟩
  | obj ob =>
    obtain ⟨a, rfl, ea⟩ := t.obj
    cases e : c.st[ob]? with
    | none => simp only [e] at p; exact p.elim
    | some d =>
      simp only [e] at p
      cases d with
      | lst xs =>
        obtain ⟨vs, hv, la⟩ := o.store ea e
        exact .inl ⟨_, _, rfl, .inl ⟨vs, SqL.of hv, rfl⟩, by rw [← la.length]; exact p.here o (fun _ _ h => h) .int⟩
      | _ => exact p.elim
  | _ => exact p.elim
theorem ve_len {e : Expr} {f : Env → M D} {p pos : Pos} (hm : X.mg "len" = none) (he : VR G X W e f) (hg : Gl X "len" := by rfl) (hst : starEach [e] X.env = [(false, eval e X.env)] := by rfl) : VE G X W (.Call (.Name "len" p) [e] [] pos) (fun ρ => do let x ← f ρ; lenD x) := ve_b1 call_lenA h_len hm PySem.boot_len he hg (hst := hst)

def intD : D → M D
  | .int i => pure (.int i)
  | .bl b => pure (.int (if b then 1 else 0))
  | .str s => match PySem.intText? s with
    | some n => if s.length ≤ 640 then pure (.int n) else no
    | none => no
  | _ => no
def rIntA : List V → Hp → VK → Prop := fun xs H Q => ((∃ i, xs = [.int i] ∧ Q (.int i) H) ∨ ∃ k, xs = [.bl k] ∧ Q (.int (if k then 1 else 0)) H) ∨ ∃ a n, xs = [.str a] ∧ PySem.intText? a = some n ∧ a.length ≤ 640 ∧ Q (.int n) H
theorem call_intA : CallR X (.type "int") rIntA := call_int1.or call_int_str
theorem h_int : Op1 X G rIntA (P0 X G) intD := by
  intro c H x v E Q o t p
  unfold intD at p
  cases x with
  | int i => rw [t.int]; exact .inl (.inl ⟨_, rfl, p.here o (fun _ _ h => h) .int⟩)
  | bl i => rw [t.bl]; exact .inl (.inr ⟨_, rfl, p.here o (fun _ _ h => h) .int⟩)
  | str s =>
    cases e : PySem.intText? s with
    | none => simp only [e] at p; exact p.elim
    | some n =>
      simp only [e] at p
      obtain ⟨hz, p⟩ := post_if p
      rw [t.str]
      exact .inr ⟨_, _, rfl, e, hz, p.here o (fun _ _ h => h) .int⟩
  | _ => exact p.elim
theorem ve_toint {e : Expr} {f : Env → M D} {p pos : Pos} (hm : X.mg "int" = none) (he : VR G X W e f) (hg : Gl X "int" := by rfl) (hst : starEach [e] X.env = [(false, eval e X.env)] := by rfl) : VE G X W (.Call (.Name "int" p) [e] [] pos) (fun ρ => do let x ← f ρ; intD x) := ve_t1 call_intA h_int hm (by decide +kernel) he hg (hst := hst)
def strD : D → M D
  | .int i => if i.natAbs.log2 < 1920 then pure (.str (toString i)) else no
  | _ => no
theorem h_str : Op1 X G (fun xs H Q => ∃ i : Int, xs = [.int i] ∧ i.natAbs.log2 < 1920 ∧ Q (.str (toString i)) H) (P0 X G) strD := by
  intro c H x v E Q o t p
  unfold strD at p
  cases x with
  | int i =>
    obtain ⟨hz, p⟩ := post_if p
    rw [t.int]; exact ⟨_, rfl, hz, p.here o (fun _ _ h => h) .str⟩
  | _ => exact p.elim
theorem ve_tostr {e : Expr} {f : Env → M D} {p pos : Pos} (hm : X.mg "str" = none) (he : VR G X W e f) (hg : Gl X "str" := by rfl) (hst : starEach [e] X.env = [(false, eval e X.env)] := by rfl) : VE G X W (.Call (.Name "str" p) [e] [] pos) (fun ρ => do let x ← f ρ; strD x) := ve_t1 call_str_int h_str hm (by decide +kernel) he hg (hst := hst)
def absD : D → M D
  | .int i => pure (.int (if i < 0 then -i else i))
  | _ => no
theorem h_abs : Op1 X G (fun xs H Q => ∃ i : Int, xs = [.int i] ∧ Q (.int (if i < 0 then -i else i)) H) (P0 X G) absD := by
  intro c H x v E Q o t p
  unfold absD at p
  cases x with
  | int i => rw [t.int]; exact ⟨_, rfl, p.here o (fun _ _ h => h) .int⟩
  | _ => exact p.elim
theorem ve_abs {e : Expr} {f : Env → M D} {p pos : Pos} (hm : X.mg "abs" = none) (he : VR G X W e f) (hg : Gl X "abs" := by rfl) (hst : starEach [e] X.env = [(false, eval e X.env)] := by rfl) : VE G X W (.Call (.Name "abs" p) [e] [] pos) (fun ρ => do let x ← f ρ; absD x) := ve_b1 call_abs h_abs hm (by decide +kernel) he hg (hst := hst)
/-- list(xs): a new list of a list's, a tuple's items -/
def listD : D → M D
  | .lst xs => pure (.lst xs)
  | .tup xs => pure (.lst xs)
  | .dic ks => pure (.lst (keysD ks))
  | .obj o => fun s => match s[o]? with
    | some (.lst xs) => .ok (.lst xs) s
    | _ => .no
  | _ => no
theorem keys_den {K : PySem.W.Frag} {As : List Addr} {F : Hp} : ∀ {ks : List (Key × D)} {ws : List (Key × V)}, DenK K G As F ks ws → DenL K G As F (keysD ks) (ws.map fun kv => kV kv.1)
  | _, _, .nil => .nil
  | _, _, .cons _ l => .cons keyD_den (keys_den l)
theorem h_list {P : Cf → Hp → Cf → Hp → D → V → Prop} (hP : ∀ {c : Cf} {H : Hp} {E : XK} {Q : VK} {d : D} {p : Addr} {u : HO}, Post X.K G (P c H) E c H (.ok d c.st) Q → CfOk X.K G c H → H p = none → OwnAt X.K G c.As c.F (upd H p u) p d → Q (.ref p) (upd H p u)) :
    Op1 X G (fun xs H Q => (∃ p ys, xs = [.ref p] ∧ (SqL X.K H p ys ∨ SqT X.K H p ys) ∧ ∀ l, H l = none → Q (.ref l) (upd H l (.lst ys))) ∨ ∃ (a : Addr) (kvs : List (Key × V)), xs = [.ref a] ∧ Rd H a (.dK kvs) ∧ ∀ p, H p = none → Q (.ref p) (upd H p (.lst (kvs.map fun kv => kV kv.1)))) P listD := by
  intro c H x v E Q o t p
  unfold listD at p
  cases x with
  | lst xs =>
    obtain ⟨a, vs, rfl, ha, la⟩ := t.lst o
    exact .inl ⟨a, vs, rfl, .inl ha, fun q hq => hP p o hq ⟨_, upd_same, la⟩⟩
  | tup xs =>
    obtain ⟨a, vs, rfl, ha, la⟩ := t.tup o
    exact .inl ⟨a, vs, rfl, .inr ha, fun q hq => hP p o hq ⟨_, upd_same, la⟩⟩
  | dic ks =>
    obtain ⟨a, vs, rfl, ha, la⟩ := t.dic o
    exact .inr ⟨a, vs, rfl, ha, fun q hq => hP p o hq ⟨_, upd_same, keys_den la⟩⟩
  | obj ob =>
    obtain ⟨a, rfl, ea⟩ := t.obj
    cases e : c.st[ob]? with
    | none => simp only [e] at p; exact p.elim
    | some d =>
      simp only [e] at p
      cases d with
      | lst xs =>
        obtain ⟨vs, hv, la⟩ := o.store ea e
        exact .inl ⟨a, vs, rfl, .inl (SqL.of hv), fun q hq => hP p o hq ⟨_, upd_same, la⟩⟩
      | _ => exact p.elim
  | _ => exact p.elim
theorem vn_list {e : Expr} {f : Env → M D} {p pos : Pos} (hc : X.calm = true) (hm : X.mg "list" = none) (he : VR G X W e f) (hg : Gl X "list" := by rfl) (hst : starEach [e] X.env = [(false, eval e X.env)] := by rfl) : VN G X W (.Call (.Name "list" p) [e] [] pos) (fun ρ => do let x ← f ρ; listD x) :=
  vn_t1 (call_list_of.or (call_listD hc)) (h_list fun p o hp w => p.newOwn o hp w) hm (by decide +kernel) he hg (hst := hst)
end
end PV
end

section
namespace PV
open PySem PySem.Spec L2
open PyProof.Rows hiding St

/-! isinstance -/
abbrev Tag := Sum String Str
def tagV (G : ClsAt) : Tag → Value
  | .inl n => .type n
  | .inr c => .ref (G c)
def tagOf (s : Stt) : D → Option Tag
  | .non => some (.inl "NoneType")
  | .bl _ => some (.inl "bool")
  | .int _ => some (.inl "int")
  | .str _ => some (.inl "str")
  | .lst _ => some (.inl "list")
  | .tup _ => some (.inl "tuple")
  | .dic _ => some (.inl "dict")
  | .ins c _ => some (.inr c)
  | .obj o => match s[o]? with
    | some (.lst _) => some (.inl "list")
    | some (.dic _) => some (.inl "dict")
    | some (.ins c _) => some (.inr c)
    | _ => none
  | _ => none
/-- what isinstance asks of an own class -/
structure ClsF (K : PySem.W.Frag) (C : Addr) : Prop where
  cl : Cls K C
  ha : PySem.W.findIn K (.ref C) "__class__" = some (some (.builtin "object.__class__"))
  hn : PySem.W.specialIn K (.builtin "object.__class__") "__get__" = some (some (.builtin "getset_descriptor.__get__"))
  htk : PySem.W.takesIn K (.builtin "object.__class__") = some true
  hm : PySem.W.mroIn K C (.type "object") = some true
abbrev Sub1 := Tag → Option Bool
/-- the answers of one class -/
structure SubOk (K : PySem.W.Frag) (G : ClsAt) (c : Value) (sb : Sub1) : Prop where
  ok : ∀ t b, sb t = some b → PySem.W.kitOne K (tagV G t) c = some b
  own : ∀ k b, sb (.inr k) = some b → ClsF K (G k)
def sbTy (n : String) : Sub1
  | .inl a => kitB a n
  | .inr _ => none
theorem sbTy_ok {K : PySem.W.Frag} {G : ClsAt} {n : String} : SubOk K G (.type n) (sbTy n) where
  ok := fun t b h => by
    cases t with
    | inl a => exact kit_ty h
    | inr k => cases h
  own := fun k b h => by cases h
def isiD (sb : Sub1) (x : D) : M Bool := fun s => match tagOf s x with
  | some t => match sb t with
    | some b => .ok b s
    | none => .no
  | none => .no
def isiAny (sbs : List Sub1) (x : D) : M Bool := match sbs with
  | [] => pure false
  | sb :: r => do let b ← isiD sb x; if b then pure true else isiAny r x
section
variable {X : Cx} {G : ClsAt} {W : WX}
theorem tyx_of {K : PySem.W.Frag} {c : Cf} {H : Hp} {x : D} {v : V} {t : Tag} (o : CfOk K G c H) (tx : DenT K G c H x v) (e : tagOf c.st x = some t) (own : ∀ k, t = .inr k → ClsF K (G k)) : TyX K H v (tagV G t) := by
  have lst : ∀ {a : Addr} {vs : List V}, SqL K H a vs → TyX K H (.ref a) (.type "list") := fun {a vs} h => by
    rcases h with (h | ⟨ob, h⟩) | ⟨ob, its, n, h1, h2, _⟩
    · exact .base (.lst h)
    · exact .base (.frz h)
    · exact .kList h1 h2
  have tup : ∀ {a : Addr} {vs : List V}, SqT K H a vs → TyX K H (.ref a) (.type "tuple") := fun {a vs} h => by
    rcases h with (h | ⟨ob, h⟩) | ⟨ob, its, n, h1, h2, _⟩
    · exact .base (.tup h)
    · exact .fTuple h
    · exact .kTuple h1 h2
  have dic : ∀ {a : Addr} {vs : List (Key × V)}, Rd H a (.dK vs) → TyX K H (.ref a) (.type "dict") := fun {a vs} h => by
    rcases h with h | ⟨ob, h⟩
    · exact .base (.dK h)
    · exact .fDict h
  have ins : ∀ {a dx : Addr} {k : Str} {fs : List (Str × V)}, H a = some (.ins (G k) dx fs) → ClsF K (G k) → TyX K H (.ref a) (.ref (G k)) := fun h f => .base (.ins h f.cl f.ha f.hn f.htk f.hm)
  cases x with
  | non => cases e; rw [tx.non]; exact .base .non
  | bl b => cases e; rw [tx.bl]; exact .base (.bl _)
  | int b => cases e; rw [tx.int]; exact .base (.int _)
  | str b => cases e; rw [tx.str]; exact .base (.str _)
  | lst xs => cases e; obtain ⟨a, vs, rfl, ha, _⟩ := tx.lst o; exact lst ha
  | tup xs => cases e; obtain ⟨a, vs, rfl, ha, _⟩ := tx.tup o; exact tup ha
  | dic xs => cases e; obtain ⟨a, vs, rfl, ha, _⟩ := tx.dic o; exact dic ha
  | ins k fs => cases e; obtain ⟨a, dx, vs, rfl, ha, _⟩ := tx.ins o; exact ins ha (own _ rfl)
  | obj ob =>
    obtain ⟨a, rfl, ea⟩ := tx.obj
    have e : (match c.st[ob]? with
      | some (.lst _) => some (.inl "list")
      | some (.dic _) => some (.inl "dict")
      | some (.ins c _) => some (.inr c)
      | _ => none) = some t := e
    cases q : c.st[ob]? with
    | none => rw [q] at e; cases e
    | some d =>
      rw [q] at e
      have w := o.store ea q
      cases d with
      | lst xs => cases e; obtain ⟨vs, h, _⟩ := w; exact lst (SqL.of h)
      | dic xs => cases e; obtain ⟨vs, h, _⟩ := w; exact dic (.inl h)
      | ins k xs => cases e; obtain ⟨dx, vs, h, _⟩ := w; exact ins h (own _ rfl)
      | _ => cases e
  | _ => cases e
theorem isi_1 {K : PySem.W.Frag} {c : Cf} {H : Hp} {x : D} {sb : Sub1} {E : XK} {Q : Bool → Hp → Prop} (p : Post K G PBl E c H (isiD sb x c.st) Q) : ∃ t b, tagOf c.st x = some t ∧ sb t = some b ∧ Post K G PBl E c H (.ok b c.st) Q := by
  unfold isiD at p
  cases e : tagOf c.st x with
  | none => simp only [e] at p; exact p.elim
  | some t =>
    simp only [e] at p
    cases e2 : sb t with
    | none => simp only [e2] at p; exact p.elim
    | some b => simp only [e2] at p; exact ⟨t, b, rfl, e2, p⟩
/-- isinstance(x, C) -/
theorem ve_isi {e ce : Expr} {f : Env → M D} {sb : Sub1} {cv : V} {cu : Value} {p pos : Pos} (hm : X.mg "isinstance" = none) (he : VR G X W e f) (hc : PE X ce (tC cv)) (kc : ClsV cv cu) (hs : SubOk X.K G cu sb) (hg : Gl X "isinstance" := by rfl)
    (h1 : starEach [e, ce] X.env = [(false, eval e X.env), (false, eval ce X.env)] := by rfl) (h2 : starEach [ce] X.env = [(false, eval ce X.env)] := by rfl) (hpl : (backTo pos (starEach [ce] X.env)).any (·.1) = false := by rfl) :
    VE G X W (.Call (.Name "isinstance" p) [e, ce] [] pos) (fun ρ => do let x ← f ρ; let b ← isiD sb x; pure (.bl b)) :=
  PE.imp (pe_callB call_isi hg hm boot_isinstance (pa_cons he (pa_cons hc pa_nil h2) (by rw [h1, h2])) (he := by rw [h1, h2]) (hpl := hpl)) fun σ H Q ⟨H0, ρ, c, o, sl, p⟩ => tR_step rfl o sl p fun x v c1 H1 x1 o1 sl1 t1 p1 => by
    have p2 := Post.bind (P := PBl) (E := fun cls dx H' => W cls dx σ H') (f := fun b => (pure (.bl b) : M D)) p1
    obtain ⟨t, b, e1, e2, p3⟩ := isi_1 p2
    refine ⟨v, cv, _, cu, b, rfl, kc, tyx_of o1 t1 e1 (fun k hk => hs.own k b (hk ▸ e2)), hs.ok t b e2, ?_⟩
    have := p3.here o1 (fun _ _ h => h) (v := b) rfl
    obtain ⟨a, c', x', o', q, r⟩ := this
    cases (show a = b from q)
    exact Post.here (a := D.bl _) r o' (fun _ _ h => h) .bl
theorem pe_ty {x : Str} {n : String} {pos : Pos} (hm : X.mg x = none) (hv : bootBuiltins x = some (.type n)) (hg : Gl X x := by rfl) (hn : x ≠ "__name__" := by decide) (hd : (x == ("__debug__" : Str)) = false := by decide) : PE X (.Name x pos) (tC (.ty n)) := pe_bltn hg hm hv rfl hn hd
theorem pe_cls {x : Str} {C : Addr} {pos : Pos} (hm : X.mg x = some (.ref C)) (hg : Gl X x := by rfl) (hd : (x == ("__debug__" : Str)) = false := by decide) : PE X (.Name x pos) (tC (.ref C)) := pe_glob hg hm rfl hd
/-- a list of classes -/
inductive ClsL (G : ClsAt) (X : Cx) : List Expr → List V → List Value → List Sub1 → Prop
  | nil : ClsL G X [] [] [] []
  | cons {e : Expr} {es : List Expr} {cv : V} {cvs : List V} {cu : Value} {cus : List Value} {sb : Sub1} {sbs : List Sub1} : PE X e (tC cv) → ClsV cv cu → SubOk X.K G cu sb → (starEach (e :: es) X.env = (false, eval e X.env) :: starEach es X.env) → ClsL G X es cvs cus sbs → ClsL G X (e :: es) (cv :: cvs) (cu :: cus) (sb :: sbs)
theorem ClsL.pa : ∀ {es : List Expr} {cvs : List V} {cus : List Value} {sbs : List Sub1}, ClsL G X es cvs cus sbs → PA X es (fun _ H Q => Q cvs H)
  | _, _, _, _, .nil => PA.imp pa_nil fun _ _ _ h => h
  | _, _, _, _, .cons h _ _ s r => PA.imp (pa_cons h (ClsL.pa r) s) fun _ _ _ h => h
theorem ClsL.paired : ∀ {es : List Expr} {cvs : List V} {cus : List Value} {sbs : List Sub1}, ClsL G X es cvs cus sbs → Paired ClsV cvs cus
  | _, _, _, _, .nil => .nil
  | _, _, _, _, .cons _ k _ _ r => .cons k (ClsL.paired r)
theorem ClsL.any {c : Cf} {H : Hp} {x : D} {v : V} (o : CfOk X.K G c H) (tx : DenT X.K G c H x v) : ∀ {es : List Expr} {cvs : List V} {cus : List Value} {sbs : List Sub1} {E : XK} {Q : Bool → Hp → Prop} {t : Tag}, ClsL G X es cvs cus sbs → tagOf c.st x = some t →
    Post X.K G PBl E c H (isiAny sbs x c.st) Q → ∃ b, PySem.W.kitAny X.K (tagV G t) cus = some b ∧ Post X.K G PBl E c H (.ok b c.st) Q
  | _, _, _, _, E, Q, t, .nil, e, p => ⟨false, rfl, p⟩
  | _, _, _, _, E, Q, t, .cons (sb := sb) (sbs := sbs) _ _ s _ r, e, p => by
    unfold isiAny at p
    have p2 := Post.bind (P := PBl) (E := E) (f := fun b => (if b then pure true else isiAny sbs x : M Bool)) p
    obtain ⟨t', b, e1, e2, p3⟩ := isi_1 p2
    rw [e] at e1; cases e1
    have := p3.here o (fun _ _ h => h) (v := b) rfl
    have p : Post X.K G PBl E c H ((if b then pure true else isiAny sbs x : M Bool) c.st) Q := by
      have z : ((isiD sb x >>= fun b => if b then pure true else isiAny sbs x) : M Bool) c.st = (if b then pure true else isiAny sbs x : M Bool) c.st := by
        have : isiD sb x c.st = .ok b c.st := by unfold isiD; simp only [e, e2]
        simp only [Bind.bind, M.bind, this]
      rw [← z]; exact p
    have k := s.ok t b e2
    cases b with
    | true => exact ⟨true, kitAny_cons k (fun z => by cases z) (fun _ => rfl), p⟩
    | false =>
      obtain ⟨b2, k2, p4⟩ := ClsL.any o tx r e p
      exact ⟨b2, kitAny_cons k (fun _ => k2) (fun z => by cases z), p4⟩
theorem isi_tag {K : PySem.W.Frag} {c : Cf} {H : Hp} {x : D} {sb : Sub1} {sbs : List Sub1} {E : XK} {Q : Bool → Hp → Prop} (p : Post K G PBl E c H (isiAny (sb :: sbs) x c.st) Q) : ∃ t b, tagOf c.st x = some t ∧ sb t = some b := by
  unfold isiAny at p
  obtain ⟨t', b, e1, e2, _⟩ := isi_1 (Post.bind (P := PBl) (E := E) (f := fun b => (if b then pure true else isiAny sbs x : M Bool)) p)
  exact ⟨t', b, e1, e2⟩
/-- isinstance(x, (C1, C2, ..)) -/
theorem ve_isiT {e : Expr} {es : List Expr} {f : Env → M D} {cvs : List V} {cus : List Value} {sb : Sub1} {sbs : List Sub1} {k : Nat} {pt p pos : Pos} (hm : X.mg "isinstance" = none) (he : VR G X W e f) (hc : ClsL G X es cvs cus (sb :: sbs)) (hl : cvs.length ≤ 100) (hg : Gl X "isinstance" := by rfl)
    (h1 : starEach [e, .Tuple es k pt] X.env = [(false, eval e X.env), (false, eval (.Tuple es k pt) X.env)] := by rfl) (h2 : starEach [.Tuple es k pt] X.env = [(false, eval (.Tuple es k pt) X.env)] := by rfl) (hpl : (backTo pos (starEach [.Tuple es k pt] X.env)).any (·.1) = false := by rfl) :
    VE G X W (.Call (.Name "isinstance" p) [e, .Tuple es k pt] [] pos) (fun ρ => do let x ← f ρ; let b ← isiAny (sb :: sbs) x; pure (.bl b)) :=
  PE.imp (pe_callB call_isiT hg hm boot_isinstance (pa_cons he (pa_cons (pe_tup hc.pa) pa_nil h2) (by rw [h1, h2])) (he := by rw [h1, h2]) (hpl := hpl)) fun σ H Q ⟨H0, ρ, c, o, sl, p⟩ => tR_step rfl o sl p fun x v c1 H1 x1 o1 sl1 t1 p1 => by
    refine ⟨Nat.le_trans hl (by rw [sizeLine_eq]; decide), fun q hq => ?_⟩
    have p2 := Post.bind (P := PBl) (E := fun cls dx H' => W cls dx σ H') (f := fun b => (pure (.bl b) : M D)) p1
    obtain ⟨t, b1, e1, e2⟩ := isi_tag p2
    obtain ⟨b, k1, p3⟩ := ClsL.any o1 t1 hc e1 p2
    have gr := upd_keep (u := .tup cvs) hq
    have t2 : DenT X.K G c1 (upd H1 q (.tup cvs)) x v := t1.ext (Ext.heap gr)
    have o2 := o1.grow gr
    have own : ∀ k, t = .inr k → ClsF X.K (G k) := fun k hk => by
      cases hc with
      | cons _ _ s _ _ => exact s.own k b1 (hk ▸ e2)
    refine ⟨v, q, cvs, _, cus, b, rfl, upd_same, hc.paired, tyx_of o2 t2 e1 own, k1, ?_⟩
    have := p3.here o1 gr (v := b) rfl
    obtain ⟨a, c', x', o', q', r⟩ := this
    cases (show a = b from q')
    exact Post.here (a := D.bl _) r o' (fun _ _ h => h) .bl

/-! all, any, sum -/
def boolsD : List D → Option (List Bool)
  | [] => some []
  | .bl b :: r => (boolsD r).map (b :: ·)
  | _ => none
def intsD : List D → Option (List Int)
  | [] => some []
  | .int b :: r => (intsD r).map (b :: ·)
  | _ => none
def strsD : List D → Option (List Str)
  | [] => some []
  | .str b :: r => (strsD r).map (b :: ·)
  | _ => none
theorem bools_den {K : PySem.W.Frag} {As : List Addr} {F : Hp} : ∀ {ds : List D} {vs : List V} {bs : List Bool}, boolsD ds = some bs → DenL K G As F ds vs → vs = bs.map V.bl
  | [], _, _, h, .nil => by cases h; rfl
  | .bl b :: r, _, _, h, .cons t l => by
    obtain ⟨q, h1, rfl⟩ := Option.map_eq_some_iff.mp (show (boolsD r).map (b :: ·) = some _ from h)
    cases t; rw [bools_den h1 l]; rfl
  | .non :: _, _, _, h, _ | .int _ :: _, _, _, h, _ | .str _ :: _, _, _, h, _ | .lst _ :: _, _, _, h, _ | .tup _ :: _, _, _, h, _ | .dic _ :: _, _, _, h, _ | .ins _ _ :: _, _, _, h, _ | .cls _ :: _, _, _, h, _ | .ty _ :: _, _, _, h, _ | .obj _ :: _, _, _, h, _ | .tab _ _ :: _, _, _, h, _ => by cases h
theorem ints_den {K : PySem.W.Frag} {As : List Addr} {F : Hp} : ∀ {ds : List D} {vs : List V} {bs : List Int}, intsD ds = some bs → DenL K G As F ds vs → vs = bs.map V.int
  | [], _, _, h, .nil => by cases h; rfl
  | .int b :: r, _, _, h, .cons t l => by
    obtain ⟨q, h1, rfl⟩ := Option.map_eq_some_iff.mp (show (intsD r).map (b :: ·) = some _ from h)
    cases t; rw [ints_den h1 l]; rfl
  | .non :: _, _, _, h, _ | .bl _ :: _, _, _, h, _ | .str _ :: _, _, _, h, _ | .lst _ :: _, _, _, h, _ | .tup _ :: _, _, _, h, _ | .dic _ :: _, _, _, h, _ | .ins _ _ :: _, _, _, h, _ | .cls _ :: _, _, _, h, _ | .ty _ :: _, _, _, h, _ | .obj _ :: _, _, _, h, _ | .tab _ _ :: _, _, _, h, _ => by cases h
theorem strs_den {K : PySem.W.Frag} {As : List Addr} {F : Hp} : ∀ {ds : List D} {vs : List V} {bs : List Str}, strsD ds = some bs → DenL K G As F ds vs → vs = bs.map V.str
  | [], _, _, h, .nil => by cases h; rfl
  | .str b :: r, _, _, h, .cons t l => by
    obtain ⟨q, h1, rfl⟩ := Option.map_eq_some_iff.mp (show (strsD r).map (b :: ·) = some _ from h)
    cases t; rw [strs_den h1 l]; rfl
  | .non :: _, _, _, h, _ | .bl _ :: _, _, _, h, _ | .int _ :: _, _, _, h, _ | .lst _ :: _, _, _, h, _ | .tup _ :: _, _, _, h, _ | .dic _ :: _, _, _, h, _ | .ins _ _ :: _, _, _, h, _ | .cls _ :: _, _, _, h, _ | .ty _ :: _, _, _, h, _ | .obj _ :: _, _, _, h, _ | .tab _ _ :: _, _, _, h, _ => by cases h
def allD : D → M D
  | .lst xs => atM ((boolsD xs).map fun bs => .bl (bs.all id))
  | _ => no
def anyD : D → M D
  | .lst xs => atM ((boolsD xs).map fun bs => .bl (bs.any id))
  | _ => no
def sumD : D → M D
  | .lst xs => atM ((intsD xs).map fun bs => .int bs.sum)
  | _ => no
theorem h_all : Op1 X G (rAll X.K) (P0 X G) allD := by
  intro c H x v E Q o t p
  cases x with
  | lst xs =>
    obtain ⟨a, vs, rfl, ha, la⟩ := t.lst o
    obtain ⟨d, e, p⟩ := post_at (s := c.st) p
    obtain ⟨bs, e2, rfl⟩ := Option.map_eq_some_iff.mp e
    exact ⟨a, bs, rfl, bools_den e2 la ▸ ha, p.here o (fun _ _ h => h) .bl⟩
  | _ => exact p.elim
theorem h_any : Op1 X G (rAny X.K) (P0 X G) anyD := by
  intro c H x v E Q o t p
  cases x with
  | lst xs =>
    obtain ⟨a, vs, rfl, ha, la⟩ := t.lst o
    obtain ⟨d, e, p⟩ := post_at (s := c.st) p
    obtain ⟨bs, e2, rfl⟩ := Option.map_eq_some_iff.mp e
    exact ⟨a, bs, rfl, bools_den e2 la ▸ ha, p.here o (fun _ _ h => h) .bl⟩
  | _ => exact p.elim
theorem h_sum : Op1 X G (rSum X.K) (P0 X G) sumD := by
  intro c H x v E Q o t p
  cases x with
  | lst xs =>
    obtain ⟨a, vs, rfl, ha, la⟩ := t.lst o
    obtain ⟨d, e, p⟩ := post_at (s := c.st) p
    obtain ⟨bs, e2, rfl⟩ := Option.map_eq_some_iff.mp e
    exact ⟨a, bs, rfl, ints_den e2 la ▸ ha, p.here o (fun _ _ h => h) .int⟩
  | _ => exact p.elim
theorem ve_all {e : Expr} {f : Env → M D} {p pos : Pos} (hc : X.calm = true) (hm : X.mg "all" = none) (he : VR G X W e f) (hg : Gl X "all" := by rfl) (hst : starEach [e] X.env = [(false, eval e X.env)] := by rfl) : VE G X W (.Call (.Name "all" p) [e] [] pos) (fun ρ => do let x ← f ρ; allD x) := ve_b1 (cr_all hc) h_all hm (by decide +kernel) he hg (hst := hst)
theorem ve_any {e : Expr} {f : Env → M D} {p pos : Pos} (hc : X.calm = true) (hm : X.mg "any" = none) (he : VR G X W e f) (hg : Gl X "any" := by rfl) (hst : starEach [e] X.env = [(false, eval e X.env)] := by rfl) : VE G X W (.Call (.Name "any" p) [e] [] pos) (fun ρ => do let x ← f ρ; anyD x) := ve_b1 (cr_any hc) h_any hm (by decide +kernel) he hg (hst := hst)
theorem ve_sum {e : Expr} {f : Env → M D} {p pos : Pos} (hc : X.calm = true) (hm : X.mg "sum" = none) (he : VR G X W e f) (hg : Gl X "sum" := by rfl) (hst : starEach [e] X.env = [(false, eval e X.env)] := by rfl) : VE G X W (.Call (.Name "sum" p) [e] [] pos) (fun ρ => do let x ← f ρ; sumD x) := ve_b1 (cr_sum hc) h_sum hm (by decide +kernel) he hg (hst := hst)

/-! texts' methods -/
def asS : D → M Str
  | .str s => pure s
  | _ => no
def joinD (a : Str) : D → M D
  | .lst xs => match strsD xs with
    | some ys => if (ys.map (·.length)).sum + ys.length * a.length ≤ SIZE then pure (.str (Txt.join a ys)) else no
    | none => no
  | _ => no
theorem asS_step {K : PySem.W.Frag} {γ δ : Type} {c : Cf} {H : Hp} {x : D} {v : V} {k : Str → M γ} {P' : Cf → Hp → γ → δ → Prop} {E : XK} {Q : δ → Hp → Prop} (t : DenT K G c H x v) (p : Post K G P' E c H ((asS x >>= k) c.st) Q) : ∃ a, v = .str a ∧ Post K G P' E c H (k a c.st) Q := by
  cases x with
  | str a => exact ⟨a, t.str, p⟩
  | _ => exact p.elim
theorem ve_join {o e : Expr} {f g : Env → M D} {apos pos : Pos} (ho : VR G X W o f) (he : VR G X W e g) (hs : starEach [e] X.env = [(false, eval e X.env)] := by rfl) (hbase : attributeBase o "join" X.env (eval o X.env) = eval o X.env := by rfl) (hline : (apos.endLine == pos.line) = true := by rfl) :
    VE G X W (.Call (.Attribute o "join" apos) [e] [] pos) (fun ρ => do let x ← f ρ; let a ← asS x; let y ← g ρ; joinD a y) :=
  PE.imp (pe_join ho he hs hbase hline) fun σ H Q ⟨H0, ρ, c, o, sl, p⟩ => tR_step rfl o sl p fun x v c1 H1 x1 o1 sl1 t1 p1 => by
    obtain ⟨a, rfl, p1⟩ := asS_step t1 p1
    refine ⟨⟨a, rfl⟩, tR_step rfl o1 sl1 p1 fun y w c2 H2 x2 o2 sl2 t2 p2 => ?_⟩
    cases y with
    | lst xs =>
      obtain ⟨b, vs, rfl, hb, lb⟩ := t2.lst o2
      have p2 : Post X.K G (PDen X.K G) (fun cls dx H' => W cls dx σ H') c2 H2 (joinD a (.lst xs) c2.st) Q := p2
      unfold joinD at p2
      cases e : strsD xs with
      | none => simp only [e] at p2; exact p2.elim
      | some ys =>
        simp only [e] at p2
        obtain ⟨hz, p2⟩ := post_if p2
        exact ⟨a, b, ys, rfl, rfl, .inl (strs_den e lb ▸ hb), Nat.le_trans hz (by decide), p2.here o2 (fun _ _ h => h) .str⟩
    | _ => exact p2.elim
end
end PV
end

section
namespace PV
open PySem PySem.Spec L2
open PyProof.Rows hiding St

/-! the names of a piece of code: kind and slot -/
abbrev NT := List (Str × NameKind × Nat)
def visK : NameKind → Bool
  | .local => true | .cell => true | .free => true | _ => false
structure On (X : Cx) (T : NT) : Prop where
  calm : X.calm = true
  nd : X.N.Nodup
  ok : ∀ e ∈ T, X.env.scope.names.lookup e.1 = some e.2.1 ∧ (visK e.2.1 = true → X.N[e.2.2]? = some e.1) ∧ (e.1 == ("__debug__" : Str)) = false ∧ (e.1 == ("__classdict__" : Str)) = false ∧ e.1 ≠ "__name__"
def ntB (sc : Scope) (N : List Str) (T : NT) : Bool := T.all fun e => decide (sc.names.lookup e.1 = some e.2.1) && (!visK e.2.1 || decide (N[e.2.2]? = some e.1)) && !(e.1 == ("__debug__" : Str)) && !(e.1 == ("__classdict__" : Str)) && decide (e.1 ≠ "__name__")
theorem On.of {X : Cx} {T : NT} {N : List Str} {sc : Scope} (hc : X.calm = true) (hn : X.N = N) (hs : X.env.scope = sc) (nd : N.Nodup) (h : ntB sc N T = true) : On X T := by
  refine ⟨hc, hn ▸ nd, fun e he => ?_⟩
  have q := List.all_eq_true.mp h e he
  simp only [Bool.and_eq_true, Bool.or_eq_true, Bool.not_eq_true', decide_eq_true_eq] at q
  obtain ⟨⟨⟨⟨a, b⟩, c⟩, d⟩, f⟩ := q
  refine ⟨hs ▸ a, fun hv => ?_, c, d, f⟩
  rw [hn]
  rcases b with b | b
  · rw [hv] at b; cases b
  · exact b
section
variable {X : Cx} {G : ClsAt} {W : WX} {T : NT} {x : Str} {k : NameKind} {i : Nat}
theorem On.at {j : Nat} (on : On X T) (h : T[j]? = some (x, k, i)) (hv : visK k = true) : X.N[i]? = some x := (on.ok _ (List.mem_of_getElem? h)).2.1 hv
theorem On.kind {j : Nat} (on : On X T) (h : T[j]? = some (x, k, i)) : X.env.scope.names.lookup x = some k := (on.ok _ (List.mem_of_getElem? h)).1
theorem On.vis {j : Nat} (on : On X T) (h : T[j]? = some (x, k, i)) (hv : visK k = true) : Vis X.env.scope x := by
  have q := on.kind h
  cases k <;> first | exact .inl q | exact .inr (.inl q) | exact .inr (.inr q) | cases hv
theorem On.dbg {j : Nat} (on : On X T) (h : T[j]? = some (x, k, i)) : (x == ("__debug__" : Str)) = false := (on.ok _ (List.mem_of_getElem? h)).2.2.1
theorem On.cd {j : Nat} (on : On X T) (h : T[j]? = some (x, k, i)) : (x == ("__classdict__" : Str)) = false := (on.ok _ (List.mem_of_getElem? h)).2.2.2.1
theorem On.nn {j : Nat} (on : On X T) (h : T[j]? = some (x, k, i)) : x ≠ "__name__" := (on.ok _ (List.mem_of_getElem? h)).2.2.2.2
theorem On.gl {j : Nat} (on : On X T) (h : T[j]? = some (x, .globalImplicit, i)) : Gl X x := on.kind h
theorem On.loc {j : Nat} (on : On X T) (h : T[j]? = some (x, k, i)) (hv : k = .local ∨ k = .cell) : Loc X.env.scope x := by
  have q := on.kind h
  rcases hv with rfl | rfl
  · exact .inl q
  · exact .inr q
theorem v_var {pos : Pos} (on : On X T) (j : Nat) (h : T[j]? = some (x, k, i) := by rfl) (hv : visK k = true := by rfl) : VE G X W (.Name x pos) (getV i) := ve_var i (on.at h hv) (on.vis h hv) (on.dbg h) (on.cd h)
theorem r_var {pos : Pos} (on : On X T) (j : Nat) (h : T[j]? = some (x, k, i) := by rfl) (hv : visK k = true := by rfl) : VR G X W (.Name x pos) (getR i) := vr_var i (on.at h hv) (on.vis h hv) (on.dbg h) (on.cd h)
end

/-! statements -/
inductive SR where
  | nx (ρ : Env) (s : Stt) | rt (d : D) (s : Stt) | bk (ρ : Env) (s : Stt) | ct (ρ : Env) (s : Stt) | err (e : Err) (ρ : Env) (s : Stt) | no
abbrev SM := Env → Stt → SR
/-- a value's mirror, then the rest -/
def sB {α : Type} (x : M α) (ρ : Env) (k : α → Stt → SR) (s : Stt) : SR := match x s with
  | .ok a s' => k a s'
  | .err e s' => .err e ρ s'
  | .no => .no
def sSeq (a b : SM) : SM := fun ρ s => match a ρ s with
  | .nx ρ' s' => b ρ' s'
  | r => r
def sNil : SM := fun ρ s => .nx ρ s
/-- what a returned value is to be; H0: the heap at the entry -/
abbrev RPT := Hp → Cf → Hp → D → V → Prop
abbrev rDen (K : PySem.W.Frag) (G : ClsAt) : RPT := fun _ => PDen K G
abbrev rOwn (K : PySem.W.Frag) (G : ClsAt) : RPT := fun H0 => POwn K G H0
section
variable (K : PySem.W.Frag) (G : ClsAt)
def SPost (RP : RPT) (W : WX) (c0 : Cf) (H0 : Hp) (r : SR) (D : Ends) : Prop := match r with
  | .nx ρ' st' => ∀ σ' F' As' H', Ext c0 H0 ⟨F', As', st'⟩ H' → CfOk K G ⟨F', As', st'⟩ H' → Slots K G H0 ⟨F', As', st'⟩ H' ρ' σ' → D.nx σ' H'
  | .bk ρ' st' => ∀ σ' F' As' H', Ext c0 H0 ⟨F', As', st'⟩ H' → CfOk K G ⟨F', As', st'⟩ H' → Slots K G H0 ⟨F', As', st'⟩ H' ρ' σ' → D.bk σ' H'
  | .ct ρ' st' => ∀ σ' F' As' H', Ext c0 H0 ⟨F', As', st'⟩ H' → CfOk K G ⟨F', As', st'⟩ H' → Slots K G H0 ⟨F', As', st'⟩ H' ρ' σ' → D.ct σ' H'
  | .rt d st' => ∀ v F' As' H', Ext c0 H0 ⟨F', As', st'⟩ H' → CfOk K G ⟨F', As', st'⟩ H' → RP H0 ⟨F', As', st'⟩ H' d v → D.rt v H'
  | .err e ρ' st' => ∀ σ' F' As' H' cls dx, Ext c0 H0 ⟨F', As', st'⟩ H' → CfOk K G ⟨F', As', st'⟩ H' → Slots K G H0 ⟨F', As', st'⟩ H' ρ' σ' → ErrAt K G ⟨F', As', st'⟩ H' e cls dx → W cls dx σ' H'
  | .no => False
def tS (RP : RPT) (W : WX) (m : SM) : TS := fun D σ H => ∃ c0 H0 ρ c, Ext c0 H0 c H ∧ CfOk K G c H ∧ Slots K G H0 c H ρ σ ∧ SPost K G RP W c0 H0 (m ρ c.st) D
end
abbrev VS (G : ClsAt) (X : Cx) (W : WX) (RP : RPT) (s : Stmt) (m : SM) : Prop := PS X s (tS X.K G RP W m)
abbrev VSs (G : ClsAt) (X : Cx) (W : WX) (RP : RPT) (s : List Stmt) (m : SM) : Prop := PSs X s (tS X.K G RP W m)
section
variable {X : Cx} {G : ClsAt} {W : WX} {RP : RPT} {T : NT}
theorem vss_nil : VSs G X W RP [] sNil := PSs.imp pss_nil fun D σ H ⟨c0, H0, ρ, c, x, o, sl, p⟩ => p σ c.F c.As H x o sl
theorem vss_cons {s : Stmt} {r : List Stmt} {a b : SM} (h1 : VS G X W RP s a) (h2 : VSs G X W RP r b) : VSs G X W RP (s :: r) (sSeq a b) := PSs.imp (pss_cons h1 h2) fun D σ H ⟨c0, H0, ρ, c, x, o, sl, p⟩ => by
  refine ⟨c0, H0, ρ, c, x, o, sl, ?_⟩
  unfold sSeq at p
  cases e : a ρ c.st with
  | nx ρ' s' => rw [e] at p; exact fun σ' F' As' H' x' o' sl' => ⟨c0, H0, ρ', _, x', o', sl', p⟩
  | rt d s' => rw [e] at p; exact p
  | bk ρ' s' => rw [e] at p; exact p
  | ct ρ' s' => rw [e] at p; exact p
  | err e' ρ' s' => rw [e] at p; exact p
  | no => rw [e] at p; exact p
theorem vss_one {s : Stmt} {a : SM} (h1 : VS G X W RP s a) : VSs G X W RP [s] a := pss_one h1
theorem vs_pass {pos : Pos} : VS G X W RP (.Pass pos) sNil := PS.imp ps_pass fun D σ H ⟨c0, H0, ρ, c, x, o, sl, p⟩ => p σ c.F c.As H x o sl
theorem vs_break {pos : Pos} : VS G X W RP (.Break pos) (fun ρ s => .bk ρ s) := PS.imp ps_break fun D σ H ⟨c0, H0, ρ, c, x, o, sl, p⟩ => p σ c.F c.As H x o sl
theorem vs_continue {pos : Pos} : VS G X W RP (.Continue pos) (fun ρ s => .ct ρ s) := PS.imp ps_continue fun D σ H ⟨c0, H0, ρ, c, x, o, sl, p⟩ => p σ c.F c.As H x o sl

/-- a value first, then what the statement does with it -/
theorem s_step {α β : Type} {K : PySem.W.Frag} {P : Cf → Hp → α → β → Prop} {c0 c : Cf} {H0 H : Hp} {ρ : Env} {σ : L2.St} {f : M α} {k : α → Stt → SR} {D : Ends} (x : Ext c0 H0 c H) (sl : Slots K G H0 c H ρ σ)
    (p : SPost K G RP W c0 H0 (sB f ρ k c.st) D) {R : β → Hp → Prop} (next : ∀ a v c' H', Ext c H c' H' → Ext c0 H0 c' H' → CfOk K G c' H' → Slots K G H0 c' H' ρ σ → P c' H' a v → SPost K G RP W c0 H0 (k a c'.st) D → R v H') :
    Post K G P (fun cls dx H' => W cls dx σ H') c H (f c.st) R := by
  unfold sB at p
  cases e : f c.st with
  | no => rw [e] at p; exact p
  | err e' s' =>
    rw [e] at p
    exact fun F' As' H' cls dx x' o' z => p σ F' As' H' cls dx (x.trans x') o' (sl.ext x') z
  | ok a s' =>
    rw [e] at p
    exact fun v F' As' H' x' o' q => next a v _ H' x' (x.trans x') o' (sl.ext x') q p
def sRet (f : Env → M D) : SM := fun ρ s => sB (f ρ) ρ (fun d s' => .rt d s') s
theorem vs_ret {e : Expr} {f : Env → M D} {pos : Pos} (h : VE G X W e f) : VS G X W (rDen X.K G) (.Return (some e) pos) (sRet f) := PS.imp (ps_ret h) fun D σ H ⟨c0, H0, ρ, c, x, o, sl, p⟩ =>
  ⟨H0, ρ, c, o, sl, s_step x sl p fun d v c' H' _ x' o' sl' q p' => p' v c'.F c'.As H' x' o' q⟩
theorem vs_retN {pos : Pos} : VS G X W (rDen X.K G) (.Return none pos) (fun _ s => .rt .non s) := PS.imp ps_retN fun D σ H ⟨c0, H0, ρ, c, x, o, sl, p⟩ => p .non c.F c.As H x o .non
theorem POwn.entry {K : PySem.W.Frag} {c0 c c' : Cf} {H0 H H' : Hp} {d : D} {v : V} (x : Ext c0 H0 c H) (p : POwn K G H c' H' d v) : POwn K G H0 c' H' d v := let ⟨a, e1, e2, e3⟩ := p; ⟨a, e1, x.none e2, e3⟩
/-- a new object is handed back as one's own -/
theorem vs_retO {e : Expr} {f : Env → M D} {pos : Pos} (h : VN G X W e f) : VS G X W (rOwn X.K G) (.Return (some e) pos) (sRet f) := PS.imp (ps_ret h) fun D σ H ⟨c0, H0, ρ, c, x, o, sl, p⟩ =>
  ⟨H0, ρ, c, o, sl, s_step x sl p fun d v c' H' _ x' o' sl' q p' => p' v c'.F c'.As H' x' o' (POwn.entry x q)⟩
def sDrop {α : Type} (f : Env → M α) : SM := fun ρ s => sB (f ρ) ρ (fun _ s' => .nx ρ s') s
theorem vs_expr {e : Expr} {f : Env → M D} {pos : Pos} (h : VR G X W e f) (hs : swapsWith e none pos.line X.env = pure false := by rfl) : VS G X W RP (.Expr e pos) (sDrop f) := PS.imp (ps_expr h hs) fun D σ H ⟨c0, H0, ρ, c, x, o, sl, p⟩ =>
  ⟨H0, ρ, c, o, sl, s_step x sl p fun d v c' H' _ x' o' sl' q p' => p' σ c'.F c'.As H' x' o' sl'⟩
theorem vs_doc {x : Str} {j : Nat} {pos pos' : Pos} : VS G X W RP (.Expr (.Constant (.str x) j pos) pos') sNil := PS.imp ps_doc fun D σ H ⟨c0, H0, ρ, c, x, o, sl, p⟩ => p σ c.F c.As H x o sl
def sIf (t : Env → M Bool) (a b : SM) : SM := fun ρ s => sB (t ρ) ρ (fun k s' => if k then a ρ s' else b ρ s') s
theorem vs_if {t : Expr} {as bs : List Stmt} {f : Env → M Bool} {a b : SM} {pos : Pos} (ht : VT G X W t f) (ha : VSs G X W RP as a) (hb : VSs G X W RP bs b) : VS G X W RP (.If t as bs pos) (sIf f a b) := PS.imp (ps_if ht ha hb) fun D σ H ⟨c0, H0, ρ, c, x, o, sl, p⟩ =>
  ⟨H0, ρ, c, o, sl, s_step x sl p fun d v c' H' _ x' o' sl' q p' => by
    cases (show d = v from q)
    cases d with
    | true => exact iteT ⟨c0, H0, ρ, c', x', o', sl', p'⟩
    | false => exact iteF ⟨c0, H0, ρ, c', x', o', sl', p'⟩⟩

/-! slots stored -/
theorem get_set {α : Type} {l : List α} {i j : Nat} {a b : α} (h : (l.set i a)[j]? = some b) : (j = i ∧ b = a ∧ i < l.length) ∨ (j ≠ i ∧ l[j]? = some b) := by
  by_cases e : i = j
  · subst e
    by_cases hl : i < l.length
    · rw [List.getElem?_set_self hl] at h; cases h; exact .inl ⟨rfl, rfl, hl⟩
    · rw [List.getElem?_eq_none (by simpa using hl)] at h; cases h
  · rw [List.getElem?_set_ne e] at h; exact .inr ⟨fun z => e z.symm, h⟩
theorem Slots.val {K : PySem.W.Frag} {H0 H : Hp} {c : Cf} {ρ : Env} {σ : L2.St} (sl : Slots K G H0 c H ρ σ) (i : Nat) {d : D} {v : V} (h : Den K G c.As c.F d v) : Slots K G H0 c H (ρ.set i (.val d)) (σ.set i (some v)) where
  len := by simpa using sl.len
  ok := fun j s o e1 e2 => by
    rcases get_set e1 with ⟨rfl, rfl, h1⟩ | ⟨h1, e1⟩
    · rw [List.getElem?_set_self (by rw [← sl.len]; exact h1)] at e2; cases e2; exact ⟨v, rfl, h⟩
    · rcases get_set e2 with ⟨h2, _⟩ | ⟨_, e2⟩
      · exact absurd h2 h1
      · exact sl.ok j s o e1 e2
  sep := fun j l d d' a e1 e2 e3 e4 => by
    rcases get_set e1 with ⟨_, z, _⟩ | ⟨h1, e1⟩
    · cases z
    · rcases get_set e2 with ⟨_, z, _⟩ | ⟨h2, e2⟩
      · cases z
      · rcases get_set e3 with ⟨z, _⟩ | ⟨_, e3⟩
        · exact absurd z h1
        · rcases get_set e4 with ⟨z, _⟩ | ⟨_, e4⟩
          · exact absurd z h2
          · exact sl.sep j l d d' a e1 e2 e3 e4
  mine := fun j d a e1 e2 => by
    rcases get_set e1 with ⟨_, z, _⟩ | ⟨h1, e1⟩
    · cases z
    · rcases get_set e2 with ⟨z, _⟩ | ⟨_, e2⟩
      · exact absurd z h1
      · exact sl.mine j d a e1 e2
/-- Hb: the heap before the object came -/
theorem Slots.own {K : PySem.W.Frag} {H0 Hb H : Hp} {cb c : Cf} {ρ : Env} {σ : L2.St} (sb : Slots K G H0 cb Hb ρ σ) (sl : Slots K G H0 c H ρ σ) (i : Nat) {d : D} {v : V} (h : POwn K G Hb c H d v) (h0 : ∀ a, Hb a = none → H0 a = none) : Slots K G H0 c H (ρ.set i (.own d)) (σ.set i (some v)) := by
  obtain ⟨p, rfl, hn, na, f, w⟩ := h
  have new : ∀ (j : Nat) (d : D) (a : Addr), ρ[j]? = some (.own d) → σ[j]? = some (some (.ref a)) → a ≠ p := fun j d a e1 e2 z => by
    obtain ⟨a', e, _, _, w'⟩ := sb.ok j _ _ e1 e2
    cases e
    obtain ⟨u, hu⟩ := w'.some
    rw [z, hn] at hu; cases hu
  exact {
    len := by simpa using sl.len
    ok := fun j s o e1 e2 => by
      rcases get_set e1 with ⟨rfl, rfl, h1⟩ | ⟨h1, e1⟩
      · rw [List.getElem?_set_self (by rw [← sl.len]; exact h1)] at e2; cases e2; exact ⟨p, rfl, f, na, w⟩
      · rcases get_set e2 with ⟨h2, _⟩ | ⟨_, e2⟩
        · exact absurd h2 h1
        · exact sl.ok j s o e1 e2
    sep := fun j l d d' a e1 e2 e3 e4 => by
      rcases get_set e1 with ⟨h1, z, _⟩ | ⟨h1, e1⟩
      · rcases get_set e2 with ⟨h2, _, _⟩ | ⟨h2, e2⟩
        · rw [h1, h2]
        · rcases get_set e3 with ⟨_, z3, _⟩ | ⟨z3, _⟩
          · cases z3
            rcases get_set e4 with ⟨z4, _⟩ | ⟨_, e4⟩
            · exact absurd z4 h2
            · exact absurd rfl (new l d' p e2 e4)
          · exact absurd h1 z3
      · rcases get_set e3 with ⟨z3, _⟩ | ⟨_, e3⟩
        · exact absurd z3 h1
        · rcases get_set e2 with ⟨h2, _, _⟩ | ⟨h2, e2⟩
          · rcases get_set e4 with ⟨_, z4, _⟩ | ⟨z4, _⟩
            · cases z4; exact absurd rfl (new j d p e1 e3)
            · exact absurd h2 z4
          · rcases get_set e4 with ⟨z, _⟩ | ⟨_, e4⟩
            · exact absurd z h2
            · exact sl.sep j l d d' a e1 e2 e3 e4
    mine := fun j d a e1 e2 => by
      rcases get_set e1 with ⟨h1, z, _⟩ | ⟨h1, e1⟩
      · rcases get_set e2 with ⟨_, z2, _⟩ | ⟨z2, _⟩
        · cases z2; exact h0 _ hn
        · exact absurd h1 z2
      · rcases get_set e2 with ⟨z, _⟩ | ⟨_, e2⟩
        · exact absurd z h1
        · exact sl.mine j d a e1 e2 }
def sSet (i : Nat) (f : Env → M D) : SM := fun ρ s => sB (f ρ) ρ (fun d s' => .nx (ρ.set i (.val d)) s') s
def sSetO (i : Nat) (f : Env → M D) : SM := fun ρ s => sB (f ρ) ρ (fun d s' => .nx (ρ.set i (.own d)) s') s
section
variable {x : Str} {k : NameKind} {i : Nat}
theorem vs_set {e : Expr} {f : Env → M D} {pos pos' : Pos} (on : On X T) (j : Nat) (he : VE G X W e f) (h : T[j]? = some (x, k, i) := by rfl) (hk : k = .local ∨ k = .cell := by first | exact .inl rfl | exact .inr rfl) (hf : X.fn x = true ∨ k = .local := by first | exact .inr rfl | assumption) (hs : swapsWith e (some (.Name x pos')) pos.line X.env = pure false := by rfl) :
    VS G X W RP (.Assign [.Name x pos'] e pos) (sSet i f) :=
  PS.imp (ps_set on.nd (on.at h (by rcases hk with rfl | rfl <;> rfl)) (on.loc h hk) he hs (hf.elim .inl fun z => .inr (by rw [on.kind h, z]))) fun D σ H ⟨c0, H0, ρ, c, x, o, sl, p⟩ =>
    ⟨H0, ρ, c, o, sl, s_step x sl p fun d v c' H' _ x' o' sl' q p' => p' _ c'.F c'.As H' x' o' (sl'.val i q)⟩
theorem vs_setO {e : Expr} {f : Env → M D} {pos pos' : Pos} (on : On X T) (j : Nat) (he : VN G X W e f) (h : T[j]? = some (x, k, i) := by rfl) (hk : k = .local ∨ k = .cell := by first | exact .inl rfl | exact .inr rfl) (hf : X.fn x = true ∨ k = .local := by first | exact .inr rfl | assumption) (hs : swapsWith e (some (.Name x pos')) pos.line X.env = pure false := by rfl) :
    VS G X W RP (.Assign [.Name x pos'] e pos) (sSetO i f) :=
  PS.imp (ps_set on.nd (on.at h (by rcases hk with rfl | rfl <;> rfl)) (on.loc h hk) he hs (hf.elim .inl fun z => .inr (by rw [on.kind h, z]))) fun D σ H ⟨c0, H0, ρ, c, x, o, sl, p⟩ =>
    ⟨H0, ρ, c, o, sl, s_step x sl p fun d v c' H' _ x' o' sl' q p' => p' _ c'.F c'.As H' x' o' (Slots.own sl sl' i q fun a => x.none)⟩
end
end
end PV
end

section
namespace PV
open PySem PySem.Spec L2
open PyProof.Rows hiding St

/-! defs -/
/-- the promise: m of the arguments -/
def spPV (K : PySem.W.Frag) (G : ClsAt) (RP : RPT) (n : Nat) (m : List D → M D) : Sp := fun vs H Q E => vs.length = n ∧ ∃ c ds, CfOk K G c H ∧ DenL K G c.As c.F ds vs ∧ Post K G (RP H) E c H (m ds c.st) Q
/-- the mirror of a def's body: N slots -/
def runM (N : Nat) (m : SM) (ds : List D) : M D := fun s => match m (ds.map .val ++ List.replicate (N - ds.length) .no) s with
  | .nx _ s' => .ok .non s'
  | .rt d s' => .ok d s'
  | .err e _ s' => .err e s'
  | _ => .no
/-- .. whose end is always a return -/
def runO (N : Nat) (m : SM) (ds : List D) : M D := fun s => match m (ds.map .val ++ List.replicate (N - ds.length) .no) s with
  | .rt d s' => .ok d s'
  | .err e _ s' => .err e s'
  | _ => .no
abbrev WE0 (E : XK) : WX := fun cls d _ H => E cls d H
section
variable {P : Program} {w : World} {K : PySem.W.Frag} {mg : Str → Option Value} {base : Heap} {G : ClsAt}
theorem slots_start {c : Cf} {H : Hp} {N : Nat} {Ns : List Str} {ds : List D} {vs : List V} (hN : Ns.length = N) (l : DenL K G c.As c.F ds vs) : Slots K G H c H (ds.map .val ++ List.replicate (N - ds.length) .no) (L2.start Ns vs) := by
  have hl := l.length
  have noown : ∀ (i : Nat) (d : D), (ds.map Slot.val ++ List.replicate (N - ds.length) Slot.no)[i]? ≠ some (.own d) := fun i d e => by
    have hm := List.mem_of_getElem? e
    rcases List.mem_append.mp hm with h | h
    · obtain ⟨_, _, q⟩ := List.mem_map.mp h; cases q
    · have := List.eq_of_mem_replicate h; cases this
  refine ⟨?_, fun i s o e1 e2 => ?_, fun i j d d' a e1 => absurd e1 (noown i d), fun i d a e1 => absurd e1 (noown i d)⟩
  · unfold L2.start
    simp only [List.length_append, List.length_map, List.length_replicate, hl, hN]
  · by_cases hi : i < ds.length
    · rw [List.getElem?_append_left (by simpa using hi), List.getElem?_map] at e1
      unfold L2.start at e2
      rw [List.getElem?_append_left (by simpa [← hl] using hi), List.getElem?_map] at e2
      obtain ⟨v, q1, q2⟩ := Option.map_eq_some_iff.mp e2
      obtain ⟨d, q3, q4⟩ := l.get q1
      rw [q3] at e1
      cases e1
      exact ⟨v, q2.symm, q4⟩
    · rw [List.getElem?_append_right (by simpa using hi)] at e1
      have := List.eq_of_mem_replicate (List.mem_of_getElem? e1)
      subst this
      trivial
/-- a def's body, from its parts -/
theorem fn_body {RP : RPT} {Ns ps : List Str} {N k : Nat} {f : Addr} {fd : FuncData} {m : SM} {mm : List D → M D} {qual : Str} {body : List Stmt} {scope : Scope}
    (ok : ∀ {sp : Sp}, (∀ vs H Q E, sp vs H Q E → vs.length = ps.length) → (∀ (cdv : Value) (A : Around) (outer : List PySem.Env) (s : Shared) (H : Hp) (vs : List V) (Q : VK) (E : XK), Room k (A.deeper (envOfC qual scope s.heap.objs.size f cdv)) → sp vs H Q E →
      ∃ t, PSs (cxOf (L2.CX P w) P w K mg base Ns qual scope f cdv A outer s H E) body t ∧ t { nx := fun _ H' => Q .non H', rt := Q } (L2.start Ns vs) H) → FnOk P w K mg base (L2.CX P w) (k + 1) f fd ps sp)
    (hN : Ns.length = N)
    (hm : ∀ ds s, (match mm ds s with
      | .ok d s' => m (ds.map .val ++ List.replicate (N - ds.length) .no) s = .rt d s' ∨ ((∃ ρ, m (ds.map .val ++ List.replicate (N - ds.length) .no) s = .nx ρ s') ∧ d = .non ∧ ∀ H0 c H, RP H0 c H .non .non)
      | .err e s' => ∃ ρ, m (ds.map .val ++ List.replicate (N - ds.length) .no) s = .err e ρ s'
      | .no => True))
    (hb : ∀ (X : Cx) (E : XK), X.prog = P → X.w = w → X.K = K → X.mg = mg → X.base = base → X.calm = true → X.N = Ns → X.env.scope = scope → (∀ x, X.fn x = true) → Room k X.A → Takes X (WE0 E) → (X.stack = X.env :: X.outer ∧ X.env.frame = some X.env.locals) → PassesOwn (model X.prog X.w) X.A X.env X.xe → VSs G X (WE0 E) RP body m) :
    FnOk P w K mg base (L2.CX P w) (k + 1) f fd ps (spPV K G RP ps.length mm) := by
  refine ok (fun vs H Q E h => h.1) fun cdv A outer s H vs Q E hr h => ?_
  obtain ⟨hl, c, ds, o, l, p⟩ := h
  refine ⟨_, hb (cxOf (L2.CX P w) P w K mg base Ns qual scope f cdv A outer s H E) E rfl rfl rfl rfl rfl rfl rfl rfl (fun _ => rfl) hr (takes_of rfl rfl rfl rfl) ⟨rfl, rfl⟩ PassesOwn.leaving, ?_⟩
  refine ⟨c, H, _, c, Ext.refl c H, o, slots_start hN l, ?_⟩
  have q := hm ds c.st
  cases e : mm ds c.st with
  | no => rw [e] at p; exact p.elim
  | err e' s' =>
    rw [e] at p q
    obtain ⟨ρ, q⟩ := q
    rw [q]
    exact fun σ' F' As' H' cls dx x o _ z => p F' As' H' cls dx x o z
  | ok d s' =>
    rw [e] at p q
    rcases q with q | ⟨⟨ρ, q⟩, rfl, z⟩
    · rw [q]; exact fun v F' As' H' x o r => p v F' As' H' x o r
    · rw [q]; exact fun σ' F' As' H' x o _ => p .non F' As' H' x o (z _ _ _)
theorem hm_run {N : Nat} {m : SM} : ∀ ds s, (match runM N m ds s with
      | .ok d s' => m (ds.map .val ++ List.replicate (N - ds.length) .no) s = .rt d s' ∨ ((∃ ρ, m (ds.map .val ++ List.replicate (N - ds.length) .no) s = .nx ρ s') ∧ d = .non ∧ ∀ H0 c H, rDen K G H0 c H .non .non)
      | .err e s' => ∃ ρ, m (ds.map .val ++ List.replicate (N - ds.length) .no) s = .err e ρ s'
      | .no => True) := fun ds s => by
  unfold runM
  cases m (ds.map .val ++ List.replicate (N - ds.length) .no) s with
  | nx ρ s' => exact .inr ⟨⟨ρ, rfl⟩, rfl, fun _ _ _ => .non⟩
  | rt d s' => exact .inl rfl
  | err e ρ s' => exact ⟨ρ, rfl⟩
  | _ => trivial
theorem hm_runO {RP : RPT} {N : Nat} {m : SM} : ∀ ds s, (match runO N m ds s with
      | .ok d s' => m (ds.map .val ++ List.replicate (N - ds.length) .no) s = .rt d s' ∨ ((∃ ρ, m (ds.map .val ++ List.replicate (N - ds.length) .no) s = .nx ρ s') ∧ d = .non ∧ ∀ H0 c H, RP H0 c H .non .non)
      | .err e s' => ∃ ρ, m (ds.map .val ++ List.replicate (N - ds.length) .no) s = .err e ρ s'
      | .no => True) := fun ds s => by
  unfold runO
  cases m (ds.map .val ++ List.replicate (N - ds.length) .no) s with
  | rt d s' => exact .inl rfl
  | err e ρ s' => exact ⟨ρ, rfl⟩
  | _ => trivial
end

/-! calls -/
/-- how a call of n values and of keywords ks binds: the parameters' values -/
def Bnd (K : PySem.W.Frag) (G : ClsAt) (fd : FuncData) (ps : List Str) (n : Nat) (ks : List Str) (gD : List D → List D → List D) : Prop :=
  ∃ g gV, KBn K fd ps n ks g gV ∧ ∀ {As : List Addr} {F : Hp} {ds dk : List D} {vs zs : List V}, ds.length = n → dk.length = ks.length → DenL K G As F ds vs → DenL K G As F dk zs → DenL K G As F (gD ds dk) (gV vs zs)
abbrev Form := Nat × List Str × (List D → List D → List D)
/-- a def that may be called -/
structure Cal (P : Program) (w : World) (K : PySem.W.Frag) (mg : Str → Option Value) (base : Heap) (G : ClsAt) (k np : Nat) (x : Str) (RP : RPT) (fs : List Form) (m : List D → M D) : Prop where
  ex : ∃ f fd ps, ps.length = np ∧ FnOk P w K mg base (L2.CX P w) k f fd ps (spPV K G RP ps.length m) ∧ mg x = some (.ref f) ∧ PySem.W.keepIn K (.ref f) = true ∧ ∀ e ∈ fs, Bnd K G fd ps e.1 e.2.1 e.2.2
section
variable {X : Cx} {G : ClsAt} {W : WX}
/-- keywords, from the left -/
abbrev VK2 (G : ClsAt) (X : Cx) (W : WX) (es : List Keyword) (f : Env → M (List D)) : Prop := PK X es (tL X.K G W f)
theorem PK.imp {e : List Keyword} {t t' : TA} (h : PK X e t) (i : ∀ σ H Q, t' σ H Q → t σ H Q) : PK X e t' := ⟨fun pos pins s σ H Q I q => h.run pos pins s σ H Q I (i σ H Q q)⟩
theorem vk_nil : VK2 G X W [] (fun _ => pure []) := PK.imp pk_nil fun σ H Q ⟨H0, ρ, c, o, sl, p⟩ => p.here o (fun _ _ h => h) .nil
theorem vk_cons {e : Expr} {es : List Keyword} {nm : Option Str} {kpos : Pos} {f : Env → M D} {g : Env → M (List D)} (he : VE G X W e f) (hs : VK2 G X W es g) : VK2 G X W (⟨nm, e, kpos⟩ :: es) (fun ρ => do let x ← f ρ; let xs ← g ρ; pure (x :: xs)) :=
  PK.imp (pk_cons he hs) fun σ H Q ⟨H0, ρ, c, o, sl, p⟩ => tV_step rfl o sl p fun x v c1 H1 x1 o1 sl1 t1 p1 => tL_step rfl o1 sl1 p1 fun xs vs c2 H2 x2 o2 sl2 t2 p2 => p2.here o2 (fun _ _ h => h) (.cons (t1.mono x2.sub x2.pre) t2)

/-- the callee runs, wherever its values lie -/
theorem run_cal {k n : Nat} {f : Addr} {fd : FuncData} {ps ks : List Str} {RP : RPT} {m : List D → M D} {gD : List D → List D → List D} (F : FnOk X.prog X.w X.K X.mg X.base (L2.CX X.prog X.w) k f fd ps (spPV X.K G RP ps.length m)) (B : Bnd X.K G fd ps n ks gD) (hr : Room k X.A) (tk : Takes X W)
    {pins : List (Addr × Obj)} {σ : L2.St} {H : Hp} {s : Shared} {Q : VK} {c : Cf} {ds dk : List D} {us ws : List Value} {vs zs : List V} (I : Inv X pins σ H s) (r : Vals vs us) (rz : Vals zs ws) (o : CfOk X.K G c H) (l : DenL X.K G c.As c.F ds vs) (lk : DenL X.K G c.As c.F dk zs) (h1 : ds.length = n) (h2 : dk.length = ks.length)
    (p : Post X.K G (RP H) (fun cls dx H' => W cls dx σ H') c H (m (gD ds dk) c.st) Q) (hl : (gD ds dk).length = ps.length) : wpAny (model X.prog X.w) X.A (call (.ref f) us (ks.zip ws)) (EP X pins σ Q) X.xe s := by
  obtain ⟨g, gV, kb, hd⟩ := B
  have lg := hd h1 h2 l lk
  have rg := kb.rel r rz
  have e1 : us.length = n := by rw [← r.length, ← l.length]; exact h1
  have e2 : ws.length = ks.length := by rw [← rz.length, ← lk.length]; exact h2
  refine wpAny_call (codeAny_mono (F.run X.A X.stack s H ⟨us, ks.zip ws⟩ (g us ws) (gV vs zs) Q (WE W σ) hr I.env0 (kb.to s us ws I.kIn e1 e2) rg ⟨by rw [← lg.length]; exact hl, c, _, o, lg, p⟩) fun r s' hq => ?_)
  cases r with
  | error e => exact passAt tk σ pins H s e s' I hq
  | ok fl =>
    cases fl with
    | ret u => exact I.after hq
    | next => exact False.elim hq
    | brk => exact False.elim hq
    | cont => exact False.elim hq
/-- the values are of the right number -/
def chk (n : Nat) (ds : List D) : M (List D) := if ds.length = n then pure ds else no
/-- f(e, .., k = v, ..) -/
def tCalE (K : PySem.W.Frag) (G : ClsAt) (W : WX) (RP : RPT) (n n2 : Nat) (np : Nat) (gD : List D → List D → List D) (m : List D → M D) (σ : L2.St) (vs zs : List V) (H2 : Hp) (Q : VK) : Prop :=
  ∃ c ds dk, CfOk K G c H2 ∧ DenL K G c.As c.F ds vs ∧ DenL K G c.As c.F dk zs ∧ ds.length = n ∧ dk.length = n2 ∧ (gD ds dk).length = np ∧ Post K G (RP H2) (fun cls dx H' => W cls dx σ H') c H2 (m (gD ds dk) c.st) Q
def tCalK (K : PySem.W.Frag) (G : ClsAt) (W : WX) (RP : RPT) (n n2 : Nat) (np : Nat) (gD : List D → List D → List D) (m : List D → M D) (ta tk : TA) : TE := fun σ H Q => ta σ H fun vs H1 => tk σ H1 fun zs H2 => tCalE K G W RP n n2 np gD m σ vs zs H2 Q
theorem pe_cal {k n : Nat} {f : Addr} {fd : FuncData} {ps ks : List Str} {RP : RPT} {m : List D → M D} {gD : List D → List D → List D} {x : Str} {e : Expr} {es : List Expr} {kws : List Keyword} {ta tkk : TA} {p pos : Pos} (F : FnOk X.prog X.w X.K X.mg X.base (L2.CX X.prog X.w) k f fd ps (spPV X.K G RP ps.length m)) (B : Bnd X.K G fd ps n ks gD) (hr : Room k X.A) (tk : Takes X W)
    (hg : Gl X x) (hm : X.mg x = some (.ref f)) (hk : PySem.W.keepIn X.K (.ref f) = true) (ha : PA X (e :: es) ta) (hkw : PK X kws tkk) (hdb : (x == ("__debug__" : Str)) = false)
    (he : starEach (e :: es) X.env = (false, eval e X.env) :: starEach es X.env) (hall : (backToKw pos (keywordEach kws X.env)).all (·.1.isSome) = true) (hks : (backToKw pos (keywordEach kws X.env)).filterMap (·.1) = ks)
    (hpl : ((backTo pos (starEach (e :: es) X.env)).any (·.1) || (backToKw pos (keywordEach kws X.env)).any (·.1.isNone)) = false) :
    PE X (.Call (.Name x p) (e :: es) kws pos) (tCalK X.K G W RP n ks.length ps.length gD m ta tkk) := by
  refine ⟨fun pins s σ H Q I h => ?_⟩
  refine wpAny_Call_Name_kw (ld_glob I hg hm ?_ hdb)
  refine PySem.W.callWith_KW (h₀ := X.base) I.ok.mod.kin hk hall (thn (ha.run pos pins s σ H _ I h) fun us s1 ⟨vs, H1, I1, r, q⟩ => ?_) hpl he
  refine thn (hkw.run pos pins s1 σ H1 _ I1 q) fun ws s2 ⟨zs, H2, I2, rz, c, ds, dk, o, l, lk, h1, h2, hl, p⟩ => ⟨I2.kIn, ?_⟩
  rw [hks]
  exact run_cal F B hr tk I2 r rz o l lk h1 h2 p hl
theorem pe_cal0 {k n : Nat} {f : Addr} {fd : FuncData} {ps ks : List Str} {RP : RPT} {m : List D → M D} {gD : List D → List D → List D} {x : Str} {kws : List Keyword} {tkk : TA} {p pos : Pos} (F : FnOk X.prog X.w X.K X.mg X.base (L2.CX X.prog X.w) k f fd ps (spPV X.K G RP ps.length m)) (B : Bnd X.K G fd ps n ks gD) (hr : Room k X.A) (tk : Takes X W)
    (hg : Gl X x) (hm : X.mg x = some (.ref f)) (hk : PySem.W.keepIn X.K (.ref f) = true) (hkw : PK X kws tkk) (hdb : (x == ("__debug__" : Str)) = false)
    (hall : (backToKw pos (keywordEach kws X.env)).all (·.1.isSome) = true) (hks : (backToKw pos (keywordEach kws X.env)).filterMap (·.1) = ks)
    (hpl : ((backTo pos (starEach ([] : List Expr) X.env)).any (·.1) || (backToKw pos (keywordEach kws X.env)).any (·.1.isNone)) = false) :
    PE X (.Call (.Name x p) [] kws pos) (fun σ H Q => tkk σ H fun zs H2 => tCalE X.K G W RP n ks.length ps.length gD m σ [] zs H2 Q) := by
  refine ⟨fun pins s σ H Q I h => ?_⟩
  refine wpAny_Call_Name_kw (ld_glob I hg hm ?_ hdb)
  refine PySem.W.callWith_KW0 (h₀ := X.base) I.ok.mod.kin hk hall ?_ hpl
  refine thn (hkw.run pos pins s σ H _ I h) fun ws s2 ⟨zs, H2, I2, rz, c, ds, dk, o, l, lk, h1, h2, hl, p⟩ => ⟨I2.kIn, ?_⟩
  rw [hks]
  exact run_cal F B hr tk I2 .nil rz o l lk h1 h2 p hl
section
variable {P : Program} {w : World} {K : PySem.W.Frag} {mg : Str → Option Value} {base : Heap}
/-- X runs within this program -/
structure In (X : Cx) (P : Program) (w : World) (K : PySem.W.Frag) (mg : Str → Option Value) (base : Heap) : Prop where
  p : X.prog = P
  w : X.w = w
  K : X.K = K
  mg : X.mg = mg
  b : X.base = base
variable {T : NT} {x : Str} {i k n : Nat} {RP : RPT} {fs : List Form} {m : List D → M D} {ks : List Str} {gD : List D → List D → List D} {tj : Nat}
end
end
end PV
end

section
namespace PV
open PySem PySem.Spec L2
open PyProof.Rows hiding St

/-! anchors -/
theorem Ext.anchor {c0 c1 : Cf} {H0 H1 : Hp} (x : Ext c0 H0 c1 H1) : Ext c1 H0 c1 H1 where
  keep := fun a o h n => by
    by_cases z : a ∈ c0.As
    · exact absurd (x.pre.subset z) n
    · exact x.keep a o h z
  there := x.there
  sub := Sub.refl _
  new := fun _ _ h => .inl h
  pre := List.prefix_rfl
  anew := fun _ h => .inl h
theorem Ext.back {c0 c1 c' : Cf} {H0 H1 H' : Hp} (x : Ext c0 H0 c1 H1) (y : Ext c1 H0 c' H') : Ext c0 H0 c' H' where
  keep := fun a o h n => by
    refine y.keep a o h fun z => ?_
    rcases x.anew a z with z | z
    · exact n z
    · rw [h] at z; cases z
  there := y.there
  sub := Sub.trans x.sub y.sub
  new := fun a o h => (y.new a o h).elim (x.new a o) .inr
  pre := x.pre.trans y.pre
  anew := fun a h => (y.anew a h).elim (x.anew a) .inr

/-! what a loop walks -/
structure ItOk (K : PySem.W.Frag) (G : ClsAt) (c1 : Cf) (Gd : Hp → Prop) (ds : List D) (J : It) : Prop where
  go : ∀ c H i, Sub c1.F c.F → c1.As <+: c.As → CfOk K G c H → Gd H → i < ds.length → J.go i H
  stop : ∀ c H, Sub c1.F c.F → c1.As <+: c.As → CfOk K G c H → Gd H → J.stop ds.length H
  yld : ∀ c H i x H' d, Sub c1.F c.F → c1.As <+: c.As → CfOk K G c H → Gd H → ds[i]? = some d → J.yld i H x H' → ∃ F', Ext c H ⟨F', c.As, c.st⟩ H' ∧ CfOk K G ⟨F', c.As, c.st⟩ H' ∧ Den K G c.As F' d x
/-- the walk may lean on a shared dict that is locked -/
abbrev PIt (K : PySem.W.Frag) (G : ClsAt) : Cf → Hp → List D → It → Prop := fun c H ds J => ItOk K G c (fun _ => True) ds J ∨ ∃ d od ws, c.F d = some (.dK ws) ∧ H d = some (.frz od (.dK ws)) ∧ ItOk K G c (fun H => H d = some (.frz od (.dK ws))) ds J
def tI (K : PySem.W.Frag) (G : ClsAt) (W : WX) (f : Env → M (List D)) : TI := fun σ H Q => ∃ H0 ρ c, CfOk K G c H ∧ Slots K G H0 c H ρ σ ∧ Post K G (PIt K G) (fun cls dx H' => W cls dx σ H') c H (f ρ c.st) Q
abbrev VI (G : ClsAt) (X : Cx) (W : WX) (tg e : Expr) (f : Env → M (List D)) : Prop := PI X tg e (tI X.K G W f)
theorem PI.imp {X : Cx} {tg e : Expr} {t t' : TI} (h : PI X tg e t) (i : ∀ σ H Q, t' σ H Q → t σ H Q) : PI X tg e t' := ⟨fun pins s σ H Q I q => h.run pins s σ H Q I (i σ H Q q)⟩
theorem PI.or {X : Cx} {tg e : Expr} {t t' : TI} (h : PI X tg e t) (h' : PI X tg e t') : PI X tg e (fun σ H Q => t σ H Q ∨ t' σ H Q) := ⟨fun pins s σ H Q I q => q.elim (h.run pins s σ H Q I) (h'.run pins s σ H Q I)⟩
section
variable {K : PySem.W.Frag} {G : ClsAt}
theorem it_list {c1 : Cf} {a : Addr} {xs : List D} (h : Den K G c1.As c1.F (.lst xs) (.ref a)) : ItOk K G c1 (fun _ => True) xs (Itl K a) := by
  cases h with
  | lst r l =>
    rename_i vs
    refine ⟨fun c H i s p o _ hi => ?_, fun c H s p o _ => ?_, fun c H i x H' d s p o _ e y => ?_⟩
    · obtain ⟨v, e, _⟩ := l.getD (List.getElem?_eq_getElem hi)
      exact ⟨vs, v, o.le.lst (SqL.sub s r), e⟩
    · exact ⟨vs, o.le.lst (SqL.sub s r), by rw [l.length]; exact Nat.le_refl _⟩
    · obtain ⟨rfl, y⟩ := y
      obtain ⟨v, e', h⟩ := l.getD e
      have := y vs (o.le.lst (SqL.sub s r))
      rw [e'] at this; cases this
      exact ⟨c.F, Ext.refl _ _, o, h.mono s p⟩
theorem it_tup {c1 : Cf} {a : Addr} {xs : List D} (h : Den K G c1.As c1.F (.tup xs) (.ref a)) : ItOk K G c1 (fun _ => True) xs (Itt K a) := by
  cases h with
  | tup r l =>
    rename_i vs
    refine ⟨fun c H i s p o _ hi => ?_, fun c H s p o _ => ?_, fun c H i x H' d s p o _ e y => ?_⟩
    · obtain ⟨v, e, _⟩ := l.getD (List.getElem?_eq_getElem hi)
      exact ⟨vs, v, o.le.tup (SqT.sub s r), e⟩
    · exact ⟨vs, o.le.tup (SqT.sub s r), by rw [l.length]; exact Nat.le_refl _⟩
    · obtain ⟨rfl, y⟩ := y
      obtain ⟨v, e', h⟩ := l.getD e
      have := y vs (o.le.tup (SqT.sub s r))
      rw [e'] at this; cases this
      exact ⟨c.F, Ext.refl _ _, o, h.mono s p⟩
def chrD (z : Str) : List D := z.cps.toList.map fun c => .str ⟨#[c]⟩
theorem it_str {c1 : Cf} {z : Str} : ItOk K G c1 (fun _ => True) (chrD z) (Its z) := by
  have hl : (chrD z).length = z.cps.size := by simp [chrD]
  refine ⟨fun c H i s p o _ hi => by rw [hl] at hi; exact hi, fun c H s p o _ => Nat.le_of_eq hl.symm, fun c H i x H' d s p o _ e y => ?_⟩
  obtain ⟨rfl, ch, e', rfl⟩ := y
  refine ⟨c.F, Ext.refl _ _, o, ?_⟩
  have e2 : (chrD z)[i]? = some (.str ⟨#[ch]⟩) := by
    unfold chrD
    rw [List.getElem?_map]
    have : z.cps.toList[i]? = some ch := by rw [← e']; simp
    rw [this]; rfl
  rw [e2] at e; cases e
  exact .str
def rangeD (lo : Int) (n : Nat) : List D := (List.range n).map fun i => .int (lo + (i : Nat))
theorem it_range {c1 : Cf} {lo : Int} {n : Nat} : ItOk K G c1 (fun _ => True) (rangeD lo n) (Itr lo n) := by
  have hl : (rangeD lo n).length = n := by simp [rangeD]
  refine ⟨fun c H i s p o _ hi => by rw [hl] at hi; exact hi, fun c H s p o _ => Nat.le_of_eq hl.symm, fun c H i x H' d s p o _ e y => ?_⟩
  obtain ⟨rfl, rfl⟩ := y
  refine ⟨c.F, Ext.refl _ _, o, ?_⟩
  have hi : i < n := by rw [← hl]; exact (List.getElem?_eq_some_iff.mp e).1
  have e2 : (rangeD lo n)[i]? = some (.int (lo + (i : Nat))) := by
    unfold rangeD
    rw [List.getElem?_map, List.getElem?_range hi]; rfl
  rw [e2] at e; cases e
  exact .int
/-- a pair just made is shared -/
theorem pair_new {c : Cf} {H : Hp} {T : Addr} {x y : D} {v w : V} (o : CfOk K G c H) (hn : H T = none) (h1 : Den K G c.As c.F x v) (h2 : Den K G c.As c.F y w) :
    ∃ F', Ext c H ⟨F', c.As, c.st⟩ (upd H T (.tup [v, w])) ∧ CfOk K G ⟨F', c.As, c.st⟩ (upd H T (.tup [v, w])) ∧ Den K G c.As F' (.tup [x, y]) (.ref T) := by
  have f : c.F T = none := o.le.none hn
  have g : ∀ a u, H a = some u → upd H T (.tup [v, w]) a = some u := fun a u q => by rw [upd_ne (fun z => by rw [z, hn] at q; cases q)]; exact q
  have nA : T ∉ c.As := fun z => by
    obtain ⟨_, u, q⟩ := o.mem z
    rw [hn] at q; cases q
  have o' := (o.grow g).share (a := T) (u := .tup [v, w]) upd_same nA f
  refine ⟨_, ⟨fun a u q n => .inl (g a u q), fun a u q => ⟨u, g a u q⟩, sub_upd f, fun a u q => ?_, List.prefix_rfl, fun _ h => .inl h⟩, o', .tup (SqT.of upd_same) (.cons (h1.mono (sub_upd f) List.prefix_rfl) (.cons (h2.mono (sub_upd f) List.prefix_rfl) .nil))⟩
  by_cases z : a = T
  · subst z; exact .inr hn
  · have q' : upd c.F T (.tup [v, w]) a = some u := q
    rw [upd_ne z] at q'; exact .inl q'
def enumD (xs : List D) : List D := xs.zipIdx.map fun p => .tup [.int (p.2 : Nat), p.1]
theorem it_enum {c1 : Cf} {a : Addr} {xs : List D} (h : Den K G c1.As c1.F (.lst xs) (.ref a)) : ItOk K G c1 (fun _ => True) (enumD xs) (Ite K a) := by
  have hl : (enumD xs).length = xs.length := by simp [enumD]
  cases h with
  | lst r l =>
    rename_i vs
    refine ⟨fun c H i s p o _ hi => ?_, fun c H s p o _ => ?_, fun c H i x H' d s p o _ e y => ?_⟩
    · rw [hl] at hi
      obtain ⟨v, e, _⟩ := l.getD (List.getElem?_eq_getElem hi)
      exact ⟨vs, v, o.le.lst (SqL.sub s r), e⟩
    · exact ⟨vs, o.le.lst (SqL.sub s r), by rw [hl, l.length]; exact Nat.le_refl _⟩
    · obtain ⟨T, z, rfl, hn, rfl, y⟩ := y
      have hi : i < xs.length := by rw [← hl]; exact (List.getElem?_eq_some_iff.mp e).1
      obtain ⟨v, e', h⟩ := l.getD (List.getElem?_eq_getElem hi)
      have := y vs (o.le.lst (SqL.sub s r))
      rw [e'] at this; cases this
      have e2 : (enumD xs)[i]? = some (.tup [.int (i : Nat), xs[i]]) := by
        unfold enumD
        rw [List.getElem?_map, List.getElem?_zipIdx, List.getElem?_eq_getElem hi]
        simp
      rw [e2] at e; cases e
      exact pair_new o hn .int (h.mono s p)
def zipD (xs ys : List D) : List D := (xs.zip ys).map fun p => .tup [p.1, p.2]
theorem it_zip {c1 : Cf} {a b : Addr} {xs ys : List D} (h : Den K G c1.As c1.F (.lst xs) (.ref a)) (h' : Den K G c1.As c1.F (.lst ys) (.ref b)) : ItOk K G c1 (fun _ => True) (zipD xs ys) (Itz K a b) := by
  have hl : (zipD xs ys).length = min xs.length ys.length := by simp [zipD]
  cases h with
  | lst r l =>
    rename_i vs
    cases h' with
    | lst r' l' =>
      rename_i ws
      refine ⟨fun c H i s p o _ hi => ?_, fun c H s p o _ => ?_, fun c H i x H' d s p o _ e y => ?_⟩
      · rw [hl] at hi
        obtain ⟨v, e, _⟩ := l.getD (List.getElem?_eq_getElem (show i < xs.length by omega))
        obtain ⟨w, e', _⟩ := l'.getD (List.getElem?_eq_getElem (show i < ys.length by omega))
        exact ⟨vs, ws, v, w, o.le.lst (SqL.sub s r), o.le.lst (SqL.sub s r'), e, e'⟩
      · refine ⟨vs, ws, o.le.lst (SqL.sub s r), o.le.lst (SqL.sub s r'), ?_⟩
        rw [hl, ← l.length, ← l'.length]; omega
      · obtain ⟨T, z, z', rfl, hn, rfl, y, y'⟩ := y
        have hi : i < min xs.length ys.length := by rw [← hl]; exact (List.getElem?_eq_some_iff.mp e).1
        have h1 : i < xs.length := by omega
        have h2 : i < ys.length := by omega
        obtain ⟨v, e1, hv⟩ := l.getD (List.getElem?_eq_getElem h1)
        obtain ⟨w, e2, hw⟩ := l'.getD (List.getElem?_eq_getElem h2)
        have t1 := y vs (o.le.lst (SqL.sub s r))
        rw [e1] at t1; cases t1
        have t2 := y' ws (o.le.lst (SqL.sub s r'))
        rw [e2] at t2; cases t2
        have e3 : (zipD xs ys)[i]? = some (.tup [xs[i], ys[i]]) := by
          unfold zipD
          rw [List.getElem?_map, show (xs.zip ys)[i]? = some (xs[i], ys[i]) from List.getElem?_zip_eq_some.mpr ⟨List.getElem?_eq_getElem h1, List.getElem?_eq_getElem h2⟩]
          rfl
        rw [e3] at e; cases e
        exact pair_new o hn (hv.mono s p) (hw.mono s p)
theorem it_zipT {c1 : Cf} {a b : Addr} {xs ys : List D} (h : Den K G c1.As c1.F (.tup xs) (.ref a)) (h' : Den K G c1.As c1.F (.tup ys) (.ref b)) : ItOk K G c1 (fun _ => True) (zipD xs ys) (RZ.ItzT K a b) := by
  have hl : (zipD xs ys).length = min xs.length ys.length := by simp [zipD]
  cases h with
  | tup r l =>
    rename_i vs
    cases h' with
    | tup r' l' =>
      rename_i ws
      refine ⟨fun c H i s p o _ hi => ?_, fun c H s p o _ => ?_, fun c H i x H' d s p o _ e y => ?_⟩
      · rw [hl] at hi
        obtain ⟨v, e, _⟩ := l.getD (List.getElem?_eq_getElem (show i < xs.length by omega))
        obtain ⟨w, e', _⟩ := l'.getD (List.getElem?_eq_getElem (show i < ys.length by omega))
        exact ⟨vs, ws, v, w, o.le.tup (SqT.sub s r), o.le.tup (SqT.sub s r'), e, e'⟩
      · refine ⟨vs, ws, o.le.tup (SqT.sub s r), o.le.tup (SqT.sub s r'), ?_⟩
        rw [hl, ← l.length, ← l'.length]; omega
      · obtain ⟨T, z, z', rfl, hn, rfl, y, y'⟩ := y
        have hi : i < min xs.length ys.length := by rw [← hl]; exact (List.getElem?_eq_some_iff.mp e).1
        have h1 : i < xs.length := by omega
        have h2 : i < ys.length := by omega
        obtain ⟨v, e1, hv⟩ := l.getD (List.getElem?_eq_getElem h1)
        obtain ⟨w, e2, hw⟩ := l'.getD (List.getElem?_eq_getElem h2)
        have t1 := y vs (o.le.tup (SqT.sub s r))
        rw [e1] at t1; cases t1
        have t2 := y' ws (o.le.tup (SqT.sub s r'))
        rw [e2] at t2; cases t2
        have e3 : (zipD xs ys)[i]? = some (.tup [xs[i], ys[i]]) := by
          unfold zipD
          rw [List.getElem?_map, show (xs.zip ys)[i]? = some (xs[i], ys[i]) from List.getElem?_zip_eq_some.mpr ⟨List.getElem?_eq_getElem h1, List.getElem?_eq_getElem h2⟩]
          rfl
        rw [e3] at e; cases e
        exact pair_new o hn (hv.mono s p) (hw.mono s p)
end
/-- what is in it -/
def seqM : D → M (List D)
  | .lst xs => pure xs
  | .tup xs => pure xs
  | .str z => pure (chrD z)
  | .dic ks => pure (keysD ks)
  | _ => no
def dicM : D → M (List D)
  | .dic ks => pure (keysD ks)
  | _ => no
def lstM : D → M (List D)
  | .lst xs => pure xs
  | _ => no
def tupM : D → M (List D)
  | .tup xs => pure xs
  | _ => no
def strM : D → M (List D)
  | .str z => pure (chrD z)
  | _ => no
def orM {α : Type} (a b : M α) : M α := fun s => match a s with
  | .no => b s
  | .ok x s' => .ok x s'
  | .err e s' => .err e s'
theorem orM_no {α : Type} {a b : M α} {s : Stt} (h : a s = .no) : orM a b s = b s := by unfold orM; rw [h]
theorem orM_ok {α : Type} {a b : M α} {s s' : Stt} {x : α} (h : a s = .ok x s') : orM a b s = .ok x s' := by unfold orM; rw [h]
theorem orM_err {α : Type} {a b : M α} {s s' : Stt} {x : Err} (h : a s = .err x s') : orM a b s = .err x s' := by unfold orM; rw [h]
section
variable {X : Cx} {G : ClsAt} {W : WX} {tg : Expr}
theorem vi_or {e : Expr} {f g : Env → M (List D)} (h : VI G X W tg e f) (h' : VI G X W tg e g) : VI G X W tg e (fun ρ => orM (f ρ) (g ρ)) :=
  PI.imp (PI.or h h') fun σ H Q ⟨H0, ρ, c, o, sl, p⟩ => by
    have p : Post X.K G (PIt X.K G) (fun cls dx H' => W cls dx σ H') c H (orM (f ρ) (g ρ) c.st) Q := p
    cases e : f ρ c.st with
    | no => rw [orM_no e] at p; exact .inr ⟨H0, ρ, c, o, sl, p⟩
    | err e' s' => rw [orM_err e] at p; exact .inl ⟨H0, ρ, c, o, sl, by rw [e]; exact p⟩
    | ok d s' => rw [orM_ok e] at p; exact .inl ⟨H0, ρ, c, o, sl, by rw [e]; exact p⟩
theorem vi_lst {e : Expr} {f : Env → M D} (he : VE G X W e f) : VI G X W tg e (fun ρ => do let x ← f ρ; lstM x) :=
  PI.imp (pi_list he) fun σ H Q ⟨H0, ρ, c, o, sl, p⟩ => tV_step rfl o sl p fun d v c1 H1 x1 o1 sl1 t1 p1 => by
    cases d with
    | lst xs => exact (by
        have t2 := t1
        cases t1 with
        | lst r l => exact ⟨_, rfl, ⟨_, o1.le.lst r⟩, Post.here (P := PIt X.K G) p1 o1 (fun _ _ h => h) (Or.inl (it_list t2))⟩)
    | _ => exact p1.elim
theorem vi_tup {e : Expr} {f : Env → M D} (he : VE G X W e f) : VI G X W tg e (fun ρ => do let x ← f ρ; tupM x) :=
  PI.imp (pi_tup he) fun σ H Q ⟨H0, ρ, c, o, sl, p⟩ => tV_step rfl o sl p fun d v c1 H1 x1 o1 sl1 t1 p1 => by
    cases d with
    | tup xs => exact (by
        have t2 := t1
        cases t1 with
        | tup r l => exact ⟨_, rfl, ⟨_, o1.le.tup r⟩, Post.here (P := PIt X.K G) p1 o1 (fun _ _ h => h) (Or.inl (it_tup t2))⟩)
    | _ => exact p1.elim
theorem vi_str {e : Expr} {f : Env → M D} (he : VE G X W e f) : VI G X W tg e (fun ρ => do let x ← f ρ; strM x) :=
  PI.imp (pi_str he) fun σ H Q ⟨H0, ρ, c, o, sl, p⟩ => tV_step rfl o sl p fun d v c1 H1 x1 o1 sl1 t1 p1 => by
    cases d with
    | str z =>
      cases t1
      exact ⟨_, rfl, Post.here (P := PIt X.K G) p1 o1 (fun _ _ h => h) (Or.inl it_str)⟩
    | _ => exact p1.elim
/-- a dict is locked where it is walked; it stays so -/
def iLck (td : TE) : TI := fun σ H R => td σ H fun x H1 => ∃ d ws, x = .ref d ∧ ((∃ od, H1 d = some (.frz od (.dK ws)) ∧ R (Itk d od ws) H1) ∨ (H1 d = some (.dK ws) ∧ ∀ od, R (Itk d od ws) (upd H1 d (.frz od (.dK ws)))))
theorem pi_lock {td : TE} {e : Expr} (he : PE X e td) : PI X tg e (iLck td) := by
  refine ⟨fun pins s σ H R I h => ?_⟩
  refine thn (he.run pins s σ H _ I h) fun u s1 ⟨x, H1, I1, rx, d, kvs, ex, q⟩ => ?_
  subst ex
  obtain rfl : u = Value.ref d := rx
  rcases q with ⟨od, hd, q⟩ | ⟨hd, q⟩
  · obtain ⟨hs, hgd, hx, es, ep, vs, hdt, hsz, kv, hm⟩ := I1.frzK hd
    refine iter_keys hs hgd hx hdt (pi_one (tk := s1.toks) I1 _ (turn_keys _ hdt) ⟨_, Heap.get?_push_size _ rfl, rfl, ?_⟩ q)
    rw [hsz] <;> rfl
  · obtain ⟨od, I2⟩ := I1.lock hd trivial
    obtain ⟨hs, hgd, hx, es, ep, vs, hdt, hsz, kv, hm⟩ := I2.frzK upd_same
    refine iter_keys hs hgd hx hdt (pi_one (tk := s1.toks) I2 _ (turn_keys _ hdt) ⟨_, Heap.get?_push_size _ rfl, rfl, ?_⟩ (q od))
    rw [hsz] <;> rfl
/-- a shared dict locked: nothing else changes -/
theorem Ext.lock {c : Cf} {H : Hp} {d : Addr} {ws : List (Key × V)} {od : Obj} (f : c.F d = some (.dK ws)) (h : H d = some (.dK ws)) : Ext c H c (upd H d (.frz od (.dK ws))) := by
  refine ⟨fun a u q m => ?_, fun a u q => ?_, Sub.refl _, fun a u q => .inl q, List.prefix_rfl, fun a q => .inl q⟩
  · by_cases z : a = d
    · subst z; rw [h] at q; cases q; exact .inr ⟨f, ⟨_, rfl⟩, od, upd_same⟩
    · exact .inl (by rw [upd_ne z]; exact q)
  · by_cases z : a = d
    · subst z; exact ⟨_, upd_same⟩
    · exact ⟨u, by rw [upd_ne z]; exact q⟩
theorem CfOk.lock {K : PySem.W.Frag} {c : Cf} {H : Hp} {d : Addr} {ws : List (Key × V)} {od : Obj} (o : CfOk K G c H) (f : c.F d = some (.dK ws)) : CfOk K G c (upd H d (.frz od (.dK ws))) := by
  refine ⟨fun a u q => ?_, o.len, o.nd, fun i a d' e1 e2 => ?_⟩
  · by_cases z : a = d
    · subst z; rw [f] at q; cases q; exact .inr ⟨⟨ws, rfl⟩, od, upd_same⟩
    · rw [upd_ne z]; exact o.le a u q
  · obtain ⟨q1, q2⟩ := o.obj i a d' e1 e2
    have z : a ≠ d := fun z => by rw [z, f] at q1; cases q1
    exact ⟨q1, q2.mono (Sub.refl _) List.prefix_rfl fun u q => by rw [upd_ne z]; exact q⟩
theorem it_keys {K : PySem.W.Frag} {c1 : Cf} {d : Addr} {od : Obj} {ks : List (Key × D)} {ws : List (Key × V)} (l : DenK K G c1.As c1.F ks ws) : ItOk K G c1 (fun H => H d = some (.frz od (.dK ws))) (keysD ks) (Itk d od ws) := by
  have hl : (keysD ks).length = ws.length := by rw [List.length_map, l.length]
  refine ⟨fun c H i s p o g hi => ⟨g, by rw [← hl]; exact hi⟩, fun c H s p o g => ⟨g, Nat.le_of_eq hl.symm⟩, fun c H i x H' dd s p o _ e y => ?_⟩
  obtain ⟨rfl, k, v, e', rfl⟩ := y
  have key : ∀ {ks : List (Key × D)} {ws : List (Key × V)} {i : Nat}, DenK K G c1.As c1.F ks ws → ws[i]? = some (k, v) → (keysD ks)[i]? = some (keyD k) := by
    intro ks
    induction ks with
    | nil => intro ws i l e; cases l; cases e
    | cons p r ih =>
      intro ws i l e
      cases l with
      | cons t l =>
        cases i with
        | zero => cases e; rfl
        | succ i => exact ih (i := i) l (by simpa using e)
  rw [key l e'] at e
  cases e
  exact ⟨c.F, Ext.refl _ _, o, keyD_den⟩
theorem ItOk.frz {K : PySem.W.Frag} {c1 : Cf} {d : Addr} {u : HO} {ds : List D} {J : It} (it : ItOk K G c1 (fun H => H d = some u) ds J) (hu : ∀ ws, u ≠ .dK ws) (f : c1.F d = some u) : ItOk K G c1 (fun _ => True) ds J := by
  have g : ∀ c H, Sub c1.F c.F → CfOk K G c H → H d = some u := fun c H s o => by
    rcases o.le d _ (s _ _ f) with z | ⟨⟨ws, z⟩, _⟩
    · exact z
    · exact absurd z (hu ws)
  exact ⟨fun c H i s p o _ => it.go c H i s p o (g c H s o), fun c H s p o _ => it.stop c H s p o (g c H s o), fun c H i x H' d' s p o _ => it.yld c H i x H' d' s p o (g c H s o)⟩
theorem vi_dic {e : Expr} {f : Env → M D} (he : VE G X W e f) : VI G X W tg e (fun ρ => do let x ← f ρ; dicM x) :=
  PI.imp (pi_lock he) fun σ H Q ⟨H0, ρ, c, o, sl, p⟩ => tV_step rfl o sl p fun d v c1 H1 x1 o1 sl1 t1 p1 => by
    cases d with
    | dic ks => exact (by
        cases t1 with
        | dic r l =>
          rename_i ws a
          refine ⟨a, ws, rfl, ?_⟩
          rcases r with r | ⟨od, r⟩
          · rcases o1.le a _ r with z | ⟨_, od, z⟩
            · exact .inr ⟨z, fun od => p1 (Itk a od ws) c1.F c1.As _ (Ext.lock r z) (o1.lock r) (Or.inr ⟨a, od, ws, r, upd_same, it_keys l⟩)⟩
            · exact .inl ⟨od, z, Post.here (P := PIt X.K G) p1 o1 (fun _ _ h => h) (Or.inr ⟨a, od, ws, r, z, it_keys l⟩)⟩
          · rcases o1.le a _ r with z | ⟨⟨ws', z⟩, _⟩
            · exact .inl ⟨od, z, Post.here (P := PIt X.K G) p1 o1 (fun _ _ h => h) (Or.inl ((it_keys l).frz (fun _ h => by cases h) r))⟩
            · cases z)
    | _ => exact p1.elim
theorem vi_seq {e : Expr} {f : Env → M D} (he : VE G X W e f) : VI G X W tg e (fun ρ => do let x ← f ρ; seqM x) := by
  have h := vi_or (vi_lst (tg := tg) he) (vi_or (vi_tup he) (vi_or (vi_str he) (vi_dic he)))
  have e : (fun ρ => orM (do let x ← f ρ; lstM x) (orM (do let x ← f ρ; tupM x) (orM (do let x ← f ρ; strM x) (do let x ← f ρ; dicM x)))) = (fun ρ => do let x ← f ρ; seqM x) := by
    funext ρ s
    show orM (M.bind (f ρ) fun x => lstM x) (orM (M.bind (f ρ) fun x => tupM x) (orM (M.bind (f ρ) fun x => strM x) (M.bind (f ρ) fun x => dicM x))) s = M.bind (f ρ) (fun x => seqM x) s
    unfold orM M.bind
    cases f ρ s with
    | ok d s' => cases d <;> rfl
    | err _ _ => rfl
    | no => rfl
  rw [← e]; exact h
abbrev NUM : Int := 4611686018427387904
def rng1 : D → M (List D)
  | .int j => if -NUM ≤ j ∧ j < NUM then pure (rangeD 0 j.toNat) else no
  | _ => no
def rng2 : D → D → M (List D)
  | .int i, .int j => if (-NUM ≤ i ∧ i < NUM) ∧ -NUM ≤ j ∧ j < NUM then pure (rangeD i (j - i).toNat) else no
  | _, _ => no
theorem vi_range1 {a : Expr} {f : Env → M D} {p pos : Pos} (hm : X.mg "range" = none) (ha : VR G X W a f) (hg : Gl X "range" := by rfl) (hs : starEach [a] X.env = [(false, eval a X.env)] := by rfl) : VI G X W tg (.Call (.Name "range" p) [a] [] pos) (fun ρ => do let x ← f ρ; rng1 x) :=
  PI.imp (pi_range1 hg hm (va1 ha hs) hs) fun σ H Q ⟨H0, ρ, c, o, sl, p⟩ => tR_step rfl o sl p fun d v c1 H1 x1 o1 sl1 t1 p1 => by
    cases d with
    | int j =>
      have e := t1.int
      subst e
      change Post X.K G (PIt X.K G) _ c1 H1 ((if -NUM ≤ j ∧ j < NUM then pure (rangeD 0 j.toNat) else no : M (List D)) c1.st) Q at p1
      by_cases hj : -NUM ≤ j ∧ j < NUM
      · rw [if_pos hj] at p1
        exact ⟨j, rfl, hj.1, hj.2, Post.here (P := PIt X.K G) p1 o1 (fun _ _ h => h) (Or.inl it_range)⟩
      · rw [if_neg hj] at p1; exact p1.elim
    | _ => exact p1.elim
theorem vi_range2 {a b : Expr} {f g : Env → M D} {p pos : Pos} (hm : X.mg "range" = none) (ha : VR G X W a f) (hb : VR G X W b g) (hg : Gl X "range" := by rfl) (hs : starEach [a, b] X.env = [(false, eval a X.env), (false, eval b X.env)] := by rfl) (hs2 : starEach [b] X.env = [(false, eval b X.env)] := by rfl) :
    VI G X W tg (.Call (.Name "range" p) [a, b] [] pos) (fun ρ => do let x ← f ρ; let y ← g ρ; rng2 x y) :=
  PI.imp (pi_range2 hg hm (va2 ha hb hs hs2) hs hs2) fun σ H Q ⟨H0, ρ, c, o, sl, p⟩ => tR_step rfl o sl p fun d v c1 H1 x1 o1 sl1 t1 p1 => tR_step rfl o1 sl1 p1 fun d' v' c2 H2 x2 o2 sl2 t2 p2 => by
    cases d with
    | int i =>
      cases d' with
      | int j =>
        have e := t1.int
        subst e
        have e := t2.int
        subst e
        change Post X.K G (PIt X.K G) _ c2 H2 ((if (-NUM ≤ i ∧ i < NUM) ∧ -NUM ≤ j ∧ j < NUM then pure (rangeD i (j - i).toNat) else no : M (List D)) c2.st) Q at p2
        by_cases hj : (-NUM ≤ i ∧ i < NUM) ∧ -NUM ≤ j ∧ j < NUM
        · rw [if_pos hj] at p2
          exact ⟨i, j, rfl, ⟨hj.1.1, hj.1.2, hj.2.1, hj.2.2⟩, Post.here (P := PIt X.K G) p2 o2 (fun _ _ h => h) (Or.inl it_range)⟩
        · rw [if_neg hj] at p2; exact p2.elim
      | _ => exact p2.elim
    | _ => cases d' <;> exact p2.elim
def tS1 (K : PySem.W.Frag) (G : ClsAt) (W : WX) (f : Env → M D) : TA := fun σ H Q => tV K G W f σ H fun v H' => Q [v] H'
theorem pa1 {e : Expr} {f : Env → M D} (he : VE G X W e f) (hst : starEach [e] X.env = [(false, eval e X.env)] := by rfl) : PA X [e] (tS1 X.K G W f) := PA.imp (pa_cons he pa_nil hst) fun σ H Q h => h
def tS2 (K : PySem.W.Frag) (G : ClsAt) (W : WX) (f g : Env → M D) : TA := fun σ H Q => tV K G W f σ H fun v H' => tV K G W g σ H' fun w H2 => Q [v, w] H2
theorem pa2 {e e' : Expr} {f g : Env → M D} (he : VE G X W e f) (he' : VE G X W e' g) (h1 : starEach [e, e'] X.env = (false, eval e X.env) :: starEach [e'] X.env := by rfl) (h2 : starEach [e'] X.env = [(false, eval e' X.env)] := by rfl) : PA X [e, e'] (tS2 X.K G W f g) := PA.imp (pa_cons he (pa_cons he' pa_nil h2) h1) fun σ H Q h => h
def enumM : D → M (List D)
  | .lst xs => pure (enumD xs)
  | _ => no
def zipM : D → D → M (List D)
  | .lst xs, .lst ys => pure (zipD xs ys)
  | .tup xs, .tup ys => pure (zipD xs ys)
  | _, _ => no
theorem vi_enum {e : Expr} {f : Env → M D} {elts : List Expr} {kk : Nat} {tpos p pos : Pos} (hm : X.mg "enumerate" = none) (he : VE G X W e f) (hg : Gl X "enumerate" := by rfl) (hs : starEach [e] X.env = [(false, eval e X.env)] := by rfl) :
    VI G X W (.Tuple elts kk tpos) (.Call (.Name "enumerate" p) [e] [] pos) (fun ρ => do let x ← f ρ; enumM x) :=
  PI.imp (pi_enum hg hm (pa1 he hs) hs) fun σ H Q ⟨H0, ρ, c, o, sl, p⟩ => tV_step rfl o sl p fun d v c1 H1 x1 o1 sl1 t1 p1 => by
    cases d with
    | lst xs =>
      have t2 := t1
      cases t1 with
      | lst r l => exact ⟨_, _, rfl, o1.le.lst r, Post.here (P := PIt X.K G) p1 o1 (fun _ _ h => h) (Or.inl (it_enum t2))⟩
    | _ => exact p1.elim
theorem vi_zip {e e2 : Expr} {f g : Env → M D} {elts : List Expr} {kk : Nat} {tpos p pos : Pos} (hm : X.mg "zip" = none) (he : VE G X W e f) (he2 : VE G X W e2 g) (hg : Gl X "zip" := by rfl) (hs : starEach [e, e2] X.env = (false, eval e X.env) :: starEach [e2] X.env := by rfl) (hs2 : starEach [e2] X.env = [(false, eval e2 X.env)] := by rfl)
    (hpl : (backTo pos (starEach [e2] X.env)).any (·.1) = false := by rfl) : VI G X W (.Tuple elts kk tpos) (.Call (.Name "zip" p) [e, e2] [] pos) (fun ρ => do let x ← f ρ; let y ← g ρ; zipM x y) :=
  PI.imp (RZ.pi_zipA hg hm (pa2 he he2 hs hs2) hs hpl) fun σ H Q ⟨H0, ρ, c, o, sl, p⟩ => tV_step rfl o sl p fun d v c1 H1 x1 o1 sl1 t1 p1 => tV_step rfl o1 sl1 p1 fun d' v' c2 H2 x2 o2 sl2 t2 p2 => by
    cases d with
    | lst xs =>
      cases d' with
      | lst ys =>
        have t1 := t1.mono x2.sub x2.pre
        have u1 := t1
        have u2 := t2
        cases t1 with
        | lst r l =>
          cases t2 with
          | lst r' l' => exact ⟨_, _, _, _, rfl, .inl ⟨o2.le.lst r, o2.le.lst r', Post.here (P := PIt X.K G) p2 o2 (fun _ _ h => h) (Or.inl (it_zip u1 u2))⟩⟩
      | _ => exact p2.elim
    | tup xs =>
      cases d' with
      | tup ys =>
        have t1 := t1.mono x2.sub x2.pre
        have u1 := t1
        have u2 := t2
        cases t1 with
        | tup r l =>
          cases t2 with
          | tup r' l' => exact ⟨_, _, _, _, rfl, .inr ⟨o2.le.tup r, o2.le.tup r', Post.here (P := PIt X.K G) p2 o2 (fun _ _ h => h) (Or.inl (it_zipT u1 u2))⟩⟩
      | _ => exact p2.elim
    | _ => cases d' <;> exact p2.elim
end

/-! targets -/
/-- vs: the slots it may store to -/
def tG (K : PySem.W.Frag) (G : ClsAt) (vs : List Nat) (g : D → Env → Option Env) : TG := fun v σ H Q => ∃ H0 c ρ d ρ', CfOk K G c H ∧ Slots K G H0 c H ρ σ ∧ Den K G c.As c.F d v ∧ g d ρ = some ρ' ∧ ∀ σ', Slots K G H0 c H ρ' σ' → wipe σ' vs = wipe σ vs → Q σ' H
abbrev VG (G : ClsAt) (X : Cx) (tg : Expr) (vs : List Nat) (g : D → Env → Option Env) : Prop := PG X tg (tG X.K G vs g)
theorem PG.imp {X : Cx} {tg : Expr} {t t' : TG} (h : PG X tg t) (i : ∀ v σ H Q, t' v σ H Q → t v σ H Q) : PG X tg t' := ⟨fun pins s σ H v u Q I r q => h.run pins s σ H v u Q I r (i v σ H Q q)⟩
theorem PGs.imp {X : Cx} {tg : List Expr} {t t' : TGs} (h : PGs X tg t) (i : ∀ v σ H Q, t' v σ H Q → t v σ H Q) : PGs X tg t' := ⟨fun pins s σ H v u Q I r q => h.run pins s σ H v u Q I r (i v σ H Q q)⟩
theorem wipe_set {σ : L2.St} {i : Nat} {v : Option V} : ∀ {vs : List Nat}, i ∈ vs → wipe (σ.set i v) vs = wipe σ vs
  | j :: vs, h => by
    unfold wipe
    by_cases z : i ∈ vs
    · rw [wipe_set z]
    · rcases List.mem_cons.mp h with e | e
      · subst e
        have key : ∀ (vs : List Nat), i ∉ vs → wipe (σ.set i v) vs = (wipe σ vs).set i v := fun vs => by
          induction vs with
          | nil => intro _; rfl
          | cons j vs ih =>
            intro n
            simp only [List.mem_cons, not_or] at n
            unfold wipe
            rw [ih n.2, List.set_comm _ _ (fun e => n.1 e)]
        rw [key vs z, List.set_set]
      · exact absurd e z
theorem DenL.inv {K : PySem.W.Frag} {G : ClsAt} {As : List Addr} {F : Hp} {ds : List D} {vs : List V} (h : DenL K G As F ds vs) : (ds = [] ∧ vs = []) ∨ ∃ d dr v vr, ds = d :: dr ∧ vs = v :: vr ∧ Den K G As F d v ∧ DenL K G As F dr vr := by
  cases h with
  | nil => exact .inl ⟨rfl, rfl⟩
  | cons h l => exact .inr ⟨_, _, _, _, rfl, rfl, h, l⟩
def gNm (i : Nat) : D → Env → Option Env := fun d ρ => some (ρ.set i (.val d))
def tGs (K : PySem.W.Frag) (G : ClsAt) (vs : List Nat) (g : List D → Env → Option Env) : TGs := fun v σ H Q => ∃ H0 c ρ d ρ', CfOk K G c H ∧ Slots K G H0 c H ρ σ ∧ DenL K G c.As c.F d v ∧ g d ρ = some ρ' ∧ ∀ σ', Slots K G H0 c H ρ' σ' → wipe σ' vs = wipe σ vs → Q σ' H
abbrev VGs (G : ClsAt) (X : Cx) (tg : List Expr) (vs : List Nat) (g : List D → Env → Option Env) : Prop := PGs X tg (tGs X.K G vs g)
def gsNil : List D → Env → Option Env
  | [], ρ => some ρ
  | _, _ => none
def gsCons (g : D → Env → Option Env) (gs : List D → Env → Option Env) : List D → Env → Option Env
  | d :: ds, ρ => (g d ρ).bind (gs ds)
  | [], _ => none
def gTp (n : Nat) (gs : List D → Env → Option Env) : D → Env → Option Env
  | .tup ds, ρ => if ds.length = n then gs ds ρ else none
  | _, _ => none
section
variable {X : Cx} {G : ClsAt} {W : WX} {T : NT} {vs : List Nat}
theorem vg_name {x : Str} {k : NameKind} {i : Nat} {pos : Pos} (on : On X T) (j : Nat) (hv : i ∈ vs) (h : T[j]? = some (x, k, i) := by rfl) (hk : k = .local ∨ k = .cell := by first | exact .inl rfl | exact .inr rfl) (hf : X.fn x = true ∨ k = .local := by first | exact .inr rfl | assumption) : VG G X (.Name x pos) vs (gNm i) :=
  PG.imp (pg_name on.nd (on.at h (by rcases hk with rfl | rfl <;> rfl)) (on.loc h hk) (hf.elim .inl fun z => .inr (by rw [on.kind h, z]))) fun v σ H Q ⟨H0, c, ρ, d, ρ', o, sl, t, e, q⟩ => by
    cases e
    exact q _ (sl.val i t) (wipe_set hv)
theorem vgs_nil : VGs G X [] vs gsNil := PGs.imp pgs_nil fun v σ H Q ⟨H0, c, ρ, d, ρ', o, sl, t, e, q⟩ => by
  cases t with
  | nil => cases e; exact ⟨rfl, q _ sl rfl⟩
  | cons _ _ => cases e
theorem vgs_cons {e : Expr} {es : List Expr} {g : D → Env → Option Env} {gs : List D → Env → Option Env} (h1 : VG G X e vs g) (h2 : VGs G X es vs gs) (hs : (assignEach (e :: es) X.env).map (·.2) = assign e X.env :: (assignEach es X.env).map (·.2) := by rfl) : VGs G X (e :: es) vs (gsCons g gs) :=
  PGs.imp (pgs_cons h1 h2 hs) fun v σ H Q ⟨H0, c, ρ, d, ρ', o, sl, t, e, q⟩ => by
    rcases t.inv with ⟨rfl, rfl⟩ | ⟨d, ds, v, vs', rfl, rfl, t, ts⟩
    · cases e
    · have e : (g d ρ).bind (gs ds) = some ρ' := e
      cases e1 : g d ρ with
      | none => rw [e1] at e; cases e
      | some ρ1 =>
        rw [e1] at e
        exact ⟨_, _, rfl, H0, c, ρ, d, ρ1, o, sl, t, e1, fun σ1 sl1 w1 => ⟨H0, c, ρ1, ds, ρ', o, sl1, ts, e, fun σ2 sl2 w2 => q σ2 sl2 (w2.trans w1)⟩⟩
theorem vg_tup {es : List Expr} {k n : Nat} {gs : List D → Env → Option Env} {pos : Pos} (on : On X T) (h : VGs G X es vs gs) (hn : (assignEach es X.env).length = n := by rfl) (hst : (assignEach es X.env).findIdx? (·.1) = none := by rfl) : VG G X (.Tuple es k pos) vs (gTp n gs) :=
  PG.imp (pg_tup on.calm h hn hst) fun v σ H Q ⟨H0, c, ρ, d, ρ', o, sl, t, e, q⟩ => by
    cases d with
    | tup ds =>
      cases t with
      | tup r l =>
        have e : (if ds.length = n then gs ds ρ else none) = some ρ' := e
        by_cases hl : ds.length = n
        · rw [if_pos hl] at e
          exact ⟨_, _, rfl, o.le.tup r, by rw [← l.length]; exact hl, H0, c, ρ, ds, ρ', o, sl, l, e, q⟩
        · rw [if_neg hl] at e; cases e
    | _ => cases e

/-! for -/
def sFor (g : D → Env → Option Env) (m : SM) : List D → SM
  | [] => sNil
  | d :: ds => fun ρ s => match g d ρ with
    | none => .no
    | some ρ' => match m ρ' s with
      | .nx ρ2 s2 => sFor g m ds ρ2 s2
      | .ct ρ2 s2 => sFor g m ds ρ2 s2
      | .bk ρ2 s2 => .nx ρ2 s2
      | r => r
def sForM (f : Env → M (List D)) (g : D → Env → Option Env) (m : SM) : SM := fun ρ s => sB (f ρ) ρ (fun ds s' => sFor g m ds ρ s') s
theorem for_core {RP : RPT} {tg : Expr} {m : SM} {g : D → Env → Option Env} {c0 c : Cf} {H0 H : Hp} {σ : L2.St} {ρ : Env} {ds : List D} {J : It} {D : Ends} {Gd : Hp → Prop} (it : ItOk X.K G c0 Gd ds J) (hG : ∀ c H, Ext c0 H0 c H → Gd H) (x : Ext c0 H0 c H) (o : CfOk X.K G c H) (sl : Slots X.K G H0 c H ρ σ)
    (p : SPost X.K G RP W c0 H0 (sFor g m ds ρ c.st) D) :
    ∃ Wf : Nat → Nat → L2.St → Hp → Prop, (∃ m, Wf 0 m σ H) ∧ ∀ i n σ H, Wf i n σ H →
      (J.stop i H ∧ D.nx σ H) ∨ (J.go i H ∧ ∃ N : L2.St → Hp → Prop, (∀ σ' H', N σ' H' → ∃ m', m' < n ∧ Wf (i + 1) m' σ' H') ∧ ∀ x H', J.yld i H x H' → tG X.K G vs g x σ H' fun σ2 H2 => tS X.K G RP W m { D with nx := N, ct := N, bk := D.nx } σ2 H2) := by
  let Pv : Nat → L2.St → Hp → Prop := fun i σ H => ∃ ρ c, Ext c0 H0 c H ∧ CfOk X.K G c H ∧ Slots X.K G H0 c H ρ σ ∧ SPost X.K G RP W c0 H0 (sFor g m (ds.drop i) ρ c.st) D
  refine ⟨fun i n σ H => n = ds.length - i ∧ i ≤ ds.length ∧ Pv i σ H, ⟨ds.length, by simp, Nat.zero_le _, ρ, c, x, o, sl, p⟩, ?_⟩
  rintro i n σ H ⟨rfl, hi, ρ, c, x, o, sl, p⟩
  by_cases hlt : i < ds.length
  · refine .inr ⟨it.go c H i x.sub x.pre o (hG c H x) hlt, Pv (i + 1), fun σ' H' q => ⟨ds.length - (i + 1), by omega, rfl, hlt, q⟩, fun v H' y => ?_⟩
    have ei : ds[i]? = some ds[i] := List.getElem?_eq_getElem hlt
    obtain ⟨F', x', o', h'⟩ := it.yld c H i v H' ds[i] x.sub x.pre o (hG c H x) ei y
    rw [List.drop_eq_getElem_cons hlt] at p
    unfold sFor at p
    cases e : g ds[i] ρ with
    | none => rw [e] at p; exact p.elim
    | some ρ' =>
      rw [e] at p
      refine ⟨H0, _, ρ, ds[i], ρ', o', sl.ext x', h', e, fun σ2 sl2 _ => ⟨c0, H0, ρ', _, x.trans x', o', sl2, ?_⟩⟩
      show SPost X.K G RP W c0 H0 (m ρ' c.st) _
      have p : SPost X.K G RP W c0 H0 (match m ρ' c.st with
        | .nx ρ2 s2 => sFor g m (ds.drop (i + 1)) ρ2 s2
        | .ct ρ2 s2 => sFor g m (ds.drop (i + 1)) ρ2 s2
        | .bk ρ2 s2 => .nx ρ2 s2
        | r => r) D := p
      cases e2 : m ρ' c.st with
      | nx ρ2 s2 => rw [e2] at p; exact fun σ3 F3 As3 H3 x3 o3 sl3 => ⟨ρ2, _, x3, o3, sl3, p⟩
      | ct ρ2 s2 => rw [e2] at p; exact fun σ3 F3 As3 H3 x3 o3 sl3 => ⟨ρ2, _, x3, o3, sl3, p⟩
      | bk ρ2 s2 => rw [e2] at p; exact p
      | rt d s2 => rw [e2] at p; exact p
      | err e' ρ2 s2 => rw [e2] at p; exact p
      | no => rw [e2] at p; exact p.elim
  · have e : i = ds.length := by omega
    subst e
    rw [List.drop_length] at p
    exact .inl ⟨it.stop c H x.sub x.pre o (hG c H x), p σ c.F c.As H x o sl⟩
/-- another anchor -/
theorem SPost.anchor {RP : RPT} {K : PySem.W.Frag} {c0 c1 : Cf} {H0 H1 : Hp} {r : SR} {D : Ends} (x : Ext c0 H0 c1 H1) (p : SPost K G RP W c0 H0 r D) : SPost K G RP W c1 H0 r D := by
  cases r with
  | nx ρ' st' => exact fun σ' F' As' H' x' => p σ' F' As' H' (x.back x')
  | bk ρ' st' => exact fun σ' F' As' H' x' => p σ' F' As' H' (x.back x')
  | ct ρ' st' => exact fun σ' F' As' H' x' => p σ' F' As' H' (x.back x')
  | rt d st' => exact fun v F' As' H' x' => p v F' As' H' (x.back x')
  | err e ρ' st' => exact fun σ' F' As' H' cls dx x' => p σ' F' As' H' cls dx (x.back x')
  | no => exact p
/-- a lock laid before is seen from the entry -/
theorem rebase {K : PySem.W.Frag} {c0 c : Cf} {H0 H : Hp} {ρ : Env} {σ : L2.St} {d : Addr} {ws : List (Key × V)} {od : Obj} (x : Ext c0 H0 c H) (o : CfOk K G c H) (sl : Slots K G H0 c H ρ σ) (f : c.F d = some (.dK ws)) (h : H d = some (.frz od (.dK ws))) :
    Ext c (upd H0 d (.frz od (.dK ws))) c H ∧ Slots K G (upd H0 d (.frz od (.dK ws))) c H ρ σ ∧ ∀ c' H', Ext c (upd H0 d (.frz od (.dK ws))) c' H' → Ext c H0 c' H' := by
  have xa := x.anchor
  refine ⟨⟨fun a u q m => ?_, fun a u q => ?_, Sub.refl _, fun a u q => .inl q, List.prefix_rfl, fun a q => .inl q⟩, ⟨sl.len, sl.ok, sl.sep, fun i d' a e1 e2 => ?_⟩, fun c' H' y => ⟨fun a u q m => ?_, fun a u q => ?_, y.sub, fun a u q => ?_, y.pre, fun a q => ?_⟩⟩
  · by_cases z : a = d
    · subst z; rw [upd_same] at q; cases q; exact .inl h
    · rw [upd_ne z] at q; exact xa.keep a u q m
  · by_cases z : a = d
    · subst z; exact ⟨_, h⟩
    · rw [upd_ne z] at q; exact xa.there a u q
  · have z : a ≠ d := fun z => by
      obtain ⟨b, e3, f1, _, _⟩ := sl.ok i _ _ e1 e2
      cases e3
      rw [z, f] at f1; cases f1
    rw [upd_ne z]; exact sl.mine i d' a e1 e2
  · by_cases z : a = d
    · subst z
      have k2 : H' a = some (.frz od (.dK ws)) := by
        rcases y.keep a _ upd_same m with k | ⟨_, ⟨ws', e⟩, _⟩
        · exact k
        · cases e
      rcases xa.keep a u q m with k | ⟨f2, _, _⟩
      · rw [h] at k; cases k; exact .inl k2
      · rw [f] at f2; cases f2; exact .inr ⟨y.sub _ _ f, ⟨ws, rfl⟩, od, k2⟩
    · exact y.keep a u (by rw [upd_ne z]; exact q) m
  · by_cases z : a = d
    · subst z; exact y.there a _ upd_same
    · exact y.there a u (by rw [upd_ne z]; exact q)
  · rcases y.new a u q with z | z
    · exact .inl z
    · by_cases e : a = d
      · subst e; rw [upd_same] at z; cases z
      · rw [upd_ne e] at z; exact .inr z
  · rcases y.anew a q with z | z
    · exact .inl z
    · by_cases e : a = d
      · subst e; rw [upd_same] at z; cases z
      · rw [upd_ne e] at z; exact .inr z
/-- a result may be told from an earlier entry -/
def RPM (RP : RPT) : Prop := ∀ (H0 : Hp) (d : Addr) (u : HO) (c : Cf) (H : Hp) (x : D) (v : V), RP (upd H0 d u) c H x v → RP H0 c H x v
theorem upd_none {H0 : Hp} {d : Addr} {u : HO} {a : Addr} (h : upd H0 d u a = none) : H0 a = none := by
  by_cases z : a = d
  · subst z; rw [upd_same] at h; cases h
  · rw [upd_ne z] at h; exact h
theorem rpm_den {K : PySem.W.Frag} : RPM (rDen K G) := fun _ _ _ _ _ _ _ h => h
theorem rpm_own {K : PySem.W.Frag} : RPM (rOwn K G) := fun _ _ _ _ _ _ _ h => by
  rcases h with ⟨a, e, n, r⟩
  exact ⟨a, e, upd_none n, r⟩
theorem SPost.rebase {RP : RPT} {K : PySem.W.Frag} {c : Cf} {H0 : Hp} {d : Addr} {u : HO} {r : SR} {D : Ends} (hr : RPM RP) (b : ∀ c' H', Ext c (upd H0 d u) c' H' → Ext c H0 c' H') (p : SPost K G RP W c H0 r D) : SPost K G RP W c (upd H0 d u) r D := by
  have bs : ∀ {c' : Cf} {H' : Hp} {ρ' : Env} {σ' : L2.St}, Slots K G (upd H0 d u) c' H' ρ' σ' → Slots K G H0 c' H' ρ' σ' := fun s => ⟨s.len, s.ok, s.sep, fun i d' a e1 e2 => upd_none (s.mine i d' a e1 e2)⟩
  cases r with
  | nx ρ' st' => exact fun σ' F' As' H' x' o' sl' => p σ' F' As' H' (b _ _ x') o' (bs sl')
  | bk ρ' st' => exact fun σ' F' As' H' x' o' sl' => p σ' F' As' H' (b _ _ x') o' (bs sl')
  | ct ρ' st' => exact fun σ' F' As' H' x' o' sl' => p σ' F' As' H' (b _ _ x') o' (bs sl')
  | rt d st' => exact fun v F' As' H' x' o' q => p v F' As' H' (b _ _ x') o' (hr _ _ _ _ _ _ _ q)
  | err e ρ' st' => exact fun σ' F' As' H' cls dx x' o' sl' => p σ' F' As' H' cls dx (b _ _ x') o' (bs sl')
  | no => exact p
theorem vs_for {RP : RPT} {tg iter : Expr} {body : List Stmt} {f : Env → M (List D)} {g : D → Env → Option Env} {m : SM} {pos : Pos} (hp : PassesOwn (model X.prog X.w) X.A X.env X.xe) (on : On X T) (hi : VI G X W tg iter f) (hg : VG G X tg vs g) (hb : VSs G X W RP body m)
    (hs : ∀ x, foldedSetIterable iter X.env x = pure x := by intro _; rfl) (hr : RPM RP := by first | exact rpm_den | exact rpm_own) : VS G X W RP (.For tg iter body [] pos) (sForM f g m) :=
  PS.imp (ps_for hp on.calm hi hg hb hs) fun D σ H ⟨c0, H0, ρ, c, x, o, sl, p⟩ =>
    ⟨H0, ρ, c, o, sl, s_step x sl p fun ds J c' H' _ x' o' sl' it p' => by
      rcases it with it | ⟨d, od, ws, f1, h1, it⟩
      · exact for_core (tg := tg) it (fun _ _ _ => trivial) x'.anchor o' sl' (p'.anchor x')
      · obtain ⟨xl, sll, bk⟩ := rebase (od := od) x' o' sl' f1 h1
        refine for_core (tg := tg) it (fun c2 H2 y => ?_) xl o' sll ((p'.anchor x').rebase hr bk)
        have nd : d ∉ c'.As := fun z => by
          have := (o'.mem z).1
          rw [f1] at this; cases this
        rcases y.keep d _ upd_same nd with k | ⟨_, ⟨ws', e⟩, _⟩
        · exact k
        · cases e⟩
end
end PV
end

section
namespace PV
open PySem PySem.Spec L2
open PyProof.Rows hiding St

/-! an object written -/
section
variable {K : PySem.W.Frag} {G : ClsAt}
theorem CfOk.updFree {c : Cf} {H : Hp} (o : CfOk K G c H) {a : Addr} {u : HO} (n : a ∉ c.As) (f : c.F a = none) : CfOk K G c (upd H a u) := by
  refine ⟨fun b v q => ?_, o.len, o.nd, fun i b d e1 e2 => ?_⟩
  · have z : b ≠ a := fun z => by rw [z, f] at q; cases q
    rw [upd_ne z]; exact o.le b v q
  · obtain ⟨q1, q2⟩ := o.obj i b d e1 e2
    have z : b ≠ a := fun z => n (by rw [← z]; exact List.mem_of_getElem? e1)
    exact ⟨q1, q2.mono (Sub.refl _) List.prefix_rfl fun v q => by rw [upd_ne z]; exact q⟩
theorem ext_updNew {c0 c : Cf} {H0 H : Hp} (x : Ext c0 H0 c H) {a : Addr} {u : HO} (n : H0 a = Option.none) : Ext c0 H0 c (upd H a u) where
  keep := fun b o h m => (x.keep b o h m).heap fun u q => by rw [upd_ne (fun z => by rw [z, n] at h; cases h)]; exact q
  there := fun b o h => by
    obtain ⟨o', h'⟩ := x.there b o h
    by_cases z : b = a
    · subst z; exact ⟨_, upd_same⟩
    · exact ⟨o', by rw [upd_ne z]; exact h'⟩
  sub := x.sub
  new := x.new
  pre := x.pre
  anew := x.anew
/-- one's own object behind slot i is written -/
theorem own_write {c0 c : Cf} {H0 H : Hp} {ρ : Env} {σ : L2.St} {i : Nat} {d d' : D} (x : Ext c0 H0 c H) (o : CfOk K G c H) (sl : Slots K G H0 c H ρ σ) (e : ρ[i]? = some (.own d)) : ∃ a, σ[i]? = some (some (.ref a)) ∧ OwnAt K G c.As c.F H a d ∧
    ∀ u, OwnAt K G c.As c.F (upd H a u) a d' → Ext c0 H0 c (upd H a u) ∧ CfOk K G c (upd H a u) ∧ Slots K G H0 c (upd H a u) (ρ.set i (.own d')) σ := by
  have hl : i < σ.length := by rw [← sl.len]; exact (List.getElem?_eq_some_iff.mp e).1
  obtain ⟨a, e2, f, n, w⟩ := sl.ok i _ _ e (List.getElem?_eq_getElem hl)
  have e3 : σ[i]? = some (some (.ref a)) := by rw [List.getElem?_eq_getElem hl, e2]
  have h0 := sl.mine i d a e e3
  refine ⟨a, e3, w, fun u w' => ⟨ext_updNew x h0, o.updFree n f, ?_⟩⟩
  have old : ∀ {j : Nat} {s : Slot}, (ρ.set i (.own d'))[j]? = some s → (j = i ∧ s = .own d') ∨ (j ≠ i ∧ ρ[j]? = some s) := fun h => by
    rcases get_set h with ⟨h1, h2, _⟩ | h
    · exact .inl ⟨h1, h2⟩
    · exact .inr h
  refine ⟨by simpa using sl.len, fun j s oo e1 e9 => ?_, fun j l d1 d2 b e1 e2 e4 e5 => ?_, fun j d1 b e1 e9 => ?_⟩
  · rcases old e1 with ⟨rfl, rfl⟩ | ⟨hj, e1⟩
    · rw [e3] at e9; cases e9; exact ⟨a, rfl, f, n, w'⟩
    · have k := sl.ok j s oo e1 e9
      cases s with
      | no => trivial
      | val d1 => exact k
      | own d1 =>
        obtain ⟨b, rfl, f1, n1, w1⟩ := k
        have z : b ≠ a := fun z => hj (sl.sep j i d1 d a e1 e (by rw [← z]; exact e9) e3)
        exact ⟨b, rfl, f1, n1, w1.mono (Sub.refl _) List.prefix_rfl fun v q => by rw [upd_ne z]; exact q⟩
  · have un : ∀ {j : Nat} {d1 : D}, (ρ.set i (.own d'))[j]? = some (.own d1) → ∃ d2, ρ[j]? = some (.own d2) := fun h => by
      rcases old h with ⟨rfl, _⟩ | ⟨_, h⟩
      · exact ⟨_, e⟩
      · exact ⟨_, h⟩
    obtain ⟨d3, e1⟩ := un e1
    obtain ⟨d4, e2⟩ := un e2
    exact sl.sep j l d3 d4 b e1 e2 e4 e5
  · rcases old e1 with ⟨rfl, _⟩ | ⟨_, e1⟩
    · exact sl.mine j d b e e9
    · exact sl.mine j d1 b e1 e9
/-- a store's object is written -/
theorem obj_write {c0 c : Cf} {H0 H : Hp} {ρ : Env} {σ : L2.St} {n : Nat} {a : Addr} {d' : D} {u : HO} (x : Ext c0 H0 c H) (o : CfOk K G c H) (sl : Slots K G H0 c H ρ σ) (e : c.As[n]? = some a) (w' : ObAt K G c.As c.F (upd H a u) a d') :
    Ext c0 H0 ⟨c.F, c.As, c.st.set n d'⟩ (upd H a u) ∧ CfOk K G ⟨c.F, c.As, c.st.set n d'⟩ (upd H a u) ∧ Slots K G H0 ⟨c.F, c.As, c.st.set n d'⟩ (upd H a u) ρ σ := by
  have hm : a ∈ c.As := List.mem_of_getElem? e
  obtain ⟨f, v0, hv0⟩ := o.mem hm
  refine ⟨⟨fun b v h m => ?_, fun b v h => ?_, x.sub, x.new, x.pre, x.anew⟩, ⟨fun b v q => ?_, by simpa using o.len, o.nd, fun i b d e1 e2 => ?_⟩, sl.len, fun j s oo e1 e2 => ?_, sl.sep, sl.mine⟩
  · have z : b ≠ a := fun z => by
      rcases x.anew a hm with k | k
      · exact m (by rw [z]; exact k)
      · rw [z, k] at h; cases h
    exact (x.keep b v h m).heap fun u q => by rw [upd_ne z]; exact q
  · obtain ⟨o', h'⟩ := x.there b v h
    by_cases z : b = a
    · subst z; exact ⟨_, upd_same⟩
    · exact ⟨o', by rw [upd_ne z]; exact h'⟩
  · have z : b ≠ a := fun z => by
      have q' : c.F b = some v := q
      rw [z, f] at q'; cases q'
    rw [upd_ne z]; exact o.le b v q
  · have e2 : (c.st.set n d')[i]? = some d := e2
    have e1 : c.As[i]? = some b := e1
    rcases get_set e2 with ⟨rfl, rfl, _⟩ | ⟨hi, e2⟩
    · rw [e] at e1; cases e1; exact ⟨f, w'⟩
    · have z : b ≠ a := fun z => by
        subst z
        obtain ⟨h1, g1⟩ := List.getElem?_eq_some_iff.mp e
        obtain ⟨h2, g2⟩ := List.getElem?_eq_some_iff.mp e1
        exact hi ((List.getElem_inj (h₀ := h2) (h₁ := h1) o.nd).mp (g2.trans g1.symm))
      obtain ⟨q1, q2⟩ := o.obj i b d e1 e2
      exact ⟨q1, q2.mono (Sub.refl _) List.prefix_rfl fun v q => by rw [upd_ne z]; exact q⟩
  · have k := sl.ok j s oo e1 e2
    cases s with
    | no => trivial
    | val d1 => exact k
    | own d1 =>
      obtain ⟨b, rfl, f1, n1, w1⟩ := k
      have z : b ≠ a := fun z => n1 (by rw [z]; exact hm)
      exact ⟨b, rfl, f1, n1, w1.mono (Sub.refl _) List.prefix_rfl fun v q => by rw [upd_ne z]; exact q⟩
theorem own_den {c : Cf} {H : Hp} {a : Addr} {d : D} (f : c.F a = none) (w : OwnAt K G c.As c.F H a d) : ∃ u, H a = some u ∧ Den K G c.As (upd c.F a u) d (.ref a) := by
  cases d with
  | lst xs =>
    obtain ⟨vs, h, l⟩ := w
    exact ⟨_, h, .lst (SqL.of upd_same) (l.mono (sub_upd f) List.prefix_rfl)⟩
  | dic ks =>
    obtain ⟨vs, h, l⟩ := w
    exact ⟨_, h, .dic (.inl upd_same) (l.mono (sub_upd f) List.prefix_rfl)⟩
  | ins k fs =>
    obtain ⟨dx, vs, h, l⟩ := w
    exact ⟨_, h, .ins upd_same (l.mono (sub_upd f) List.prefix_rfl)⟩
  | _ => exact w.elim
/-- one's own becomes shared: no code -/
theorem own_share {c0 c : Cf} {H0 H : Hp} {ρ : Env} {σ : L2.St} {i : Nat} {d : D} (x : Ext c0 H0 c H) (o : CfOk K G c H) (sl : Slots K G H0 c H ρ σ) (e : ρ[i]? = some (.own d)) :
    ∃ F2, Ext c0 H0 ⟨F2, c.As, c.st⟩ H ∧ CfOk K G ⟨F2, c.As, c.st⟩ H ∧ Slots K G H0 ⟨F2, c.As, c.st⟩ H (ρ.set i (.val d)) σ := by
  have hl : i < σ.length := by rw [← sl.len]; exact (List.getElem?_eq_some_iff.mp e).1
  obtain ⟨a, e2, f, n, w⟩ := sl.ok i _ _ e (List.getElem?_eq_getElem hl)
  have e3 : σ[i]? = some (some (.ref a)) := by rw [List.getElem?_eq_getElem hl, e2]
  have h0 := sl.mine i d a e e3
  obtain ⟨u, hu, t⟩ := own_den f w
  refine ⟨upd c.F a u, ⟨fun b v h m => (x.keep b v h m).up (sub_upd f), x.there, Sub.trans x.sub (sub_upd f), fun b v q => ?_, x.pre, x.anew⟩, o.share hu n f, ⟨by simpa using sl.len, fun j s oo e1 e9 => ?_, fun j l d1 d2 b e1 e2 e4 e5 => ?_, fun j d1 b e1 e9 => ?_⟩⟩
  · by_cases z : b = a
    · subst z; exact .inr h0
    · have q' : upd c.F a u b = some v := q
      rw [upd_ne z] at q'
      exact x.new b v q'
  · rcases get_set e1 with ⟨rfl, rfl, _⟩ | ⟨hj, e1⟩
    · rw [e3] at e9; cases e9; exact ⟨_, rfl, t⟩
    · have k := sl.ok j s oo e1 e9
      cases s with
      | no => trivial
      | val d1 => obtain ⟨v, rfl, k⟩ := k; exact ⟨v, rfl, k.mono (sub_upd f) List.prefix_rfl⟩
      | own d1 =>
        obtain ⟨b, rfl, f1, n1, w1⟩ := k
        have z : b ≠ a := fun z => hj (sl.sep j i d1 d a e1 e (by rw [← z]; exact e9) e3)
        exact ⟨b, rfl, by show upd c.F a u b = none; rw [upd_ne z]; exact f1, n1, w1.mono (sub_upd f) List.prefix_rfl fun v q => q⟩
  · rcases get_set e1 with ⟨_, z, _⟩ | ⟨_, e1⟩
    · cases z
    · rcases get_set e2 with ⟨_, z, _⟩ | ⟨_, e2⟩
      · cases z
      · exact sl.sep j l d1 d2 b e1 e2 e4 e5
  · rcases get_set e1 with ⟨_, z, _⟩ | ⟨_, e1⟩
    · cases z
    · exact sl.mine j d1 b e1 e9
end
/-- slot i is shared from here on -/
def sFrz (i : Nat) : SM := fun ρ s => match ρ[i]? with
  | some (.own d) => .nx (ρ.set i (.val d)) s
  | some (.val _) => .nx ρ s
  | _ => .no
section
variable {X : Cx} {G : ClsAt} {W : WX} {RP : RPT} {T : NT}
theorem frz_pre {K : PySem.W.Frag} {m : SM} {i : Nat} {σ : L2.St} {H : Hp} {D : Ends} (h : tS K G RP W (sSeq (sFrz i) m) D σ H) : tS K G RP W m D σ H := by
  obtain ⟨c0, H0, ρ, c, x, o, sl, p⟩ := h
  unfold sSeq sFrz at p
  cases e : ρ[i]? with
  | none => rw [e] at p; exact p.elim
  | some s =>
    rw [e] at p
    cases s with
    | no => exact p.elim
    | val d => exact ⟨c0, H0, ρ, c, x, o, sl, p⟩
    | own d =>
      obtain ⟨F2, x2, o2, sl2⟩ := own_share x o sl e
      exact ⟨c0, H0, _, _, x2, o2, sl2, p⟩
/-- ahead of a statement: slot i frozen -/
theorem vs_frz {s : Stmt} {m : SM} (i : Nat) (h : VS G X W RP s m) : VS G X W RP s (sSeq (sFrz i) m) := PS.imp h fun _ _ _ q => frz_pre q
theorem vss_frz {s : List Stmt} {m : SM} (i : Nat) (h : VSs G X W RP s m) : VSs G X W RP s (sSeq (sFrz i) m) := PSs.imp h fun _ _ _ q => frz_pre q

/-! x.append(e) -/
theorem SIZE_le : SIZE ≤ sizeLine := by decide
theorem Slots.at {K : PySem.W.Frag} {H0 H : Hp} {c : Cf} {ρ : Env} {σ : L2.St} {i : Nat} {d : D} (sl : Slots K G H0 c H ρ σ) (e : ρ[i]? = some (.val d)) : ∃ v, σ[i]? = some (some v) ∧ Den K G c.As c.F d v := by
  have hl : i < σ.length := by rw [← sl.len]; exact (List.getElem?_eq_some_iff.mp e).1
  obtain ⟨v, e2, h⟩ := sl.ok i _ _ e (List.getElem?_eq_getElem hl)
  exact ⟨v, by rw [List.getElem?_eq_getElem hl, e2], h⟩
def appAt (i : Nat) (ρ : Env) (v : D) : Stt → SR := fun s => match ρ[i]? with
  | some (.own (.lst xs)) => if xs.length < SIZE then .nx (ρ.set i (.own (.lst (xs ++ [v])))) s else .no
  | some (.val (.obj n)) => match s[n]? with
    | some (.lst xs) => if xs.length < SIZE then .nx ρ (s.set n (.lst (xs ++ [v]))) else .no
    | _ => .no
  | _ => .no
def lstAt (i : Nat) (ρ : Env) (s : Stt) : Bool := match ρ[i]? with
  | some (.own (.lst _)) => true
  | some (.val (.obj n)) => match s[n]? with
    | some (.lst _) => true
    | _ => false
  | _ => false
def sApp (i : Nat) (f : Env → M D) : SM := fun ρ s => if lstAt i ρ s then sB (f ρ) ρ (fun v s' => appAt i ρ v s') s else .no
theorem lstAt_at {K : PySem.W.Frag} {H0 H : Hp} {c : Cf} {ρ : Env} {σ : L2.St} {i : Nat} (o : CfOk K G c H) (sl : Slots K G H0 c H ρ σ) (h : lstAt i ρ c.st = true) : ∃ a xs, σ[i]? = some (some (.ref a)) ∧ H a = some (.lst xs) := by
  unfold lstAt at h
  split at h
  · rename_i xs e
    have hl : i < σ.length := by rw [← sl.len]; exact (List.getElem?_eq_some_iff.mp e).1
    obtain ⟨a, e2, f, n, vs, hv, _⟩ := sl.ok i _ _ e (List.getElem?_eq_getElem hl)
    exact ⟨a, vs, by rw [List.getElem?_eq_getElem hl, e2], hv⟩
  · rename_i n e
    split at h
    · rename_i xs e2
      obtain ⟨v, e3, t⟩ := sl.at e
      cases t with
      | obj e4 =>
        obtain ⟨_, vs, hv, _⟩ := o.obj n _ _ e4 e2
        exact ⟨_, vs, e3, hv⟩
    · cases h
  · cases h
/-- the list written -/
theorem app_at {RP : RPT} {K : PySem.W.Frag} {c0 c : Cf} {H0 H : Hp} {ρ : Env} {σ : L2.St} {i : Nat} {v : D} {w : V} {a : Addr} {D : Ends} (x : Ext c0 H0 c H) (o : CfOk K G c H) (sl : Slots K G H0 c H ρ σ) (t : Den K G c.As c.F v w) (ea : σ[i]? = some (some (.ref a)))
    (p : SPost K G RP W c0 H0 (appAt i ρ v c.st) D) : ∃ xs, H a = some (.lst xs) ∧ xs.length < sizeLine ∧ D.nx σ (upd H a (.lst (xs ++ [w]))) := by
  unfold appAt at p
  split at p
  · rename_i xs e
    split at p
    · rename_i hz
      obtain ⟨b, eb, ⟨vs, hv, l⟩, wr⟩ := own_write (d' := .lst (xs ++ [v])) x o sl e
      rw [ea] at eb; cases eb
      obtain ⟨x2, o2, sl2⟩ := wr (.lst (vs ++ [w])) ⟨_, upd_same, l.app (.cons t .nil)⟩
      exact ⟨vs, hv, by rw [← l.length]; exact Nat.lt_of_lt_of_le hz SIZE_le, p σ c.F c.As _ x2 o2 sl2⟩
    · exact p.elim
  · rename_i n e
    split at p
    · rename_i xs e2
      split at p
      · rename_i hz
        obtain ⟨v', e3, t'⟩ := sl.at e
        rw [ea] at e3; cases e3
        cases t' with
        | obj e4 =>
          obtain ⟨_, vs, hv, l⟩ := o.obj n _ _ e4 e2
          obtain ⟨x2, o2, sl2⟩ := obj_write (d' := .lst (xs ++ [v])) (u := .lst (vs ++ [w])) x o sl e4 ⟨_, upd_same, l.app (.cons t .nil)⟩
          exact ⟨vs, hv, by rw [← l.length]; exact Nat.lt_of_lt_of_le hz SIZE_le, p σ c.F c.As _ x2 o2 sl2⟩
      · exact p.elim
    · exact p.elim
  · exact p.elim
theorem vs_app {x : Str} {k : NameKind} {i : Nat} {e : Expr} {f : Env → M D} {xp apos cpos pos : Pos} (on : On X T) (j : Nat) (he : VE G X W e f) (h : T[j]? = some (x, k, i) := by rfl) (hv : visK k = true := by rfl)
    (hs : starEach [e] X.env = [(false, eval e X.env)] := by rfl) (hline : (apos.endLine == cpos.line) = true := by rfl) (hfew : ((backTo cpos (starEach [e] X.env)).all (fun x => !x.1) && (backToKw cpos (keywordEach [] X.env)).all (fun x => x.1.isSome)
      && decide ([e].length + ([] : List Keyword).length + (if ([] : List Keyword).isEmpty then 0 else 1) < 30)) = true := by rfl) (hbase : attributeBase (.Name x xp) "append" X.env (eval (.Name x xp) X.env) = eval (.Name x xp) X.env := by rfl)
    (hsw : swapsWith (.Call (.Attribute (.Name x xp) "append" apos) [e] [] cpos) none pos.line X.env = pure false := by rfl) :
    VS G X W RP (.Expr (.Call (.Attribute (.Name x xp) "append" apos) [e] [] cpos) pos) (sApp i f) :=
  PS.imp (ps_expr (pe_bm (T := "list") (id := "list.append") (F.plainAttrs_list) F.slot_list_append F.type_list_append mt_append (pe_var (i := i) (on.at h hv) (on.vis h hv) (on.dbg h) (on.cd h)) (pa1 he hs) hbase hfew hline hs rfl) hsw) fun D σ H ⟨c0, H0, ρ, c, x, o, sl, p⟩ => by
    unfold sApp at p
    by_cases hc : lstAt i ρ c.st = true
    · have p : SPost X.K G RP W c0 H0 (sB (f ρ) ρ (fun v s' => appAt i ρ v s') c.st) D := by
        have p : SPost X.K G RP W c0 H0 (if lstAt i ρ c.st = true then sB (f ρ) ρ (fun v s' => appAt i ρ v s') c.st else .no) D := p
        rw [if_pos hc] at p; exact p
      obtain ⟨a, xs, ea, hx⟩ := lstAt_at o sl hc
      refine ⟨.ref a, ea, .inl ⟨rfl, xs, SqL.of hx⟩, H0, ρ, c, o, sl, s_step x sl p fun v w c' H' x1 x' o' sl' t p' => ?_⟩
      obtain ⟨ys, h1, h2, h3⟩ := app_at x' o' sl' t ea p'
      exact ⟨a, ys, w, rfl, rfl, h1, h2, h3⟩
    · have p : SPost X.K G RP W c0 H0 (if lstAt i ρ c.st = true then sB (f ρ) ρ (fun v s' => appAt i ρ v s') c.st else .no) D := p
      rw [if_neg hc] at p; exact p.elim
/-! x[i] = e -/
def putD (ks : List (Key × D)) (k : Key) (v : D) : List (Key × D) := if (ks.any fun p => decide (p.1 = k)) = true then ks.map (fun p => if p.1 = k then (p.1, v) else p) else ks ++ [(k, v)]
theorem denK_any {K : PySem.W.Frag} {As : List Addr} {F : Hp} (k : Key) : ∀ {ds : List (Key × D)} {vs : List (Key × V)}, DenK K G As F ds vs → (ds.any fun p => decide (p.1 = k)) = (vs.any fun p => decide (p.1 = k))
  | _, _, .nil => rfl
  | _, _, .cons h l => by simp only [List.any_cons, denK_any k l]
theorem denK_map {K : PySem.W.Frag} {As : List Addr} {F : Hp} {k : Key} {d : D} {v : V} (h : Den K G As F d v) : ∀ {ds : List (Key × D)} {vs : List (Key × V)}, DenK K G As F ds vs → DenK K G As F (ds.map (fun p => if p.1 = k then (p.1, d) else p)) (vs.map (fun p => if p.1 = k then (p.1, v) else p))
  | _, _, .nil => .nil
  | _, _, .cons (k := k') h' l => by
    simp only [List.map_cons]
    by_cases e : k' = k
    · rw [if_pos e, if_pos e]; exact .cons h (denK_map h l)
    · rw [if_neg e, if_neg e]; exact .cons h' (denK_map h l)
theorem DenK.app {K : PySem.W.Frag} {As : List Addr} {F : Hp} : ∀ {d d' : List (Key × D)} {v v' : List (Key × V)}, DenK K G As F d v → DenK K G As F d' v' → DenK K G As F (d ++ d') (v ++ v')
  | _, _, _, _, .nil, h => h
  | _, _, _, _, .cons h l, h' => .cons h (DenK.app l h')
theorem putD_den {K : PySem.W.Frag} {As : List Addr} {F : Hp} {ds : List (Key × D)} {vs : List (Key × V)} {k : Key} {d : D} {v : V} (l : DenK K G As F ds vs) (h : Den K G As F d v) : DenK K G As F (putD ds k d) (putK vs k v) := by
  unfold putD putK
  rw [denK_any k l]
  split
  · exact denK_map h l
  · exact l.app (.cons h .nil)
def putAt (i : Nat) (ρ : Env) (ix v : D) : Stt → SR := fun s => match ρ[i]? with
  | some (.own (.lst xs)) => match ix with
    | .int k => match ixN xs.length k with
      | some j => .nx (ρ.set i (.own (.lst (xs.set j v)))) s
      | none => .no
    | _ => .no
  | some (.own (.dic ks)) => match ix.key with
    | some k => if ks.length < SIZE then .nx (ρ.set i (.own (.dic (putD ks k v)))) s else .no
    | none => .no
  | some (.val (.obj n)) => match s[n]? with
    | some (.lst xs) => match ix with
      | .int k => match ixN xs.length k with
        | some j => .nx ρ (s.set n (.lst (xs.set j v)))
        | none => .no
      | _ => .no
    | some (.dic ks) => match ix.key with
      | some k => if ks.length < SIZE then .nx ρ (s.set n (.dic (putD ks k v))) else .no
      | none => .no
    | _ => .no
  | _ => .no
def refAt (i : Nat) (ρ : Env) : Bool := match ρ[i]? with
  | some (.own _) => true
  | some (.val (.obj _)) => true
  | _ => false
def sPut (i : Nat) (fi fe : Env → M D) : SM := fun ρ s => if refAt i ρ then sB (fe ρ) ρ (fun v s1 => sB (fi ρ) ρ (fun ix s2 => putAt i ρ ix v s2) s1) s else .no
theorem refAt_at {K : PySem.W.Frag} {H0 H : Hp} {c : Cf} {ρ : Env} {σ : L2.St} {i : Nat} (sl : Slots K G H0 c H ρ σ) (h : refAt i ρ = true) : ∃ a, σ[i]? = some (some (.ref a)) := by
  unfold refAt at h
  split at h
  · rename_i d e
    have hl : i < σ.length := by rw [← sl.len]; exact (List.getElem?_eq_some_iff.mp e).1
    obtain ⟨a, e2, _⟩ := sl.ok i _ _ e (List.getElem?_eq_getElem hl)
    exact ⟨a, by rw [List.getElem?_eq_getElem hl, e2]⟩
  · rename_i n e
    obtain ⟨v, e3, t⟩ := sl.at e
    cases t with
    | obj _ => exact ⟨_, e3⟩
  · cases h
theorem DenL.set {K : PySem.W.Frag} {As : List Addr} {F : Hp} {d : D} {v : V} (h : Den K G As F d v) : ∀ {ds : List D} {vs : List V} (j : Nat), DenL K G As F ds vs → DenL K G As F (ds.set j d) (vs.set j v)
  | _, _, _, .nil => .nil
  | _, _, 0, .cons _ l => .cons h l
  | _, _, j + 1, .cons h' l => .cons h' (DenL.set h j l)

/-- lists and dicts -/
def rPut : TSet := fun o ix v H Q => rSetL o ix v H Q ∨ rSetD o ix v H Q
theorem put_any (hu : X.A.units + 1 < cLine) : PSet X rPut := fun pins s σ H o i v ov iv u Q I r1 r2 r3 h => h.elim (set_list pins s σ H o i v ov iv u Q I r1 r2 r3) (set_dict hu pins s σ H o i v ov iv u Q I r1 r2 r3)
theorem put_at {RP : RPT} {K : PySem.W.Frag} {c0 c : Cf} {H0 H : Hp} {ρ : Env} {σ : L2.St} {i : Nat} {v ix : D} {w y : V} {D : Ends} (x : Ext c0 H0 c H) (o : CfOk K G c H) (sl : Slots K G H0 c H ρ σ) (t : Den K G c.As c.F v w) (ti : DenT K G c H ix y)
    (p : SPost K G RP W c0 H0 (putAt i ρ ix v c.st) D) : ∃ a, σ[i]? = some (some (.ref a)) ∧ rPut (.ref a) y w H fun H' => D.nx σ H' := by
  unfold putAt at p
  split at p
  · rename_i xs e
    split at p
    · rename_i k
      split at p
      · rename_i j ej
        obtain ⟨b, eb, ⟨vs, hv, l⟩, wr⟩ := own_write (d' := .lst (xs.set j v)) x o sl e
        obtain ⟨x2, o2, sl2⟩ := wr (.lst (vs.set j w)) ⟨_, upd_same, DenL.set t j l⟩
        have := ti.int
        subst this
        exact ⟨b, eb, .inl ⟨b, vs, k, j, rfl, rfl, hv, by rw [← l.length]; exact ej, p σ c.F c.As _ x2 o2 sl2⟩⟩
      · exact p.elim
    · exact p.elim
  · rename_i ks e
    split at p
    · rename_i k ek
      split at p
      · rename_i hz
        obtain ⟨b, eb, ⟨vs, hv, l⟩, wr⟩ := own_write (d' := .dic (putD ks k v)) x o sl e
        obtain ⟨x2, o2, sl2⟩ := wr (.dK (putK vs k w)) ⟨_, upd_same, putD_den l t⟩
        have := key_denT ek ti
        subst this
        exact ⟨b, eb, .inr ⟨b, _, rfl, DPut.k hv (by rw [← DenK.length l]; exact Nat.lt_of_lt_of_le hz SIZE_le), p σ c.F c.As _ x2 o2 sl2⟩⟩
      · exact p.elim
    · exact p.elim
  · rename_i n e
    obtain ⟨v', e3, t'⟩ := sl.at e
    split at p
    · rename_i xs e2
      cases t' with
      | obj e4 =>
      split at p
      · rename_i k
        split at p
        · rename_i j ej
          obtain ⟨_, vs, hv, l⟩ := o.obj n _ _ e4 e2
          obtain ⟨x2, o2, sl2⟩ := obj_write (d' := .lst (xs.set j v)) (u := .lst (vs.set j w)) x o sl e4 ⟨_, upd_same, DenL.set t j l⟩
          have := ti.int
          subst this
          exact ⟨_, e3, .inl ⟨_, vs, k, j, rfl, rfl, hv, by rw [← l.length]; exact ej, p σ c.F c.As _ x2 o2 sl2⟩⟩
        · exact p.elim
      · exact p.elim
    · rename_i ks e2
      cases t' with
      | obj e4 =>
      split at p
      · rename_i k ek
        split at p
        · rename_i hz
          obtain ⟨_, vs, hv, l⟩ := o.obj n _ _ e4 e2
          obtain ⟨x2, o2, sl2⟩ := obj_write (d' := .dic (putD ks k v)) (u := .dK (putK vs k w)) x o sl e4 ⟨_, upd_same, putD_den l t⟩
          have := key_denT ek ti
          subst this
          exact ⟨_, e3, .inr ⟨_, _, rfl, DPut.k hv (by rw [← DenK.length l]; exact Nat.lt_of_lt_of_le hz SIZE_le), p σ c.F c.As _ x2 o2 sl2⟩⟩
        · exact p.elim
      · exact p.elim
    · exact p.elim
  · exact p.elim
theorem vs_put {x : Str} {k : NameKind} {i : Nat} {ie e : Expr} {fi fe : Env → M D} {xp tp pos : Pos} (on : On X T) (j : Nat) (hu : X.A.units + 1 < cLine) (hi : VR G X W ie fi) (he : VE G X W e fe) (h : T[j]? = some (x, k, i) := by rfl) (hv : visK k = true := by rfl)
    (ha : ∀ v, assign (.Subscript (.Name x xp) ie tp) X.env v = (do
      let ov ← holding [v] (eval (.Name x xp) X.env)
      let iv ← holding [v, ov] (eval ie X.env)
      standAt tp
      holding [v, ov, iv] (setItem ov iv v)
      release [v, ov, iv] []) := by intro _; rfl)
    (hs : swapsWithSole [.Subscript (.Name x xp) ie tp] e pos.line X.env = pure false := by rfl) (hw : swappedStores [.Subscript (.Name x xp) ie tp] e X.env = pure none := by rfl) (h1 : (assignEach [.Subscript (.Name x xp) ie tp] X.env).map (·.2) = [assign (.Subscript (.Name x xp) ie tp) X.env] := by rfl) :
    VS G X W RP (.Assign [.Subscript (.Name x xp) ie tp] e pos) (sPut i fi fe) :=
  PS.imp (ps_asg he (pg_sub (pe_var (i := i) (on.at h hv) (on.vis h hv) (on.dbg h) (on.cd h)) hi (put_any hu) ha) hs hw h1) fun D σ H ⟨c0, H0, ρ, c, x, o, sl, p⟩ => by
    by_cases hr : refAt i ρ = true
    · have p : SPost X.K G RP W c0 H0 (if refAt i ρ = true then sB (fe ρ) ρ (fun v s1 => sB (fi ρ) ρ (fun ix s2 => putAt i ρ ix v s2) s1) c.st else .no) D := p
      rw [if_pos hr] at p
      refine ⟨H0, ρ, c, o, sl, s_step x sl p fun v w c' H' x1 x' o' sl' t p' => ?_⟩
      obtain ⟨u, eu⟩ := refAt_at sl hr
      refine ⟨_, eu, H0, ρ, c', o', sl', s_step x' sl' p' fun ix y c2 H2 x2 x2' o2 sl2 ti p2 => ?_⟩
      obtain ⟨a, ea, q⟩ := put_at x2' o2 sl2 (t.mono x2.sub x2.pre) ti p2
      rw [eu] at ea; cases ea
      exact q
    · have p : SPost X.K G RP W c0 H0 (if refAt i ρ = true then sB (fe ρ) ρ (fun v s1 => sB (fi ρ) ρ (fun ix s2 => putAt i ρ ix v s2) s1) c.st else .no) D := p
      rw [if_neg hr] at p; exact p.elim
/-- target = value, the target a name or a tuple of them -/
def sAsg (g : D → Env → Option Env) (f : Env → M D) : SM := fun ρ s => sB (f ρ) ρ (fun d s' => match g d ρ with
  | some ρ' => .nx ρ' s'
  | none => .no) s
theorem vs_asg {vs : List Nat} {tg e : Expr} {g : D → Env → Option Env} {f : Env → M D} {pos : Pos} (he : VE G X W e f) (hg : VG G X tg vs g) (hs : swapsWithSole [tg] e pos.line X.env = pure false := by rfl) (hw : swappedStores [tg] e X.env = pure none := by rfl)
    (h1 : (assignEach [tg] X.env).map (·.2) = [assign tg X.env] := by rfl) : VS G X W RP (.Assign [tg] e pos) (sAsg g f) :=
  PS.imp (ps_asg he hg hs hw h1) fun D σ H ⟨c0, H0, ρ, c, x, o, sl, p⟩ =>
    ⟨H0, ρ, c, o, sl, s_step x sl p fun d v c' H' _ x' o' sl' t p' => by
      cases e : g d ρ with
      | none => rw [e] at p'; exact p'.elim
      | some ρ' => rw [e] at p'; exact ⟨H0, c', ρ, d, ρ', o', sl', t, e, fun σ2 sl2 _ => p' σ2 c'.F c'.As H' x' o' sl2⟩⟩
/-! a, b = x, y -/
def VN1 (G : ClsAt) (X : Cx) (W : WX) (own : Bool) (e : Expr) (f : Env → M D) : Prop := PE X e (if own then tN X.K G W f else tV X.K G W f)
def slotOf (own : Bool) (d : D) : Slot := if own then .own d else .val d
def sPar (i j : Nat) (w1 w2 : Bool) (f g : Env → M D) : SM := fun ρ s => sB (f ρ) ρ (fun d s1 => sB (g ρ) ρ (fun d' s2 => .nx ((ρ.set i (slotOf w1 d)).set j (slotOf w2 d')) s2) s1) s
def PVN (K : PySem.W.Frag) (G : ClsAt) (own : Bool) (Hb : Hp) : Cf → Hp → D → V → Prop := if own then POwn K G Hb else PDen K G
def tNV (K : PySem.W.Frag) (G : ClsAt) (own : Bool) (W : WX) (f : Env → M D) : TE := fun σ H Q => ∃ H0 ρ c, CfOk K G c H ∧ Slots K G H0 c H ρ σ ∧ Post K G (PVN K G own H) (fun cls dx H' => W cls dx σ H') c H (f ρ c.st) Q
theorem PVN.ext {K : PySem.W.Frag} {own : Bool} {Hb : Hp} {c c' : Cf} {H H' : Hp} {d : D} {v : V} (x : Ext c H c' H') (p : PVN K G own Hb c H d v) : PVN K G own Hb c' H' d v := by
  cases own with
  | false => exact Den.mono x.sub x.pre p
  | true =>
    obtain ⟨a, rfl, h, n, f, w⟩ := p
    have t : DenT K G c' H' d (.ref a) := DenT.ext x (.inr ⟨a, rfl, n, f, w⟩)
    obtain ⟨u, hu⟩ := w.some
    refine ⟨a, rfl, h, fun z => ?_, ?_, w.mono x.sub x.pre fun o q => x.keepO q n f⟩
    · rcases x.anew a z with z | z
      · exact n z
      · rw [hu] at z; cases z
    · cases q : c'.F a with
      | none => rfl
      | some o =>
        rcases x.new a o q with z | z
        · rw [f] at z; cases z
        · rw [hu] at z; cases z
/-- Hb: before the object came; a slot in between is kept apart -/
theorem Slots.vn {K : PySem.W.Frag} {H0 Hb H : Hp} {cb c : Cf} {ρ : Env} {σ : L2.St} {own : Bool} (sb : Slots K G H0 cb Hb ρ σ) (sl : Slots K G H0 c H ρ σ) (i : Nat) {d : D} {v : V} (h : PVN K G own Hb c H d v) (h0 : ∀ a, Hb a = none → H0 a = none) : Slots K G H0 c H (ρ.set i (slotOf own d)) (σ.set i (some v)) := by
  cases own with
  | false => exact sl.val i h
  | true => exact Slots.own sb sl i h h0
theorem ps_parV {i j : Nat} {x y : Str} {a b : Expr} {f g : Env → M D} {w1 w2 : Bool} {px py pt pos : Pos} {kt k2 pt2} (on : On X T) (jx jy : Nat) (ha : PE X a (tNV X.K G w1 W f)) (hb : PE X b (tNV X.K G w2 W g)) (hx : T[jx]? = some (x, .local, i) := by rfl) (hy : T[jy]? = some (y, .local, j) := by rfl) (hij : i ≠ j := by decide)
    (hst : starEach [a, b] X.env = (false, eval a X.env) :: starEach [b] X.env := by rfl) (hst2 : starEach [b] X.env = [(false, eval b X.env)] := by rfl)
    (hw : swappedStores [.Tuple [.Name x px, .Name y py] kt pt] (.Tuple [a, b] k2 pt2) X.env = pure (some [x, y]))
    (hs : swapsWithSole [.Tuple [.Name x px, .Name y py] kt pt] (.Tuple [a, b] k2 pt2) pos.line X.env = pure false := by rfl) :
    VS G X W RP (.Assign [.Tuple [.Name x px, .Name y py] kt pt] (.Tuple [a, b] k2 pt2) pos) (sPar i j w1 w2 f g) :=
  PS.imp (ps_par on.calm on.nd (on.at hx rfl) (on.at hy rfl) hij (on.kind hx) (on.kind hy) (pa_cons ha (pa_cons hb pa_nil hst2) hst) hw hs) fun D σ H ⟨c0, H0, ρ, c, x, o, sl, p⟩ => by
    refine ⟨H0, ρ, c, o, sl, s_step x sl p fun d v c1 H1 x1 x1' o1 sl1 t1 p1 => ⟨H0, ρ, c1, o1, sl1, s_step x1' sl1 p1 fun d' v' c2 H2 x2 x2' o2 sl2 t2 p2 => ⟨v, v', rfl, p2 _ c2.F c2.As H2 x2' o2 ?_⟩⟩⟩
    have s1 : Slots X.K G H0 c1 H1 (ρ.set i (slotOf w1 d)) (σ.set i (some v)) := Slots.vn sl sl1 i t1 fun a h => x.none h
    exact Slots.vn s1 (s1.ext x2) j t2 fun a h => x1'.none h
theorem vnv_n {e : Expr} {f : Env → M D} (h : VN G X W e f) : PE X e (tNV X.K G true W f) := h
theorem vnv_v {e : Expr} {f : Env → M D} (h : VE G X W e f) : PE X e (tNV X.K G false W f) := h

/-! while -/
def sWh (t : Env → M Bool) (m : SM) : Nat → SM
  | 0 => fun _ _ => .no
  | n + 1 => fun ρ s => sB (t ρ) ρ (fun b s1 => if b then (match m ρ s1 with
      | .nx ρ2 s2 => sWh t m n ρ2 s2
      | .ct ρ2 s2 => sWh t m n ρ2 s2
      | .bk ρ2 s2 => .nx ρ2 s2
      | r => r) else .nx ρ s1) s
open Classical in
/-- as many turns as it takes -/
noncomputable def sWhile (t : Env → M Bool) (m : SM) : SM := fun ρ s => if h : ∃ n, sWh t m n ρ s ≠ .no then sWh t m (Classical.choose h) ρ s else .no
theorem sB_no {α : Type} {x : M α} {ρ : Env} {k : α → Stt → SR} {s : Stt} (h : sB x ρ k s ≠ .no) : x s ≠ .no := fun e => h (by unfold sB; rw [e])
theorem sWh_up {t : Env → M Bool} {m : SM} : ∀ {n : Nat} {ρ : Env} {s : Stt}, sWh t m n ρ s ≠ .no → sWh t m (n + 1) ρ s = sWh t m n ρ s
  | 0, _, _, h => absurd rfl h
  | n + 1, ρ, s, h => by
    have key : ∀ {ρ : Env} {s : Stt}, sWh t m n ρ s ≠ .no → sWh t m (n + 1) ρ s = sWh t m n ρ s := fun h => sWh_up h
    unfold sWh at h
    show sB (t ρ) ρ _ s = sB (t ρ) ρ _ s
    unfold sB at h ⊢
    cases e : t ρ s with
    | no => rfl
    | err _ _ => rfl
    | ok b s1 =>
      rw [e] at h
      cases b with
      | false => rfl
      | true =>
        simp only [if_true] at h ⊢
        cases e2 : m ρ s1 with
        | nx ρ2 s2 => rw [e2] at h; exact key h
        | ct ρ2 s2 => rw [e2] at h; exact key h
        | bk _ _ => rfl
        | rt _ _ => rfl
        | err _ _ _ => rfl
        | no => rfl
theorem sWh_le {t : Env → M Bool} {m : SM} {n : Nat} {ρ : Env} {s : Stt} (h : sWh t m n ρ s ≠ .no) : ∀ k, sWh t m (n + k) ρ s = sWh t m n ρ s
  | 0 => rfl
  | k + 1 => by
    have ih := sWh_le h k
    have := sWh_up (t := t) (m := m) (n := n + k) (ρ := ρ) (s := s) (by rw [ih]; exact h)
    rw [← ih]; exact this
theorem sWhile_eq {t : Env → M Bool} {m : SM} {n : Nat} {ρ : Env} {s : Stt} (h : sWh t m n ρ s ≠ .no) : sWhile t m ρ s = sWh t m n ρ s := by
  have hx : ∃ n, sWh t m n ρ s ≠ .no := ⟨n, h⟩
  unfold sWhile
  rw [dif_pos hx]
  have h2 := Classical.choose_spec hx
  have a := sWh_le h2 n
  have b := sWh_le h (Classical.choose hx)
  rw [← a, ← b, Nat.add_comm]
theorem vs_while {te : Expr} {body : List Stmt} {t : Env → M Bool} {m : SM} {pos : Pos} (hp : PassesOwn (model X.prog X.w) X.A X.env X.xe) (ht : VT G X W te t) (hb : VSs G X W RP body m) : VS G X W RP (.While te body [] pos) (sWhile t m) :=
  PS.imp (ps_while hp ht hb) fun D σ H ⟨c0, H0, ρ, c, x, o, sl, p⟩ => by
    have hx : ∃ n, SPost X.K G RP W c0 H0 (sWh t m n ρ c.st) D := by
      unfold sWhile at p
      by_cases h : ∃ n, sWh t m n ρ c.st ≠ .no
      · rw [dif_pos h] at p; exact ⟨_, p⟩
      · rw [dif_neg h] at p; exact p.elim
    obtain ⟨n0, p⟩ := hx
    refine ⟨fun n σ H => ∃ ρ c, Ext c0 H0 c H ∧ CfOk X.K G c H ∧ Slots X.K G H0 c H ρ σ ∧ SPost X.K G RP W c0 H0 (sWh t m n ρ c.st) D, ⟨n0, ρ, c, x, o, sl, p⟩, ?_⟩
    rintro n σ H ⟨ρ, c, x, o, sl, p⟩
    cases n with
    | zero => exact p.elim
    | succ n =>
      refine ⟨H0, ρ, c, o, sl, s_step x sl p fun b b' c1 H1 x1 x1' o1 sl1 e p1 => ?_⟩
      cases (show b = b' from e)
      cases b with
      | false => exact (if_neg Bool.false_ne_true) ▸ p1 σ c1.F c1.As H1 x1' o1 sl1
      | true =>
        rw [if_pos rfl]
        have p1 : SPost X.K G RP W c0 H0 (match m ρ c1.st with
          | .nx ρ2 s2 => sWh t m n ρ2 s2
          | .ct ρ2 s2 => sWh t m n ρ2 s2
          | .bk ρ2 s2 => .nx ρ2 s2
          | r => r) D := p1
        refine ⟨fun σ H => ∃ ρ c, Ext c0 H0 c H ∧ CfOk X.K G c H ∧ Slots X.K G H0 c H ρ σ ∧ SPost X.K G RP W c0 H0 (sWh t m n ρ c.st) D, fun σ' H' h => ⟨n, Nat.lt_succ_self n, h⟩, c0, H0, ρ, c1, x1', o1, sl1, ?_⟩
        cases e2 : m ρ c1.st with
        | nx ρ2 s2 => rw [e2] at p1; exact fun σ3 F3 As3 H3 x3 o3 sl3 => ⟨ρ2, _, x3, o3, sl3, p1⟩
        | ct ρ2 s2 => rw [e2] at p1; exact fun σ3 F3 As3 H3 x3 o3 sl3 => ⟨ρ2, _, x3, o3, sl3, p1⟩
        | bk ρ2 s2 => rw [e2] at p1; exact p1
        | rt d s2 => rw [e2] at p1; exact p1
        | err e' ρ2 s2 => rw [e2] at p1; exact p1
        | no => rw [e2] at p1; exact p1.elim
end
end PV
end

section
namespace PV
open PySem PySem.Spec L2
open PyProof.Rows hiding St

/-! list comprehensions -/
def ne {α : Type} (x : M α) : M α := fun s => match x s with
  | .ok a s' => .ok a s'
  | _ => .no
def wipeE (ρ : Env) : List Nat → Env
  | [] => ρ
  | v :: vs => (wipeE ρ vs).set v .no
theorem Slots.no {K : PySem.W.Frag} {G : ClsAt} {H0 H : Hp} {c : Cf} {ρ : Env} {σ : L2.St} (sl : Slots K G H0 c H ρ σ) (i : Nat) : Slots K G H0 c H (ρ.set i .no) (σ.set i none) where
  len := by simpa using sl.len
  ok := fun j s o e1 e2 => by
    rcases get_set e1 with ⟨_, rfl, _⟩ | ⟨h1, e1⟩
    · trivial
    · rcases get_set e2 with ⟨h2, _⟩ | ⟨_, e2⟩
      · exact absurd h2 h1
      · exact sl.ok j s o e1 e2
  sep := fun j l d d' a e1 e2 e3 e4 => by
    rcases get_set e1 with ⟨_, z, _⟩ | ⟨h1, e1⟩
    · cases z
    · rcases get_set e2 with ⟨_, z, _⟩ | ⟨h2, e2⟩
      · cases z
      · rcases get_set e3 with ⟨z, _⟩ | ⟨_, e3⟩
        · exact absurd z h1
        · rcases get_set e4 with ⟨z, _⟩ | ⟨_, e4⟩
          · exact absurd z h2
          · exact sl.sep j l d d' a e1 e2 e3 e4
  mine := fun j d a e1 e2 => by
    rcases get_set e1 with ⟨_, z, _⟩ | ⟨h1, e1⟩
    · cases z
    · rcases get_set e2 with ⟨z, _⟩ | ⟨_, e2⟩
      · exact absurd z h1
      · exact sl.mine j d a e1 e2
theorem Slots.wipe {K : PySem.W.Frag} {G : ClsAt} {H0 H : Hp} {c : Cf} {ρ : Env} {σ : L2.St} (sl : Slots K G H0 c H ρ σ) : ∀ vs : List Nat, Slots K G H0 c H (wipeE ρ vs) (L2.wipe σ vs)
  | [] => sl
  | v :: vs => (Slots.wipe sl vs).no v
theorem wipe_put {σ : L2.St} {i : Nat} {o : Option V} : ∀ {vs : List Nat}, (L2.wipe (σ.set i o) vs).set i none = (L2.wipe σ vs).set i none
  | [] => by simp [L2.wipe, List.set_set]
  | j :: vs => by
    unfold L2.wipe
    by_cases e : j = i
    · subst e; rw [List.set_set, List.set_set]; exact wipe_put
    · rw [List.set_comm _ _ e, wipe_put, List.set_comm _ _ e]
theorem wipe_idem {σ : L2.St} : ∀ {vs : List Nat}, L2.wipe (L2.wipe σ vs) vs = L2.wipe σ vs
  | [] => rfl
  | j :: vs => by
    show (L2.wipe ((L2.wipe σ vs).set j none) vs).set j none = (L2.wipe σ vs).set j none
    rw [wipe_put, wipe_idem]
def lcM (g : D → Env → Option Env) (t : Env → M Bool) (e : Env → M D) (ρ : Env) : List D → M (List D)
  | [] => pure []
  | d :: ds => match g d ρ with
    | none => no
    | some ρ' => do
      let b ← ne (t ρ')
      if b then do
        let y ← ne (e ρ')
        let ys ← lcM g t e ρ ds
        pure (y :: ys)
      else lcM g t e ρ ds
/-- vs: the block's own names -/
def lcD (f : Env → M (List D)) (g : D → Env → Option Env) (t : Env → M Bool) (e : Env → M D) (vs : List Nat) : Env → M D := fun ρ => do
  let ds ← f ρ
  if ds.length < SIZE then do
    let ys ← lcM g t e (wipeE ρ vs) ds
    pure (.lst ys)
  else no
theorem ne_ok {α : Type} {x : M α} {s s' : Stt} {a : α} (h : ne x s = .ok a s') : x s = .ok a s' := by
  unfold ne at h
  cases e : x s with
  | ok b s2 => rw [e] at h; exact h
  | err _ _ => rw [e] at h; cases h
  | no => rw [e] at h; cases h
theorem ne_err {α : Type} {x : M α} {s s' : Stt} {a : Err} : ne x s ≠ .err a s' := by
  unfold ne
  cases e : x s with
  | ok b s2 => intro h; cases h
  | err _ _ => intro h; cases h
  | no => intro h; cases h
theorem bind_ok {α β : Type} {x : M α} {f : α → M β} {s s' : Stt} {b : β} (h : (x >>= f) s = .ok b s') : ∃ a s1, x s = .ok a s1 ∧ f a s1 = .ok b s' := by
  have h : M.bind x f s = .ok b s' := h
  unfold M.bind at h
  cases e : x s with
  | ok a s1 => rw [e] at h; exact ⟨a, s1, rfl, h⟩
  | err _ _ => rw [e] at h; cases h
  | no => rw [e] at h; cases h
theorem bind_err {α β : Type} {x : M α} {f : α → M β} {s s' : Stt} {b : Err} (h : (x >>= f) s = .err b s') : x s = .err b s' ∨ ∃ a s1, x s = .ok a s1 ∧ f a s1 = .err b s' := by
  have h : M.bind x f s = .err b s' := h
  unfold M.bind at h
  cases e : x s with
  | ok a s1 => rw [e] at h; exact .inr ⟨a, s1, rfl, h⟩
  | err _ _ => rw [e] at h; cases h; exact .inl rfl
  | no => rw [e] at h; cases h
theorem bind_eq {α β : Type} {x : M α} {f : α → M β} {s s' : Stt} {a : α} (h : x s = .ok a s') : (x >>= f) s = f a s' := by
  show M.bind x f s = _
  unfold M.bind
  rw [h]
section
variable {g : D → Env → Option Env} {t : Env → M Bool} {e : Env → M D} {ρ : Env}
theorem lcM_err : ∀ {ds : List D} {s s' : Stt} {x : Err}, lcM g t e ρ ds s ≠ .err x s'
  | [], _, _, _ => fun h => by cases h
  | d :: ds, s, s', x => fun h => by
    unfold lcM at h
    cases eg : g d ρ with
    | none => rw [eg] at h; cases h
    | some ρ' =>
      rw [eg] at h
      rcases bind_err h with h | ⟨b, s1, e1, h⟩
      · exact ne_err h
      · cases b with
        | false => exact lcM_err (ds := ds) h
        | true =>
          rcases bind_err h with h | ⟨y, s2, e2, h⟩
          · exact ne_err h
          · rcases bind_err h with h | ⟨ys, s3, e3, h⟩
            · exact lcM_err (ds := ds) h
            · cases h
theorem lcM_cons {d : D} {ds ys : List D} {s s' : Stt} (h : lcM g t e ρ (d :: ds) s = .ok ys s') : ∃ ρ', g d ρ = some ρ' ∧ ∃ b s1, t ρ' s = .ok b s1 ∧
    ((b = true ∧ ∃ y s2 ys', e ρ' s1 = .ok y s2 ∧ lcM g t e ρ ds s2 = .ok ys' s' ∧ ys = y :: ys') ∨ (b = false ∧ lcM g t e ρ ds s1 = .ok ys s')) := by
  unfold lcM at h
  cases eg : g d ρ with
  | none => rw [eg] at h; cases h
  | some ρ' =>
    rw [eg] at h
    obtain ⟨b, s1, e1, h⟩ := bind_ok h
    refine ⟨ρ', rfl, b, s1, ne_ok e1, ?_⟩
    cases b with
    | false => exact .inr ⟨rfl, h⟩
    | true =>
      obtain ⟨y, s2, e2, h⟩ := bind_ok h
      obtain ⟨ys', s3, e3, h⟩ := bind_ok h
      cases h
      exact .inl ⟨rfl, y, s2, ys', ne_ok e2, e3, rfl⟩
end
abbrev W0 : WX := fun _ _ _ _ => False
section
variable {X : Cx} {G : ClsAt} {W : WX} {RP : RPT} {T : NT}
theorem Ext.frz {K : PySem.W.Frag} {c c' : Cf} {H H' : Hp} {d : Addr} {od : Obj} {u u' : HO} (y : Ext c H c' H') (f : c.F d = some u') (h : H d = some (.frz od u)) (o : CfOk K G c H) : H' d = some (.frz od u) := by
  have nd : d ∉ c.As := fun z => by
    have := (o.mem z).1
    rw [f] at this; cases this
  rcases y.keep d _ h nd with k | ⟨_, ⟨ws', e⟩, _⟩
  · exact k
  · cases e
theorem lc_core {K : PySem.W.Frag} {g : D → Env → Option Env} {t : Env → M Bool} {e : Env → M D} {vs : List Nat} {H0 H1 : Hp} {c1 : Cf} {ρ : Env} {σ : L2.St} {ds ys : List D} {s' : Stt} {J : It} {Gd : Hp → Prop} (it : ItOk K G c1 Gd ds J) (hG : ∀ c H, Ext c1 H1 c H → Gd H)
    (o : CfOk K G c1 H1) (sl : Slots K G H0 c1 H1 ρ σ) (hz : ds.length < SIZE) (h : lcM g t e (wipeE ρ vs) ds c1.st = .ok ys s') {Q : VK} (fin : ∀ v F' As' H', Ext c1 H1 ⟨F', As', s'⟩ H' → CfOk K G ⟨F', As', s'⟩ H' → POwn K G H1 ⟨F', As', s'⟩ H' (.lst ys) v → Q v H') (D : Addr) (hD : H1 D = none) :
    ∃ Wf : Nat → Nat → Hp → Prop, (∃ m, Wf 0 m (upd H1 D (.lst []))) ∧ ∀ i m H, Wf i m H →
      (J.stop i H ∧ Q (.ref D) H) ∨ (J.go i H ∧ ∃ Nx : Hp → Prop, (∀ H', Nx H' → ∃ m', m' < m ∧ Wf (i + 1) m' H') ∧ ∀ x H', J.yld i H x H' → tG K G vs g x (L2.wipe σ vs) H' fun σ2 H2 => L2.wipe σ2 vs = L2.wipe σ vs ∧ tT K G W0 t σ2 H2 fun b H3 =>
        if b = true then tV K G W0 e σ2 H3 fun y H4 => ∃ acc, H4 D = some (.lst acc) ∧ acc.length < sizeLine ∧ Nx (upd H4 D (.lst (acc ++ [y]))) else Nx H3) := by
  let Pv : Nat → Hp → Prop := fun i H => ∃ (c : Cf) (acc : List PV.D) (vacc : List V) (ys' : List PV.D), Ext c1 H1 c H ∧ CfOk K G c H ∧ D ∉ c.As ∧ c.F D = none ∧ H D = some (.lst vacc) ∧ DenL K G c.As c.F acc vacc ∧ acc.length ≤ i ∧ lcM g t e (wipeE ρ vs) (ds.drop i) c.st = .ok ys' s' ∧ acc ++ ys' = ys
  have f1 : c1.F D = none := o.le.none hD
  have n1 : D ∉ c1.As := fun z => by
    obtain ⟨_, u, q⟩ := o.mem z
    rw [hD] at q; cases q
  refine ⟨fun i m H => m = ds.length - i ∧ i ≤ ds.length ∧ Pv i H, ⟨ds.length, by simp, Nat.zero_le _, c1, [], [], ys, ext_updNew (Ext.refl _ _) hD, o.updFree n1 f1, n1, f1, upd_same, .nil, Nat.le_refl _, h, rfl⟩, ?_⟩
  rintro i m H ⟨rfl, hi, c, acc, vacc, ys', x, o, nD, fD, hDv, l, hl, hm, he⟩
  by_cases hlt : i < ds.length
  · refine .inr ⟨it.go c H i x.sub x.pre o (hG c H x) hlt, Pv (i + 1), fun H' q => ⟨ds.length - (i + 1), by omega, rfl, hlt, q⟩, fun v H' y => ?_⟩
    have ei : ds[i]? = some ds[i] := List.getElem?_eq_getElem hlt
    obtain ⟨F', x2, o2, h2⟩ := it.yld c H i v H' ds[i] x.sub x.pre o (hG c H x) ei y
    rw [List.drop_eq_getElem_cons hlt] at hm
    obtain ⟨ρ', eg, b, s1, et, alt⟩ := lcM_cons hm
    have xx := x.trans x2
    refine ⟨H0, _, _, ds[i], ρ', o2, (sl.ext xx).wipe vs, h2, eg, fun σ2 sl2 w2 => ⟨w2.trans wipe_idem, H0, ρ', _, o2, sl2, ?_⟩⟩
    -- what stays of the list at D
    have stay : ∀ {cc : Cf} {HH : Hp}, Ext c H cc HH → HH D = some (.lst vacc) ∧ D ∉ cc.As ∧ cc.F D = none := fun {cc HH} xx => by
      refine ⟨xx.keepO hDv nD fD, fun z => ?_, ?_⟩
      · rcases xx.anew D z with z | z
        · exact nD z
        · rw [hDv] at z; cases z
      · cases q : cc.F D with
        | none => rfl
        | some u =>
          rcases xx.new D u q with z | z
          · rw [fD] at z; cases z
          · rw [hDv] at z; cases z
    show Post K G PBl _ ⟨F', c.As, c.st⟩ H' (t ρ' c.st) _
    rw [et]
    intro b' F3 As3 H3 x3 o3 eb
    cases (show b = b' from eb)
    have x23 := x2.trans x3
    rcases alt with ⟨rfl, y, s2, ys2, ey, hr, rfl⟩ | ⟨rfl, hr⟩
    · rw [if_pos rfl]
      refine ⟨H0, ρ', _, o3, sl2.ext x3, ?_⟩
      show Post K G (PDen K G) _ _ H3 (e ρ' s1) _
      rw [ey]
      intro w F4 As4 H4 x4 o4 tw
      have x24 := x23.trans x4
      obtain ⟨k1, k2, k3⟩ := stay x24
      refine ⟨vacc, k1, ?_, ⟨F4, As4, s2⟩, acc ++ [y], vacc ++ [w], ys2, ext_updNew (x.trans x24) hD, o4.updFree k2 k3, k2, k3, upd_same, (l.mono x24.sub x24.pre).app (.cons tw .nil), ?_, hr, ?_⟩
      · have := l.length
        have hs := SIZE_le
        omega
      · rw [List.length_append, List.length_singleton]; omega
      · rw [List.append_assoc]; exact he
    · rw [if_neg Bool.false_ne_true]
      obtain ⟨k1, k2, k3⟩ := stay x23
      exact ⟨⟨F3, As3, s1⟩, acc, vacc, ys', x.trans x23, o3, k2, k3, k1, l.mono x23.sub x23.pre, by omega, hr, he⟩
  · have ei : i = ds.length := by omega
    subst ei
    rw [List.drop_length] at hm
    cases hm
    rw [List.append_nil] at he
    subst he
    exact .inl ⟨it.stop c H x.sub x.pre o (hG c H x), fin _ c.F c.As H x o ⟨D, rfl, hD, nD, fD, vacc, hDv, l⟩⟩
theorem lc_tr {K : PySem.W.Frag} {f : Env → M (List D)} {g : D → Env → Option Env} {t : Env → M Bool} {e : Env → M D} {vs : List Nat} {σ : L2.St} {H : Hp} {Q : VK} (h : tN K G W (lcD f g t e vs) σ H Q) : tLc (tI K G W f) (tG K G vs g) (tT K G W0 t) (tV K G W0 e) vs σ H Q := by
  obtain ⟨H0, ρ, c, o, sl, p⟩ := h
  refine ⟨H0, ρ, c, o, sl, ?_⟩
  have p : Post K G (POwn K G H) _ c H (M.bind (f ρ) (fun ds => if ds.length < SIZE then (do
    let ys ← lcM g t e (wipeE ρ vs) ds
    pure (PV.D.lst ys) : M PV.D) else no) c.st) Q := p
  have p := Post.bind (P := PIt K G) p
  refine p.imp (fun _ _ _ _ _ _ q => q) (fun J H1 ⟨ds, c1, x, o1, it, p1⟩ D hD => ?_) fun _ _ _ q => q
  by_cases hz : ds.length < SIZE
  · rw [if_pos hz] at p1
    cases em : lcM g t e (wipeE ρ vs) ds c1.st with
    | no =>
      have q : (lcM g t e (wipeE ρ vs) ds >>= fun ys => (pure (.lst ys) : M PV.D)) c1.st = .no := by
        show M.bind _ _ _ = _
        unfold M.bind
        rw [em]
      rw [q] at p1; exact p1.elim
    | err x s' => exact absurd em lcM_err
    | ok ys s' =>
      rw [bind_eq em] at p1
      have fin : ∀ v F' As' H', Ext c1 H1 ⟨F', As', s'⟩ H' → CfOk K G ⟨F', As', s'⟩ H' → POwn K G H1 ⟨F', As', s'⟩ H' (.lst ys) v → Q v H' := fun v F' As' H' x' o' q => p1 v F' As' H' x' o' (let ⟨a, e1, e2, e3⟩ := q; ⟨a, e1, x.none e2, e3⟩)
      rcases it with it | ⟨d, od, ws, f1, h1, it⟩
      · exact lc_core it (fun _ _ _ => trivial) o1 (sl.ext x) hz em fin D hD
      · exact lc_core it (fun _ _ y => y.frz f1 h1 o1) o1 (sl.ext x) hz em fin D hD
  · rw [if_neg hz] at p1; exact p1.elim
abbrev VTs (G : ClsAt) (X : Cx) (W : WX) (es : List Expr) (f : Env → M Bool) : Prop := PTs X es (tT X.K G W f)
theorem vts_nil : VTs G X W [] (fun _ => pure true) := ⟨fun pins s σ H Q I ⟨H0, ρ, c, o, sl, p⟩ => pts_nil.run pins s σ H Q I (Post.here (P := PBl) (a := true) p o (fun _ _ h => h) rfl)⟩
theorem vts_one {c : Expr} {f : Env → M Bool} (h : VT G X W c f) : VTs G X W [c] f := pts_one h
theorem vn_lc {elt tg iter : Expr} {ifs : List Expr} {scope : Scope} {own : List (Str × Nat)} {vs : List Nat} {pos : Pos} {f : Env → M (List D)} {g : D → Env → Option Env} {t : Env → M Bool} {e : Env → M D} (on : On X T) (hi : VI G X W tg iter f) (ok : BlkOk X.N X.env.scope scope own) (hv : own.map (·.2) = vs)
    (hg : ∀ (s : Shared) (H : Hp) (C : Addr) (cl : List (Str × Addr)) (fp : List Addr), VG G (X.blk s H scope (compEnvC scope cl C X.env) fp) tg vs g) (ht : ∀ (s : Shared) (H : Hp) (C : Addr) (cl : List (Str × Addr)) (fp : List Addr), VTs G (X.blk s H scope (compEnvC scope cl C X.env) fp) W0 ifs t)
    (he : ∀ (s : Shared) (H : Hp) (C : Addr) (cl : List (Str × Addr)) (fp : List Addr), VE G (X.blk s H scope (compEnvC scope cl C X.env) fp) W0 elt e) (hs : ∀ x, foldedSetIterable iter X.env x = pure x := by intro _; rfl) :
    VN G X W (.ListComp elt [⟨tg, iter, ifs, 0⟩] scope pos) (lcD f g t e vs) := by
  subst hv
  exact PE.imp (pe_lc on.calm on.nd hi ok hg ht he hs) fun σ H Q h => lc_tr h
/-- name = [..] on one line, the name a plain local -/
theorem vs_setLc {x : Str} {i : Nat} {px spos : Pos} {elt tg iter : Expr} {ifs : List Expr} {scope : Scope} {own : List (Str × Nat)} {vs : List Nat} {pos : Pos} {f : Env → M (List D)} {g : D → Env → Option Env} {t : Env → M Bool} {e : Env → M D} (on : On X T) (j : Nat) (hi : VI G X W tg iter f) (ok : BlkOk X.N X.env.scope scope own) (hv : own.map (·.2) = vs)
    (hg : ∀ (s : Shared) (H : Hp) (C : Addr) (cl : List (Str × Addr)) (fp : List Addr), VG G (X.blk s H scope (compEnvC scope cl C X.env) fp) tg vs g) (ht : ∀ (s : Shared) (H : Hp) (C : Addr) (cl : List (Str × Addr)) (fp : List Addr), VTs G (X.blk s H scope (compEnvC scope cl C X.env) fp) W0 ifs t)
    (he : ∀ (s : Shared) (H : Hp) (C : Addr) (cl : List (Str × Addr)) (fp : List Addr), VE G (X.blk s H scope (compEnvC scope cl C X.env) fp) W0 elt e) (hk : X.env.scope.kind = .function)
    (hl : (px.line == pos.line) = true := by rfl) (ha : (scope.names.any fun (n, k) => n == x && (k == .local || k == .cell)) = false := by decide) (hj : T[j]? = some (x, .local, i) := by rfl) (hs : ∀ x, foldedSetIterable iter X.env x = pure x := by intro _; rfl) :
    VS G X W RP (.Assign [.Name x px] (.ListComp elt [⟨tg, iter, ifs, 0⟩] scope pos) spos) (sSetO i (lcD f g t e vs)) := by
  subst hv
  exact PS.imp (ps_setLc on.calm on.nd (on.at hj rfl) (on.kind hj) (sw_true hk (on.kind hj) hl ha) hi ok hg ht he hs) fun D σ H ⟨c0, H0, ρ, c, x, o, sl, p⟩ => lc_tr
    ⟨H0, ρ, c, o, sl, s_step x sl p fun d v c' H' _ x' o' sl' q p' => p' _ c'.F c'.As H' x' o' (Slots.own sl sl' i q fun a => x.none)⟩
/-- what the block's context gives -/
theorem on_blk {N : List Str} {sc scope : Scope} {T' : NT} (hc : X.calm = true) (hn : X.N = N) (hs : X.env.scope = sc) (nd : N.Nodup) (h : ntB (relS scope sc) N T' = true) : ∀ (s : Shared) (H : Hp) (C : Addr) (cl : List (Str × Addr)) (fp : List Addr), On (X.blk s H scope (compEnvC scope cl C X.env) fp) T' :=
  fun s H C cl fp => On.of hc hn (by show relS scope X.env.scope = _; rw [hs]) nd h
theorem takes0 : Takes X W0 := fun _ _ ⟨_, _, _, _, _, _, _, _, _, _, _, _, _, _, _, _, w⟩ => w.elim
end
end PV
end

section
namespace PV
open PySem PySem.Spec L2
open PyProof.Rows hiding St

/-! calls of defs -/
/-- the chosen ones -/
def pk {α : Type} (is : List Nat) (l : List α) : List α := is.filterMap fun i => l[i]?
theorem pk_vals {vs : List V} {us : List Value} (h : Vals vs us) : ∀ is : List Nat, Vals (pk is vs) (pk is us)
  | [] => .nil
  | i :: is => by
    have ih := pk_vals h is
    unfold pk at ih ⊢
    rw [List.filterMap_cons, List.filterMap_cons]
    cases e : vs[i]? with
    | none =>
      have hl := h.length
      have : us[i]? = none := by
        rw [List.getElem?_eq_none_iff] at e ⊢; omega
      rw [this]; exact ih
    | some v =>
      obtain ⟨u, hu, r⟩ := h.get e
      rw [hu]; exact .cons r ih
theorem pk_den {K : PySem.W.Frag} {G : ClsAt} {As : List Addr} {F : Hp} {ds : List D} {vs : List V} (h : DenL K G As F ds vs) : ∀ is : List Nat, DenL K G As F (pk is ds) (pk is vs)
  | [] => .nil
  | i :: is => by
    have ih := pk_den h is
    unfold pk at ih ⊢
    rw [List.filterMap_cons, List.filterMap_cons]
    cases e : vs[i]? with
    | none =>
      have hl := h.length
      have : ds[i]? = none := by
        rw [List.getElem?_eq_none_iff] at e ⊢; omega
      rw [this]; exact ih
    | some v =>
      obtain ⟨d, hd, r⟩ := h.get e
      rw [hd]; exact .cons r ih
theorem Vals.app {a b : List V} {us vs : List Value} (h : Vals a us) (h' : Vals b vs) : Vals (a ++ b) (us ++ vs) := by
  induction h with
  | nil => exact h'
  | cons r _ ih => exact .cons r ih
/-- a form of call of a def without defaults -/
def fmt (is : List Nat) : List D → List D → List D := fun ds dk => pk is (ds ++ dk)
theorem bnd0 {K : PySem.W.Frag} {G : ClsAt} {x qual : Str} {params : Arguments} {body : List Stmt} {scope : Scope} {f : Addr} {fd : FuncData} {ps : List Str} (F : FunD K x qual params body scope [] [] f fd) (n : Nat) (ks : List Str) (is : List Nat)
    (h : ∀ (kV doc pm : Value) (an : Option Addr) (cdv ct : Value) (us ws : List Value), us.length = n → ws.length = ks.length → bindArgs (PySem.W.fnOf x qual params body scope .none kV doc pm an cdv ct) ⟨us, ks.zip ws⟩ = pure (ps.zip (pk is (us ++ ws)))) : Bnd K G fd ps n ks (fmt is) := by
  obtain ⟨oc, od, dV, kV, doc, pm, an, cdv, ct, osl, rfl, lk, hcd, hD, hK⟩ := F.ex
  rcases hD with ⟨_, rfl⟩ | ⟨e, _⟩
  · refine ⟨fun us ws => pk is (us ++ ws), fun vs zs => pk is (vs ++ zs), ⟨fun s us ws hin e1 e2 => .of_eq (h kV doc pm an cdv ct us ws e1 e2), fun r1 r2 => pk_vals (Vals.app r1 r2) is⟩, fun h1 h2 l1 l2 => pk_den (l1.app l2) is⟩
  · exact absurd rfl e
def callM (n nk np : Nat) (gD : List D → List D → List D) (m : List D → M D) (ds dk : List D) : M D := if ds.length = n ∧ dk.length = nk ∧ (gD ds dk).length = np then m (gD ds dk) else no
section
variable {P : Program} {w : World} {K : PySem.W.Frag} {mg : Str → Option Value} {base : Heap} {X : Cx} {G : ClsAt} {W : WX} {T : NT} {x : Str} {i k j n np : Nat} {fs : List Form} {m : List D → M D} {ks : List Str} {gD : List D → List D → List D} {tj : Nat}
theorem ve_calls {RP : RPT} {PP : Hp → Cf → Hp → D → V → Prop} {e : Expr} {es : List Expr} {kws : List Keyword} {fa fk : Env → M (List D)} {p pos : Pos} (inn : In X P w K mg base) (on : On X T) (hr : Room j X.A) (tk : Takes X W) (C : Cal P w K mg base G k np x RP fs m) (hkj : k ≤ j) (h : T[tj]? = some (x, .globalImplicit, i))
    (hRP : ∀ {c c' c2 H H' H2 d v}, Ext c H c' H' → RP H' c2 H2 d v → PP H c2 H2 d v)
    (hf : (n, ks, gD) ∈ fs) (ha : VA G X W (e :: es) fa) (hkw : VK2 G X W kws fk)
    (he : starEach (e :: es) X.env = (false, eval e X.env) :: starEach es X.env) (hall : (backToKw pos (keywordEach kws X.env)).all (·.1.isSome) = true) (hks : (backToKw pos (keywordEach kws X.env)).filterMap (·.1) = ks)
    (hpl : ((backTo pos (starEach (e :: es) X.env)).any (·.1) || (backToKw pos (keywordEach kws X.env)).any (·.1.isNone)) = false) :
    PE X (.Call (.Name x p) (e :: es) kws pos) (fun σ H Q => ∃ H0 ρ c, CfOk X.K G c H ∧ Slots X.K G H0 c H ρ σ ∧ Post X.K G (PP H) (fun cls dx H' => W cls dx σ H') c H ((do let ds ← fa ρ; let dk ← fk ρ; callM n ks.length np gD m ds dk) c.st) Q) := by
  obtain ⟨hP, hw, hK, hmg, hb⟩ := inn
  subst hP hw hK hmg hb
  obtain ⟨f, fd, ps, hnp, F, hm, hk, B⟩ := C.ex
  refine PE.imp (pe_cal F (B _ hf) (hr.mono hkj) tk (on.gl h) hm hk ha hkw (on.dbg h) he hall hks hpl) fun σ H Q ⟨H0, ρ, c, o, sl, p⟩ => tL_step rfl o sl p fun ds vs c1 H1 x1 o1 sl1 t1 p1 => tL_step rfl o1 sl1 p1 fun dk zs c2 H2 x2 o2 sl2 t2 p2 => ?_
  have p2 : Post X.K G (PP H) _ c2 H2 ((if ds.length = n ∧ dk.length = ks.length ∧ (gD ds dk).length = np then m (gD ds dk) else no) c2.st) Q := p2
  by_cases hc : ds.length = n ∧ dk.length = ks.length ∧ (gD ds dk).length = np
  · rw [if_pos hc] at p2
    exact ⟨c2, ds, dk, o2, t1.mono x2.sub x2.pre, t2, hc.1, hc.2.1, by rw [hnp]; exact hc.2.2, p2.imp (fun _ _ _ _ _ _ q => hRP (x1.trans x2) q) (fun _ _ q => q) fun _ _ _ q => q⟩
  · rw [if_neg hc] at p2; exact p2.elim
theorem ve_calls0 {RP : RPT} {PP : Hp → Cf → Hp → D → V → Prop} {kws : List Keyword} {fk : Env → M (List D)} {p pos : Pos} (inn : In X P w K mg base) (on : On X T) (hr : Room j X.A) (tk : Takes X W) (C : Cal P w K mg base G k np x RP fs m) (hkj : k ≤ j) (h : T[tj]? = some (x, .globalImplicit, i))
    (hRP : ∀ {c c' c2 H H' H2 d v}, Ext c H c' H' → RP H' c2 H2 d v → PP H c2 H2 d v)
    (hf : (n, ks, gD) ∈ fs) (hn : n = 0) (hkw : VK2 G X W kws fk)
    (hall : (backToKw pos (keywordEach kws X.env)).all (·.1.isSome) = true) (hks : (backToKw pos (keywordEach kws X.env)).filterMap (·.1) = ks)
    (hpl : ((backTo pos (starEach ([] : List Expr) X.env)).any (·.1) || (backToKw pos (keywordEach kws X.env)).any (·.1.isNone)) = false) :
    PE X (.Call (.Name x p) [] kws pos) (fun σ H Q => ∃ H0 ρ c, CfOk X.K G c H ∧ Slots X.K G H0 c H ρ σ ∧ Post X.K G (PP H) (fun cls dx H' => W cls dx σ H') c H ((do let dk ← fk ρ; callM 0 ks.length np gD m [] dk) c.st) Q) := by
  obtain ⟨hP, hw, hK, hmg, hb⟩ := inn
  subst hP hw hK hmg hb
  subst hn
  obtain ⟨f, fd, ps, hnp, F, hm, hk, B⟩ := C.ex
  refine PE.imp (pe_cal0 F (B _ hf) (hr.mono hkj) tk (on.gl h) hm hk hkw (on.dbg h) hall hks hpl) fun σ H Q ⟨H0, ρ, c, o, sl, p⟩ => tL_step rfl o sl p fun dk zs c2 H2 x2 o2 sl2 t2 p2 => ?_
  have p2 : Post X.K G (PP H) _ c2 H2 ((if ([] : List D).length = 0 ∧ dk.length = ks.length ∧ (gD [] dk).length = np then m (gD [] dk) else no) c2.st) Q := p2
  by_cases hc : ([] : List D).length = 0 ∧ dk.length = ks.length ∧ (gD [] dk).length = np
  · rw [if_pos hc] at p2
    exact ⟨c2, [], dk, o2, .nil, t2, rfl, hc.2.1, by rw [hnp]; exact hc.2.2, p2.imp (fun _ _ _ _ _ _ q => hRP x2 q) (fun _ _ q => q) fun _ _ _ q => q⟩
  · rw [if_neg hc] at p2; exact p2.elim
theorem rp_den {K : PySem.W.Frag} {c c' c2 : Cf} {H H' H2 : Hp} {d : D} {v : V} (_ : Ext c H c' H') (h : rDen K G H' c2 H2 d v) : PDen K G c2 H2 d v := h
theorem rp_own {K : PySem.W.Frag} {c c' c2 : Cf} {H H' H2 : Hp} {d : D} {v : V} (x : Ext c H c' H') (h : rOwn K G H' c2 H2 d v) : POwn K G H c2 H2 d v := POwn.entry x h

/-! one's own to the store -/
theorem own_store {K : PySem.W.Frag} {c0 c : Cf} {H0 H : Hp} {ρ : Env} {σ : L2.St} {i : Nat} {d : D} (x : Ext c0 H0 c H) (o : CfOk K G c H) (sl : Slots K G H0 c H ρ σ) (e : ρ[i]? = some (.own d)) :
    ∃ a, Ext c0 H0 ⟨c.F, c.As ++ [a], c.st ++ [d]⟩ H ∧ CfOk K G ⟨c.F, c.As ++ [a], c.st ++ [d]⟩ H ∧ Slots K G H0 ⟨c.F, c.As ++ [a], c.st ++ [d]⟩ H (ρ.set i (.val (.obj c.st.length))) σ := by
  have hl : i < σ.length := by rw [← sl.len]; exact (List.getElem?_eq_some_iff.mp e).1
  obtain ⟨a, e2, f, n, w⟩ := sl.ok i _ _ e (List.getElem?_eq_getElem hl)
  have e3 : σ[i]? = some (some (.ref a)) := by rw [List.getElem?_eq_getElem hl, e2]
  have h0 := sl.mine i d a e e3
  have pre : c.As <+: c.As ++ [a] := List.prefix_append _ _
  refine ⟨a, ⟨fun b v h m => x.keep b v h m, x.there, x.sub, x.new, x.pre.trans pre, fun b hb => ?_⟩, ⟨o.le, by simp [o.len], ?_, fun j b d1 e1 e4 => ?_⟩, ⟨by simpa using sl.len, fun j s oo e1 e9 => ?_, fun j l d1 d2 b e1 e2 e4 e5 => ?_, fun j d1 b e1 e9 => ?_⟩⟩
  · rcases List.mem_append.mp hb with hb | hb
    · exact x.anew b hb
    · have : b = a := by simpa using hb
      subst this; exact .inr h0
  · refine List.nodup_append.mpr ⟨o.nd, by simp, fun p hp q hq => ?_⟩
    have : q = a := by simpa using hq
    subst this
    exact fun z => n (z ▸ hp)
  · have e1 : (c.As ++ [a])[j]? = some b := e1
    have e4 : (c.st ++ [d])[j]? = some d1 := e4
    by_cases hj : j < c.As.length
    · rw [List.getElem?_append_left hj] at e1
      rw [List.getElem?_append_left (by rw [← o.len]; exact hj)] at e4
      obtain ⟨q1, q2⟩ := o.obj j b d1 e1 e4
      exact ⟨q1, q2.mono (Sub.refl _) pre fun _ q => q⟩
    · have hj2 : j = c.As.length := by
        have := (List.getElem?_eq_some_iff.mp e1).1
        simp at this; omega
      subst hj2
      rw [List.getElem?_append_right (Nat.le_refl _)] at e1
      rw [List.getElem?_append_right (by rw [o.len]; exact Nat.le_refl _), o.len] at e4
      simp at e1 e4
      subst e1 e4
      exact ⟨f, (w.mono (Sub.refl _) pre fun _ q => q).ob⟩
  · rcases get_set e1 with ⟨rfl, rfl, _⟩ | ⟨hj, e1⟩
    · rw [e3] at e9; cases e9
      refine ⟨_, rfl, .obj ?_⟩
      show (c.As ++ [a])[c.st.length]? = _
      rw [← o.len]; simp
    · have k := sl.ok j s oo e1 e9
      cases s with
      | no => trivial
      | val d1 => obtain ⟨v, rfl, k⟩ := k; exact ⟨v, rfl, k.mono (Sub.refl _) pre⟩
      | own d1 =>
        obtain ⟨b, rfl, f1, n1, w1⟩ := k
        have z : b ≠ a := fun z => hj (sl.sep j i d1 d a e1 e (by rw [← z]; exact e9) e3)
        refine ⟨b, rfl, f1, fun hb => ?_, w1.mono (Sub.refl _) pre fun v q => q⟩
        rcases List.mem_append.mp hb with hb | hb
        · exact n1 hb
        · exact z (by simpa using hb)
  · rcases get_set e1 with ⟨_, z, _⟩ | ⟨_, e1⟩
    · cases z
    · rcases get_set e2 with ⟨_, z, _⟩ | ⟨_, e2⟩
      · cases z
      · exact sl.sep j l d1 d2 b e1 e2 e4 e5
  · rcases get_set e1 with ⟨_, z, _⟩ | ⟨_, e1⟩
    · cases z
    · exact sl.mine j d1 b e1 e9
def sSto (i : Nat) : SM := fun ρ s => match ρ[i]? with
  | some (.own d) => .nx (ρ.set i (.val (.obj s.length))) (s ++ [d])
  | _ => .no
theorem vss_sto {RP : RPT} {s : List Stmt} {m : SM} (i : Nat) (h : VSs G X W RP s m) : VSs G X W RP s (sSeq (sSto i) m) := PSs.imp h fun D σ H ⟨c0, H0, ρ, c, x, o, sl, p⟩ => by
  unfold sSeq sSto at p
  cases e : ρ[i]? with
  | none => rw [e] at p; exact p.elim
  | some s =>
    rw [e] at p
    cases s with
    | no => exact p.elim
    | val d => exact p.elim
    | own d =>
      obtain ⟨a, x2, o2, sl2⟩ := own_store x o sl e
      exact ⟨c0, H0, _, _, x2, o2, sl2, p⟩
end
/-- a < b < c as a value -/
theorem ve_chain {X : Cx} {G : ClsAt} {W : WX} {a b d : Expr} {f g h : Env → M D} {op op' : CmpOp} {r r' : R2} {F2 F2' : D → D → M D} {pos : Pos} (ho : OpR X (compareOp op) r) (h2 : Op2 X G r (P0 X G) F2) (ho' : OpR X (compareOp op') r') (h2' : Op2 X G r' (P0 X G) F2') (ha : VR G X W a f) (hb : VR G X W b g) (hc : VR G X W d h) (hm : lastMarks [op, op'] [b, d] = false := by rfl) :
    VE G X W (.Compare a [op, op'] [b, d] pos) (fun ρ => do let x ← f ρ; let y ← g ρ; let z ← F2 x y; let k ← asB z; if k then do let u ← h ρ; F2' y u else pure (.bl false)) :=
  PE.imp (pe_chain ho ho' ha hb hc hm) fun σ H Q ⟨H0, ρ, c, o, sl, p⟩ => tR_step rfl o sl p fun x v c1 H1 x1 o1 sl1 t1 p1 => tR_step rfl o1 sl1 p1 fun y w c2 H2 x2 o2 sl2 t2 p2 => h2 _ _ _ _ _ _ _ _ o2 (t1.ext x2) t2
    ((Post.bind (P := PDen X.K G) p2).imp (fun _ _ _ _ _ _ p => p) (fun v3 H3 ⟨d3, c3, x3, o3, q, r⟩ => by
      cases d3 with
      | bl k =>
        cases q
        refine ⟨k, rfl, ?_⟩
        cases k with
        | false => exact iteF (r.here o3 (fun _ _ h => h) .bl)
        | true =>
          refine iteT ?_
          exact tR_step rfl o3 (sl2.ext x3) r fun u w2 c4 H4 x4 o4 sl4 t4 p4 => h2' _ _ _ _ _ _ _ _ o4 (t2.ext (x3.trans x4)) t4 p4
      | _ => exact r.elim) fun _ _ _ z => z)
/-- what each def's context gives -/
structure Ct (P : Program) (w : World) (K : PySem.W.Frag) (mg : Str → Option Value) (base : Heap) (N : List Str) (sc : Scope) (T : NT) (k : Nat) (X : Cx) (W : WX) : Prop where
  inn : In X P w K mg base
  on : On X T
  n : X.N = N
  s : X.env.scope = sc
  nd : N.Nodup
  kd : sc.kind = .function
  room : Room k X.A
  tk : Takes X W
section
variable {P : Program} {w : World} {K : PySem.W.Frag} {mg : Str → Option Value} {base : Heap} {N : List Str} {sc : Scope} {T : NT} {k : Nat} {X : Cx} {W : WX}
theorem Ct.hu (c : Ct P w K mg base N sc T k X W) : X.A.units + 1 < cLine := by have := c.room.units; omega
theorem Ct.mg' (c : Ct P w K mg base N sc T k X W) {x : Str} {o : Option Value} (h : mg x = o) : X.mg x = o := by rw [c.inn.mg]; exact h
theorem Ct.kd' (c : Ct P w K mg base N sc T k X W) : X.env.scope.kind = .function := by rw [c.s]; exact c.kd
theorem Ct.calm (c : Ct P w K mg base N sc T k X W) : X.calm = true := c.on.calm
theorem Ct.blk (c : Ct P w K mg base N sc T k X W) {scope : Scope} (T' : NT) (h : ntB (relS scope sc) N T' = true) (hk : (relS scope sc).kind = .function) (s : Shared) (H : Hp) (C : Addr) (cl : List (Str × Addr)) (fp : List Addr) :
    Ct P w K mg base N (relS scope sc) T' k (X.blk s H scope (compEnvC scope cl C X.env) fp) W0 :=
  have hs : (X.blk s H scope (compEnvC scope cl C X.env) fp).env.scope = relS scope sc := by show relS scope X.env.scope = _; rw [c.s]
  ⟨⟨c.inn.p, c.inn.w, c.inn.K, c.inn.mg, c.inn.b⟩, On.of c.on.calm c.n hs c.nd h, c.n, hs, c.nd, hk, c.room, takes0⟩
end
end PV
end

section
namespace PV
open PySem PySem.Spec L2
open PyProof.Rows hiding St
section
variable {X : Cx} {G : ClsAt} {W : WX}
theorem vt_isN {a : Expr} {f : Env → M D} {j : Nat} {pos pos' : Pos} (h : VR G X W a f) : VT G X W (.Compare a [.Is] [.Constant .none j pos'] pos) (fun ρ => do let x ← f ρ; pure (isNonB x)) :=
  PT.imp (pt_cmp (pc_isN h) (by rfl)) fun σ H Q ⟨H0, ρ, c, o, sl, p⟩ => tR_step rfl o sl p fun x v c1 H1 x1 o1 sl1 t1 p1 => by rw [isNon_of t1]; exact ⟨_, rfl, Post.here (P := PBl) p1 o1 (fun _ _ h => h) rfl⟩
theorem vt_notN {a : Expr} {f : Env → M D} {j : Nat} {pos pos' : Pos} (h : VR G X W a f) : VT G X W (.Compare a [.IsNot] [.Constant .none j pos'] pos) (fun ρ => do let x ← f ρ; pure !(isNonB x)) :=
  PT.imp (pt_cmp (pc_notN h) (by rfl)) fun σ H Q ⟨H0, ρ, c, o, sl, p⟩ => tR_step rfl o sl p fun x v c1 H1 x1 o1 sl1 t1 p1 => by rw [isNon_of t1]; exact ⟨_, rfl, Post.here (P := PBl) p1 o1 (fun _ _ h => h) rfl⟩
end
/-! short names for mirrors -/
abbrev kI (i : Int) : Env → M D := fun _ => pure (.int i)
abbrev kS (s : Str) : Env → M D := fun _ => pure (.str s)
abbrev kB (b : Bool) : Env → M D := fun _ => pure (.bl b)
abbrev kN : Env → M D := fun _ => pure .non
abbrev e1 {α β : Type} (F : α → M β) (f : Env → M α) : Env → M β := fun ρ => do let x ← f ρ; F x
abbrev e2 {α β γ : Type} (F : α → β → M γ) (f : Env → M α) (g : Env → M β) : Env → M γ := fun ρ => do let x ← f ρ; let y ← g ρ; F x y
abbrev eNil : Env → M (List D) := fun _ => pure []
abbrev eCons (f : Env → M D) (g : Env → M (List D)) : Env → M (List D) := fun ρ => do let x ← f ρ; let xs ← g ρ; pure (x :: xs)
abbrev tCmp (F : D → D → M D) (f g : Env → M D) : Env → M Bool := fun ρ => do let x ← f ρ; let y ← g ρ; let z ← F x y; asB z
abbrev tChn (F F' : D → D → M D) (f g h : Env → M D) : Env → M Bool := fun ρ => do let x ← f ρ; let y ← g ρ; let z ← F x y; let k ← asB z; if k then do let u ← h ρ; let z2 ← F' y u; asB z2 else pure false
abbrev eChn (F F' : D → D → M D) (f g h : Env → M D) : Env → M D := fun ρ => do let x ← f ρ; let y ← g ρ; let z ← F x y; let k ← asB z; if k then do let u ← h ρ; F' y u else pure (.bl false)
abbrev tNot (f : Env → M Bool) : Env → M Bool := fun ρ => do let b ← f ρ; pure !b
abbrev tAnd (f g : Env → M Bool) : Env → M Bool := fun ρ => do let x ← f ρ; if x then g ρ else pure false
abbrev tOr (f g : Env → M Bool) : Env → M Bool := fun ρ => do let x ← f ρ; if x then pure true else g ρ
abbrev eAnd (f g : Env → M D) : Env → M D := fun ρ => do let x ← f ρ; let k ← asB x; if k then g ρ else pure (.bl false)
abbrev eOr (f g : Env → M D) : Env → M D := fun ρ => do let x ← f ρ; let k ← asB x; if k then pure (.bl true) else g ρ
abbrev eIf (k : Env → M Bool) (f g : Env → M D) : Env → M D := fun ρ => do let x ← k ρ; if x then f ρ else g ρ
abbrev eIsi (sb : Sub1) (f : Env → M D) : Env → M D := fun ρ => do let x ← f ρ; let b ← isiD sb x; pure (.bl b)
abbrev eIsiT (sbs : List Sub1) (f : Env → M D) : Env → M D := fun ρ => do let x ← f ρ; let b ← isiAny sbs x; pure (.bl b)
abbrev eIsN (f : Env → M D) : Env → M D := fun ρ => do let x ← f ρ; pure (.bl (isNonB x))
abbrev eNotN (f : Env → M D) : Env → M D := fun ρ => do let x ← f ρ; pure (.bl !(isNonB x))
abbrev tIsN (f : Env → M D) : Env → M Bool := fun ρ => do let x ← f ρ; pure (isNonB x)
abbrev tNotN (f : Env → M D) : Env → M Bool := fun ρ => do let x ← f ρ; pure !(isNonB x)
abbrev eJoin (f g : Env → M D) : Env → M D := fun ρ => do let x ← f ρ; let a ← asS x; let y ← g ρ; joinD a y
abbrev eSl (F : D → Option Int → Option Int → M D) (f : Env → M D) (l h : Env → M (Option Int)) : Env → M D := fun ρ => do let x ← f ρ; let lo ← l ρ; let hi ← h ρ; F x lo hi
abbrev pN : Env → M (Option Int) := fun _ => pure none
abbrev eCal (n nk np : Nat) (gD : List D → List D → List D) (m : List D → M D) (fa fk : Env → M (List D)) : Env → M D := fun ρ => do let ds ← fa ρ; let dk ← fk ρ; callM n nk np gD m ds dk
abbrev eCal0 (nk np : Nat) (gD : List D → List D → List D) (m : List D → M D) (fk : Env → M (List D)) : Env → M D := fun ρ => do let dk ← fk ρ; callM 0 nk np gD m [] dk
abbrev tYesM : Env → M Bool := fun _ => pure true
section
variable {P : Program} {w : World} {K : PySem.W.Frag} {mg : Str → Option Value} {base : Heap} {N : List Str} {sc : Scope} {T : NT} {X : Cx} {G : ClsAt} {W : WX} {x : Str} {i k j n np tj : Nat} {fs : List Form} {m : List D → M D} {ks : List Str} {gD : List D → List D → List D}
theorem ve_call {e : Expr} {es : List Expr} {kws : List Keyword} {fa fk : Env → M (List D)} {p pos : Pos} (c : Ct P w K mg base N sc T j X W) (C : Cal P w K mg base G k np x (rDen K G) fs m) (hkj : k ≤ j) (tj : Nat) (hf : (n, ks, gD) ∈ fs) (ha : VA G X W (e :: es) fa) (hkw : VK2 G X W kws fk) (h : T[tj]? = some (x, .globalImplicit, i) := by rfl)
    (he : starEach (e :: es) X.env = (false, eval e X.env) :: starEach es X.env := by rfl) (hall : (backToKw pos (keywordEach kws X.env)).all (·.1.isSome) = true := by rfl) (hks : (backToKw pos (keywordEach kws X.env)).filterMap (·.1) = ks := by rfl)
    (hpl : ((backTo pos (starEach (e :: es) X.env)).any (·.1) || (backToKw pos (keywordEach kws X.env)).any (·.1.isNone)) = false := by rfl) : VE G X W (.Call (.Name x p) (e :: es) kws pos) (eCal n ks.length np gD m fa fk) :=
  ve_calls (PP := fun _ => PDen X.K G) c.inn c.on c.room c.tk C hkj h (fun _ q => by rw [c.inn.K]; exact q) hf ha hkw he hall hks hpl
theorem vn_call {e : Expr} {es : List Expr} {kws : List Keyword} {fa fk : Env → M (List D)} {p pos : Pos} (c : Ct P w K mg base N sc T j X W) (C : Cal P w K mg base G k np x (rOwn K G) fs m) (hkj : k ≤ j) (tj : Nat) (hf : (n, ks, gD) ∈ fs) (ha : VA G X W (e :: es) fa) (hkw : VK2 G X W kws fk) (h : T[tj]? = some (x, .globalImplicit, i) := by rfl)
    (he : starEach (e :: es) X.env = (false, eval e X.env) :: starEach es X.env := by rfl) (hall : (backToKw pos (keywordEach kws X.env)).all (·.1.isSome) = true := by rfl) (hks : (backToKw pos (keywordEach kws X.env)).filterMap (·.1) = ks := by rfl)
    (hpl : ((backTo pos (starEach (e :: es) X.env)).any (·.1) || (backToKw pos (keywordEach kws X.env)).any (·.1.isNone)) = false := by rfl) : VN G X W (.Call (.Name x p) (e :: es) kws pos) (eCal n ks.length np gD m fa fk) :=
  ve_calls (PP := fun H => POwn X.K G H) c.inn c.on c.room c.tk C hkj h (fun x1 q => by rw [c.inn.K]; exact POwn.entry x1 q) hf ha hkw he hall hks hpl
theorem ve_call0 {kws : List Keyword} {fk : Env → M (List D)} {p pos : Pos} (c : Ct P w K mg base N sc T j X W) (C : Cal P w K mg base G k np x (rDen K G) fs m) (hkj : k ≤ j) (tj : Nat) (hf : (0, ks, gD) ∈ fs) (hkw : VK2 G X W kws fk) (h : T[tj]? = some (x, .globalImplicit, i) := by rfl)
    (hall : (backToKw pos (keywordEach kws X.env)).all (·.1.isSome) = true := by rfl) (hks : (backToKw pos (keywordEach kws X.env)).filterMap (·.1) = ks := by rfl)
    (hpl : ((backTo pos (starEach ([] : List Expr) X.env)).any (·.1) || (backToKw pos (keywordEach kws X.env)).any (·.1.isNone)) = false := by rfl) : VE G X W (.Call (.Name x p) [] kws pos) (eCal0 ks.length np gD m fk) :=
  ve_calls0 (PP := fun _ => PDen X.K G) c.inn c.on c.room c.tk C hkj h (fun _ q => by rw [c.inn.K]; exact q) hf rfl hkw hall hks hpl
theorem vn_call0 {kws : List Keyword} {fk : Env → M (List D)} {p pos : Pos} (c : Ct P w K mg base N sc T j X W) (C : Cal P w K mg base G k np x (rOwn K G) fs m) (hkj : k ≤ j) (tj : Nat) (hf : (0, ks, gD) ∈ fs) (hkw : VK2 G X W kws fk) (h : T[tj]? = some (x, .globalImplicit, i) := by rfl)
    (hall : (backToKw pos (keywordEach kws X.env)).all (·.1.isSome) = true := by rfl) (hks : (backToKw pos (keywordEach kws X.env)).filterMap (·.1) = ks := by rfl)
    (hpl : ((backTo pos (starEach ([] : List Expr) X.env)).any (·.1) || (backToKw pos (keywordEach kws X.env)).any (·.1.isNone)) = false := by rfl) : VN G X W (.Call (.Name x p) [] kws pos) (eCal0 ks.length np gD m fk) :=
  ve_calls0 (PP := fun H => POwn X.K G H) c.inn c.on c.room c.tk C hkj h (fun x1 q => by rw [c.inn.K]; exact POwn.entry x1 q) hf rfl hkw hall hks hpl
theorem Ct.bo (c : Ct P w K mg base N sc T k X W) {scope : Scope} {own : List (Str × Nat)} (h : blkC N sc scope own = true) : BlkOk X.N X.env.scope scope own := by rw [c.n, c.s]; exact blkOk_by h
theorem Ct.gl (c : Ct P w K mg base N sc T k X W) (tj : Nat) (h : T[tj]? = some (x, .globalImplicit, i) := by rfl) : Gl X x := c.on.gl h
theorem sw_cell {elt : Expr} {gs : List Comprehension} {scope : Scope} {pos py : Pos} {y : Str} {l : Nat} {env : PySem.Env} (hy : env.scope.names.lookup y = some .cell) : swapsWith (.ListComp elt gs scope pos) (some (.Name y py)) l env = pure false := by
  have ky : env.kindOf y = some .cell := hy
  unfold swapsWith
  simp only [ky]
  have : (some NameKind.cell == some NameKind.local) = false := by decide
  rw [this]
  simp
theorem sw_env {ts : List Expr} {v : Expr} {env env' : PySem.Env} (h : env.scope = env'.scope) : swappedStores ts v env = swappedStores ts v env' := by
  have k1 : env.kindOf = env'.kindOf := by funext y; unfold PySem.Env.kindOf; rw [h]
  have k2 : env.blockKind = env'.blockKind := by unfold PySem.Env.blockKind; rw [h]
  unfold swappedStores
  rw [k1, k2]
theorem Ct.sw (c : Ct P w K mg base N sc T k X W) {ts : List Expr} {v : Expr} {r : Option (List Str)} (h : swappedStores ts v { X.env with scope := sc } = pure r) : swappedStores ts v X.env = pure r := by
  rw [← h]; exact sw_env c.s
end
end PV
end

section
namespace PV
open PySem PySem.Spec L2
open PyProof.Rows hiding St
theorem den_ints {K : PySem.W.Frag} {G : ClsAt} {As : List Addr} {F : Hp} : ∀ ns : List Int, DenL K G As F (ns.map D.int) (ns.map V.int)
  | [] => .nil
  | _ :: ns => .cons .int (den_ints ns)
/-- the law's promise, from its mirror's answer -/
theorem sp_law {K : PySem.W.Frag} {G : ClsAt} {m : List D → M D} {H : Hp} {a : Addr} {ns : List Int} (hS : SqL K H a (ns.map V.int)) (h : ∃ st, m [.lst (ns.map D.int)] [] = .ok (.bl true) st) :
    spPV K G (rDen K G) 1 m [.ref a] H (fun v _ => v = .bl true) fun _ _ _ => False := by
  obtain ⟨st, h⟩ := h
  refine ⟨rfl, ⟨H, [], []⟩, [.lst (ns.map D.int)], ⟨fun b o q => .inl q, rfl, List.nodup_nil, fun i b d e => by simp at e⟩, .cons (.lst hS (den_ints ns)) .nil, ?_⟩
  show Post K G _ _ _ H (m [.lst (ns.map D.int)] []) _
  rw [h]
  intro v F' As' H' _ _ t
  cases t
  rfl
theorem walk_pv {l : PySem.W.OpenLaw} {n k : Nat} {q : Program} {loose : List Str} {XP : (Str → Option Value) → Heap → Prop} {YP : World → Heap → Prop} {d : DefRec} {x : Str}
    (hn : l.most = some n) (hn2 : n ≤ sizeLine) (hdf : d.params.defaults = []) (hr : Room k callerA)
    (F : ∀ (w : World) (mg : Str → Option Value) (fa : Addr) (h : Heap), YP w h → h.Ns mainGlobals mg → mg d.name = some (.ref fa) →
      ∃ (K : PySem.W.Frag) (G : ClsAt) (fd : FuncData) (m : List D → M D), K.In h ∧ (∀ (s : Shared) (u : Value), BindsTo s fd ⟨[u], []⟩ [(x, u)]) ∧
        (∀ ns : List Int, ns.length ≤ n → (∀ z ∈ ns, Builtin.Int.intBits z ≤ 1048576) → ∃ st, m [.lst (ns.map D.int)] [] = .ok (.bl true) st) ∧
        ∀ base : Heap, K.In base → base.Ns mainGlobals mg → FnOk l.prog w K mg base (L2.CX l.prog w) k fa fd [x] (spPV K G (rDen K G) 1 m)) :
    PySem.W.WalkO q loose XP YP l.row.toRowW d [] (fun f vs => PySem.call f vs) := by
  refine Att.attach_callB hn hdf fun w s₀ s₁ mg mb fa o pm cd doc a vs ns G Y ho hd hcd hmg hobj hints hlen hbits hg => ?_
  obtain ⟨K, G', fd, m, KX, hb, hm, hF⟩ := F w mg fa _ Y G.T.g hmg
  exact law_call KX G.T.g G.T.b G.T.builtins G.T.nolimit hg hobj hints (Nat.le_trans hlen hn2) hr hF hb (fun H hO hS => sp_law hS (hm ns hlen hbits)) fun H e s' => fun ⟨_, _, _, _, _, _, _, _, _, _, _, _, z⟩ => z.elim
end PV
end

section
/-! mirrors' answers, plainly -/
namespace PV
open PySem PySem.Spec L2
open PyProof.Rows hiding St
theorem bind_def {α β : Type} (x : M α) (f : α → M β) (s : Stt) : (x >>= f) s = match x s with
  | .ok a s' => f a s'
  | .err e s' => .err e s'
  | .no => .no := rfl
theorem pure_def {α : Type} (a : α) (s : Stt) : (pure a : M α) s = .ok a s := rfl
theorem getR_own {i : Nat} {ρ : Env} {d : D} (h : ρ[i]? = some (.own d)) : getR i ρ = pure d := by unfold getR; rw [h]
theorem getR_val {i : Nat} {ρ : Env} {d : D} (h : ρ[i]? = some (.val d)) : getR i ρ = pure d := by unfold getR; rw [h]
theorem getV_val {i : Nat} {ρ : Env} {d : D} (h : ρ[i]? = some (.val d)) : getV i ρ = pure d := by unfold getV; rw [h]
theorem sB_ok {α : Type} {x : M α} {ρ : Env} {k : α → Stt → SR} {s s' : Stt} {a : α} (h : x s = .ok a s') : sB x ρ k s = k a s' := by unfold sB; rw [h]
theorem atI0 {α : Type} (xs : List α) (k : Nat) : atI xs (k : Int) = xs[k]? := by
  unfold atI ixN
  by_cases h : k < xs.length
  · rw [if_pos (by omega), if_pos (by omega)]; simp
  · rw [if_pos (by omega), if_neg (by omega)]; simp [List.getElem?_eq_none (Nat.le_of_not_lt h)]
/-- the script's bag -/
structure Bag where
  cells : List Int
  p : Nat
  b : Int
  mx : Int
  cnt : Nat
def Bag.d (B : Bag) : D := .lst [.lst (B.cells.map D.int), .int B.p, .int B.b, .int B.mx, .int B.cnt]
structure Bag.Ok (B : Bag) (c : Nat) : Prop where
  b0 : 0 ≤ B.b
  m0 : 0 ≤ B.mx
  m1 : B.mx < 2147483648
  cn : B.cnt ≤ c
namespace CM
def b_law_bag : SM := (sSeq (sSet 1 (kI 12011))
  (sSeq (sForM (e1 seqM (eSl slD (getR 0) pN (e1 asI (kI 63)))) (gNm 2) (sSet 1 (e2 modD (e1 intD (e2 addD (e2 addD (e2 mulD (getR 1) (kI 47917)) (e2 mulD (e2 modD (e1 intD (getR 2)) (kI 1000003)) (kI 613))) (kI 31))) (kI 2147483563))))
  (sRet (e1 lstD (eCons (e1 listD (eSl slD (getR 0) pN (e1 asI (kI 63)))) (eCons (kI 0) (eCons (kI 0) (eCons (getV 1) (eCons (kI 0) eNil)))))))))
def m_law_bag : List D → M D := runO 3 b_law_bag
def b_law_draw : SM := (sSeq (sPut 0 (kI 4) (e2 addD (e2 ixD (getR 0) (kI 4)) (kI 1)))
  (sSeq (sIf (tAnd (tCmp eqD (e2 ixD (getR 0) (kI 2)) (kI 0)) (tCmp ltD (e2 ixD (getR 0) (kI 1)) (e1 lenD (e2 ixD (getR 0) (kI 0))))) (sSeq (sSet 2 (e2 ixD (e2 ixD (getR 0) (kI 0)) (e2 ixD (getR 0) (kI 1))))
  (sSeq (sPut 0 (kI 1) (e2 addD (e2 ixD (getR 0) (kI 1)) (kI 1)))
  (sIf (tCmp geD (getR 2) (e2 powD (kI 10) (kI 18))) (sPut 0 (kI 2) (getV 2)) (sPut 0 (kI 3) (e2 modD (e1 intD (e2 addD (e2 addD (e2 mulD (e2 ixD (getR 0) (kI 3)) (kI 40127)) (e2 mulD (e2 modD (e1 intD (getR 2)) (kI 1000003)) (kI 709))) (kI 43))) (kI 2147483587)))))) sNil)
  (sSeq (sIf (tCmp gtD (e2 ixD (getR 0) (kI 2)) (kI 0)) (sSeq (sSet 3 (e2 modD (e1 intD (e2 ixD (getR 0) (kI 2))) (getR 1)))
  (sSeq (sPut 0 (kI 2) (e2 fdivD (e2 ixD (getR 0) (kI 2)) (getR 1)))
  (sRet (getV 3)))) sNil)
  (sSeq (sSet 4 (e2 modD (e1 intD (e2 addD (e2 mulD (e2 ixD (getR 0) (kI 3)) (e2 ixD (getR 0) (kI 3))) (e2 mulD (e2 ixD (getR 0) (kI 4)) (kI 9173)))) (kI 2147483629)))
  (sSeq (sPut 0 (kI 3) (e2 modD (e1 intD (e2 addD (e2 addD (e2 mulD (getR 4) (kI 18553)) (e2 mulD (e2 ixD (getR 0) (kI 3)) (kI 42773))) (kI 90007))) (kI 2147483587)))
  (sRet (e2 modD (e1 intD (e2 fdivD (e2 ixD (getR 0) (kI 3)) (kI 128))) (getR 1))))))))
def m_law_draw : List D → M D := runM 5 b_law_draw
def b_law_same (rec : List D → M D) : SM := (sSeq (sIf (e1 truD (eIsiT [(sbTy "list"), (sbTy "tuple")] (getR 1))) (sSeq (sIf (tOr (tCmp neD (eIsi (sbTy "list") (getR 0)) (eIsi (sbTy "list") (getR 1))) (tCmp neD (eIsi (sbTy "tuple") (getR 0)) (eIsi (sbTy "tuple") (getR 1)))) (sRet (kB false)) sNil)
  (sRet (eAnd (e2 eqD (e1 lenD (getR 0)) (e1 lenD (getR 1))) (e1 allD (lcD (e2 zipM (getV 0) (getV 1)) (gTp 2 (gsCons (gNm 2) (gsCons (gNm 3) gsNil))) tYesM (eCal 2 0 2 (fmt [0, 1]) rec (eCons (getV 2) (eCons (getV 3) eNil)) eNil) [2, 3]))))) sNil)
  (sSeq (sIf (tOr (tIsN (getR 1)) (tIsN (getR 0))) (sRet (eAnd (eIsN (getR 1)) (eIsN (getR 0)))) sNil)
  (sSeq (sIf (tOr (tCmp neD (eIsi (sbTy "bool") (getR 0)) (eIsi (sbTy "bool") (getR 1))) (tCmp neD (eIsi (sbTy "int") (getR 0)) (eIsi (sbTy "int") (getR 1)))) (sRet (kB false)) sNil)
  (sRet (eAnd (e2 eqD (eIsi (sbTy "str") (getR 0)) (eIsi (sbTy "str") (getR 1))) (e2 eqD (getR 0) (getR 1)))))))
def m_law_same : Nat → List D → M D
  | 0 => fun _ => no
  | n + 1 => runM 4 (b_law_same (m_law_same n))
def b_law_of : SM := (sRet (e2 ixD (getR 1) (eCal 2 0 2 (fmt [0, 1]) m_law_draw (eCons (getV 0) (eCons (e1 lenD (getR 1)) eNil)) eNil)))
def m_law_of : List D → M D := runM 2 b_law_of
end CM
theorem log2_le {i : Int} {k : Nat} (h0 : 0 ≤ i) (h : i < 2 ^ (k + 1)) : i.natAbs.log2 ≤ k := by
  have : i.natAbs < 2 ^ (k + 1) := by
    have e : (i.natAbs : Int) = i := Int.natAbs_of_nonneg h0
    have : (i.natAbs : Int) < ((2 ^ (k + 1) : Nat) : Int) := by rw [e]; push_cast; exact h
    exact Int.ofNat_lt.mp this
  by_cases h2 : i.natAbs = 0
  · rw [h2]; simp
  · have := (Nat.log2_lt h2).mpr this
    omega
theorem mul_ok {i j : Int} {s : Stt} (hi : 0 ≤ i) (hi2 : i < 2 ^ 64) (hj : 0 ≤ j) (hj2 : j < 2 ^ 64) : mulD (.int i) (.int j) s = .ok (.int (i * j)) s := by
  have a := log2_le (k := 63) hi hi2
  have b := log2_le (k := 63) hj hj2
  show (if i.natAbs.log2 + j.natAbs.log2 < 1000000 then pure (.int (i * j)) else no : M D) s = _
  rw [if_pos (by omega)]; rfl
theorem mod_ok {i j : Int} {s : Stt} (hj : 0 < j) : modD (.int i) (.int j) s = .ok (.int (i % j)) s := by
  show (if j ≠ 0 then pure (.int (i.fmod j)) else no : M D) s = _
  rw [if_pos (by omega), Int.fmod_eq_emod_of_nonneg _ (by omega)]; rfl
theorem fdiv_ok {i j : Int} {s : Stt} (hj : 0 < j) (hj2 : j ≤ 1000000000000000000000000000000000000000000000000000000000000) : fdivD (.int i) (.int j) s = .ok (.int (i / j)) s := by
  have b := log2_le (k := 199) (by omega : 0 ≤ j) (by omega)
  show (if j ≠ 0 ∧ j.natAbs.log2 < 9000 then pure (.int (i.fdiv j)) else no : M D) s = _
  rw [if_pos ⟨by omega, by omega⟩, Int.fdiv_eq_ediv_of_nonneg _ (by omega)]; rfl
theorem atI_map (cs : List Int) (p : Nat) : atI (cs.map D.int) (p : Int) = (cs[p]?).map D.int := by rw [atI0, List.getElem?_map]
/-! what a mirror reaches -/
abbrev NoE : Err → Stt → Prop := fun _ _ => False
abbrev NoF : Env → Stt → Prop := fun _ _ => False
/-- a mark that keeps rewriting out of what it names -/
structure U {α : Type} (x : M α) (Q : α → Stt → Prop) (E : Err → Stt → Prop) : Type where
structure U2 (m : SM) (N : Env → Stt → Prop) (R : D → Stt → Prop) (B C : Env → Stt → Prop) (E : Err → Stt → Prop) : Type where
def EV {α : Type} (x : M α) (s : Stt) (Q : α → Stt → Prop) (E : Err → Stt → Prop) (_u : U x Q E := ⟨⟩) : Prop := match x s with
  | .ok a s' => Q a s'
  | .err e s' => E e s'
  | .no => False
def WP (m : SM) (ρ : Env) (s : Stt) (N : Env → Stt → Prop) (R : D → Stt → Prop) (B C : Env → Stt → Prop) (E : Err → Stt → Prop) (_u : U2 m N R B C E := ⟨⟩) : Prop := match m ρ s with
  | .nx ρ' s' => N ρ' s'
  | .rt d s' => R d s'
  | .bk ρ' s' => B ρ' s'
  | .ct ρ' s' => C ρ' s'
  | .err e _ s' => E e s'
  | .no => False
section
variable {α β γ : Type} {s s' : Stt} {E : Err → Stt → Prop} {N B C : Env → Stt → Prop} {R : D → Stt → Prop} {ρ : Env}
theorem ev_ok {x : M α} {a : α} {Q : α → Stt → Prop} (h : x s = .ok a s') (q : Q a s') : EV x s Q E := by unfold EV; rw [h]; exact q
theorem ev_pure {a : α} {Q : α → Stt → Prop} (q : Q a s) : EV (pure a) s Q E := q
theorem ev_bind {x : M α} {f : α → M β} {Q : β → Stt → Prop} (h : EV x s (fun a s' => EV (f a) s' Q E) E) : EV (x >>= f) s Q E := by
  unfold EV at h ⊢
  rw [bind_def]
  cases e : x s with
  | ok a s' => rw [e] at h; exact h
  | err _ _ => rw [e] at h; exact h
  | no => rw [e] at h; exact h
theorem ev_imp {x : M α} {Q Q' : α → Stt → Prop} {E' : Err → Stt → Prop} (h : EV x s Q E) (q : ∀ a s', Q a s' → Q' a s') (e : ∀ a s', E a s' → E' a s') : EV x s Q' E' := by
  unfold EV at h ⊢
  cases k : x s with
  | ok a s' => rw [k] at h; exact q _ _ h
  | err _ _ => rw [k] at h; exact e _ _ h
  | no => rw [k] at h; exact h
theorem ev_ne {x : M α} {Q : α → Stt → Prop} (h : EV x s Q NoE) : EV (ne x) s Q E := by
  unfold EV at h ⊢
  unfold ne
  cases k : x s with
  | ok a s' => rw [k] at h; exact h
  | err _ _ => rw [k] at h; exact h.elim
  | no => rw [k] at h; exact h
theorem ev_get {x : M α} {Q : α → Stt → Prop} (h : EV x s Q NoE) : ∃ a s', x s = .ok a s' ∧ Q a s' := by
  unfold EV at h
  cases k : x s with
  | ok a s' => rw [k] at h; exact ⟨a, s', rfl, h⟩
  | err _ _ => rw [k] at h; exact h.elim
  | no => rw [k] at h; exact h.elim
theorem ev_getR {i : Nat} {d : D} {Q : D → Stt → Prop} (h : ρ[i]? = some (.val d)) (q : Q d s) : EV (getR i ρ) s Q E := by rw [getR_val h]; exact q
theorem ev_getO {i : Nat} {d : D} {Q : D → Stt → Prop} (h : ρ[i]? = some (.own d)) (q : Q d s) : EV (getR i ρ) s Q E := by rw [getR_own h]; exact q
theorem ev_getV {i : Nat} {d : D} {Q : D → Stt → Prop} (h : ρ[i]? = some (.val d)) (q : Q d s) : EV (getV i ρ) s Q E := by rw [getV_val h]; exact q
theorem ev_ifT {b : Bool} {x y : M α} {Q : α → Stt → Prop} (hb : b = true) (h : EV x s Q E) : EV (if b = true then x else y) s Q E := by rw [if_pos hb]; exact h
theorem ev_ifF {b : Bool} {x y : M α} {Q : α → Stt → Prop} (hb : b = false) (h : EV y s Q E) : EV (if b = true then x else y) s Q E := by rw [if_neg (by rw [hb]; decide)]; exact h
theorem ev_if {b : Bool} {x y : M α} {Q : α → Stt → Prop} (h : b = true → EV x s Q E) (h' : b = false → EV y s Q E) : EV (if b = true then x else y) s Q E := by
  cases b with
  | true => exact h rfl
  | false => exact h' rfl
theorem ev_no {Q : α → Stt → Prop} (h : False) : EV (no : M α) s Q E := h
theorem ev_atM {a : α} {o : Option α} {Q : α → Stt → Prop} (h : o = some a) (q : Q a s) : EV (atM o) s Q E := by subst h; exact q
/-! operations -/
variable {i j : Int} {Q : D → Stt → Prop} {T : Bool → Stt → Prop}
theorem ev_add (q : Q (.int (i + j)) s) : EV (addD (.int i) (.int j)) s Q E := q
theorem ev_sub (q : Q (.int (i - j)) s) : EV (subD (.int i) (.int j)) s Q E := q
theorem ev_mul (h : i.natAbs.log2 + j.natAbs.log2 < 1000000) (q : Q (.int (i * j)) s) : EV (mulD (.int i) (.int j)) s Q E := by
  show EV (if i.natAbs.log2 + j.natAbs.log2 < 1000000 then pure (.int (i * j)) else no : M D) s Q E
  rw [if_pos h]; exact q
theorem log2_small {i : Int} (h : i.natAbs < 2 ^ 64) : i.natAbs.log2 ≤ 63 := by
  by_cases h2 : i.natAbs = 0
  · rw [h2]; simp
  · have := (Nat.log2_lt h2).mpr h
    omega
theorem ev_muls (h : i.natAbs < 2 ^ 64) (h' : j.natAbs < 2 ^ 64) (q : Q (.int (i * j)) s) : EV (mulD (.int i) (.int j)) s Q E := ev_mul (by have := log2_small h; have := log2_small h'; omega) q
theorem ev_mod (hj : 0 < j) (q : Q (.int (i % j)) s) : EV (modD (.int i) (.int j)) s Q E := ev_ok (mod_ok hj) q
theorem ev_fdiv (hj : 0 < j) (hj2 : j ≤ 1000000000000000000000000000000000000000000000000000000000000) (q : Q (.int (i / j)) s) : EV (fdivD (.int i) (.int j)) s Q E := ev_ok (fdiv_ok hj hj2) q
theorem ev_pow {k : Int} (h0 : 0 ≤ j) (h1 : j ≤ 1000000) (h2 : i.natAbs < 2 ^ 64) (hk : i ^ j.toNat = k) (q : Q (.int k) s) : EV (powD (.int i) (.int j)) s Q E := by
  subst hk
  show EV (if 0 ≤ j ∧ j ≤ 1000000 ∧ i.natAbs < 2 ^ 64 then pure (.int (i ^ j.toNat)) else no : M D) s Q E
  rw [if_pos ⟨h0, h1, h2⟩]; exact q
theorem ev_lt (q : Q (.bl (decide (i < j))) s) : EV (ltD (.int i) (.int j)) s Q E := q
theorem ev_le (q : Q (.bl (decide (i ≤ j))) s) : EV (leD (.int i) (.int j)) s Q E := q
theorem ev_gt (q : Q (.bl (decide (j < i))) s) : EV (gtD (.int i) (.int j)) s Q E := q
theorem ev_ge (q : Q (.bl (decide (j ≤ i))) s) : EV (geD (.int i) (.int j)) s Q E := q
theorem ev_toint (q : Q (.int i) s) : EV (intD (.int i)) s Q E := q
theorem ev_asB {b : Bool} (q : T b s) : EV (asB (.bl b)) s T E := q
theorem ev_notD {b : Bool} (q : Q (.bl !b) s) : EV (notD (.bl b)) s Q E := q
theorem ev_negD (q : Q (.int (-i)) s) : EV (negD (.int i)) s Q E := q
theorem ev_trB {b : Bool} (q : T b s) : EV (truD (.bl b)) s T E := q
theorem ev_asI {Q : Option Int → Stt → Prop} (q : Q (some i) s) : EV (asI (.int i)) s Q E := q
theorem ev_asS {z : Str} {Q : Str → Stt → Prop} (q : Q z s) : EV (asS (.str z)) s Q E := q
theorem eq_int : eqD (.int i) (.int j) s = .ok (.bl (decide (i = j))) s := by
  show (eqB (.int i) (.int j) >>= fun b => (pure (.bl b) : M D)) s = _
  have e : eqB (.int i) (.int j) = pure (PyData.eqv (.int i) (.int j)) := rfl
  have e2 : PyData.eqv (.int i) (.int j) = decide (i = j) := by simp only [PyData.eqv]; rfl
  rw [e, e2]; rfl
theorem ev_eqI (q : Q (.bl (decide (i = j))) s) : EV (eqD (.int i) (.int j)) s Q E := ev_ok eq_int q
theorem ne_int : neD (.int i) (.int j) s = .ok (.bl !(decide (i = j))) s := by
  show (eqB (.int i) (.int j) >>= fun b => (pure (.bl !b) : M D)) s = _
  have e : eqB (.int i) (.int j) = pure (PyData.eqv (.int i) (.int j)) := rfl
  have e2 : PyData.eqv (.int i) (.int j) = decide (i = j) := by simp only [PyData.eqv]; rfl
  rw [e, e2]; rfl
theorem ev_neI (q : Q (.bl !(decide (i = j))) s) : EV (neD (.int i) (.int j)) s Q E := ev_ok ne_int q
theorem ev_eqS {a b : Str} (q : Q (.bl (decide (a = b))) s) : EV (eqD (.str a) (.str b)) s Q E := q
theorem ev_neS {a b : Str} (q : Q (.bl !(decide (a = b))) s) : EV (neD (.str a) (.str b)) s Q E := q
theorem ev_lenL {xs : List D} (q : Q (.int xs.length) s) : EV (lenD (.lst xs)) s Q E := q
theorem ev_lenT {xs : List D} (q : Q (.int xs.length) s) : EV (lenD (.tup xs)) s Q E := q
theorem ev_lenS {z : Str} (h : z.length ≤ SIZE) (q : Q (.int z.length) s) : EV (lenD (.str z)) s Q E := by
  show EV (if z.length ≤ SIZE then pure (.int z.length) else no : M D) s Q E
  rw [if_pos h]; exact q
theorem ev_ixL {xs : List D} {d : D} (h : atI xs i = some d) (q : Q d s) : EV (ixD (.lst xs) (.int i)) s Q E := by
  show EV (atM (atI xs i)) s Q E
  exact ev_atM h q
theorem ev_ixT {xs : List D} {d : D} (h : atI xs i = some d) (q : Q d s) : EV (ixD (.tup xs) (.int i)) s Q E := by
  show EV (atM (atI xs i)) s Q E
  exact ev_atM h q
theorem ev_ixO {xs : List D} {d : D} {o : Nat} (ho : s[o]? = some (.lst xs)) (h : atI xs i = some d) (q : Q d s) : EV (ixD (.obj o) (.int i)) s Q E := by
  refine ev_ok (a := d) (s' := s) ?_ q
  unfold ixD
  simp only [ho, h]; rfl
theorem ev_lstD {xs : List D} (h : xs.length ≤ SIZE) (q : Q (.lst xs) s) : EV (lstD xs) s Q E := by unfold lstD; rw [if_pos h]; exact q
theorem ev_tupD {xs : List D} (h : xs.length ≤ SIZE) (q : Q (.tup xs) s) : EV (tupD xs) s Q E := by unfold tupD; rw [if_pos h]; exact q
theorem ev_listL {xs : List D} (q : Q (.lst xs) s) : EV (listD (.lst xs)) s Q E := q
theorem ev_listT {xs : List D} (q : Q (.lst xs) s) : EV (listD (.tup xs)) s Q E := q
theorem ev_slL {xs : List D} {lo hi : Option Int} (q : Q (.lst (cutD xs lo hi)) s) : EV (slD (.lst xs) lo hi) s Q E := q
theorem ev_slS {z : Str} {lo hi : Option Int} (h : z.length ≤ SIZE) (q : Q (.str (cutS z lo hi)) s) : EV (slD (.str z) lo hi) s Q E := by
  show EV (if z.length ≤ SIZE then pure (.str (cutS z lo hi)) else no : M D) s Q E
  rw [if_pos h]; exact q
theorem ev_seqL {xs : List D} {Q : List D → Stt → Prop} (q : Q xs s) : EV (seqM (.lst xs)) s Q E := q
theorem ev_seqT {xs : List D} {Q : List D → Stt → Prop} (q : Q xs s) : EV (seqM (.tup xs)) s Q E := q
theorem ev_seqS {z : Str} {Q : List D → Stt → Prop} (q : Q (chrD z) s) : EV (seqM (.str z)) s Q E := q
theorem ev_rng1 {Q : List D → Stt → Prop} (h : -NUM ≤ i ∧ i < NUM) (q : Q (rangeD 0 i.toNat) s) : EV (rng1 (.int i)) s Q E := by
  show EV (if -NUM ≤ i ∧ i < NUM then pure (rangeD 0 i.toNat) else no : M (List D)) s Q E
  rw [if_pos h]; exact q
theorem ev_zip {xs ys : List D} {Q : List D → Stt → Prop} (q : Q (zipD xs ys) s) : EV (zipM (.lst xs) (.lst ys)) s Q E := q
theorem ev_enum {xs : List D} {Q : List D → Stt → Prop} (q : Q (enumD xs) s) : EV (enumM (.lst xs)) s Q E := q
theorem ev_call {n nk np : Nat} {gD : List D → List D → List D} {m : List D → M D} {ds dk as : List D} (h : ds.length = n ∧ dk.length = nk ∧ (gD ds dk).length = np) (ha : gD ds dk = as) (q : EV (m as) s Q E) : EV (callM n nk np gD m ds dk) s Q E := by
  unfold callM; rw [if_pos h, ha]; exact q
/-! statements -/
theorem w_seq {a b : SM} (h : WP a ρ s (fun ρ' s' => WP b ρ' s' N R B C E) R B C E) : WP (sSeq a b) ρ s N R B C E := by
  unfold WP at h ⊢
  unfold sSeq
  cases e : a ρ s <;> (rw [e] at h; exact h)
theorem w_nil (q : N ρ s) : WP sNil ρ s N R B C E := q
theorem w_sB {x : M α} {k : α → Stt → SR} {m : SM} (hm : m ρ s = sB x ρ k s) (h : EV x s (fun a s' => WP (fun _ => k a) ρ s' N R B C E) E) : WP m ρ s N R B C E := by
  unfold WP
  rw [hm]
  unfold EV at h
  unfold sB
  cases e : x s with
  | ok a s' => rw [e] at h; exact h
  | err _ _ => rw [e] at h; exact h
  | no => rw [e] at h; exact h
theorem w_set {i : Nat} {f : Env → M D} (h : EV (f ρ) s (fun d s' => N (ρ.set i (.val d)) s') E) : WP (sSet i f) ρ s N R B C E := w_sB rfl h
theorem w_setO {i : Nat} {f : Env → M D} (h : EV (f ρ) s (fun d s' => N (ρ.set i (.own d)) s') E) : WP (sSetO i f) ρ s N R B C E := w_sB rfl h
theorem w_ret {f : Env → M D} (h : EV (f ρ) s R E) : WP (sRet f) ρ s N R B C E := w_sB rfl h
theorem w_drop {f : Env → M α} (h : EV (f ρ) s (fun _ s' => N ρ s') E) : WP (sDrop f) ρ s N R B C E := w_sB rfl h
theorem w_if {t : Env → M Bool} {a b : SM} (h : EV (t ρ) s (fun k s' => (k = true → WP a ρ s' N R B C E) ∧ (k = false → WP b ρ s' N R B C E)) E) : WP (sIf t a b) ρ s N R B C E := w_sB rfl (ev_imp h (fun k s' q => by
  cases k with
  | true => exact q.1 rfl
  | false => exact q.2 rfl) fun _ _ z => z)
theorem w_frz {i : Nat} {d : D} (h : ρ[i]? = some (.own d)) (q : N (ρ.set i (.val d)) s) : WP (sFrz i) ρ s N R B C E := by unfold WP sFrz; rw [h]; exact q
theorem w_frzV {i : Nat} {d : D} (h : ρ[i]? = some (.val d)) (q : N ρ s) : WP (sFrz i) ρ s N R B C E := by unfold WP sFrz; rw [h]; exact q
theorem w_sto {i : Nat} {d : D} (h : ρ[i]? = some (.own d)) (q : N (ρ.set i (.val (.obj s.length))) (s ++ [d])) : WP (sSto i) ρ s N R B C E := by unfold WP sSto; rw [h]; exact q
theorem w_par {i j : Nat} {w1 w2 : Bool} {f g : Env → M D} (h : EV (f ρ) s (fun d s1 => EV (g ρ) s1 (fun d' s2 => N ((ρ.set i (slotOf w1 d)).set j (slotOf w2 d')) s2) E) E) : WP (sPar i j w1 w2 f g) ρ s N R B C E :=
  w_sB rfl (ev_imp h (fun d s1 q => w_sB rfl q) fun _ _ z => z)
theorem w_asg {g : D → Env → Option Env} {f : Env → M D} (h : EV (f ρ) s (fun d s' => ∃ ρ', g d ρ = some ρ' ∧ N ρ' s') E) : WP (sAsg g f) ρ s N R B C E :=
  w_sB rfl (ev_imp h (fun d s1 ⟨ρ', e, q⟩ => by show WP (fun _ s' => match g d ρ with | some ρ' => .nx ρ' s' | none => .no) ρ s1 N R B C E; unfold WP; rw [e]; exact q) fun _ _ z => z)
theorem w_app {i : Nat} {f : Env → M D} {xs : List D} (h : ρ[i]? = some (.own (.lst xs))) (hz : xs.length < SIZE) (q : EV (f ρ) s (fun d s' => N (ρ.set i (.own (.lst (xs ++ [d])))) s') E) : WP (sApp i f) ρ s N R B C E := by
  have hl : lstAt i ρ s = true := by unfold lstAt; rw [h]
  refine w_sB (x := f ρ) (k := fun v s' => appAt i ρ v s') (by unfold sApp; rw [if_pos hl]) (ev_imp q (fun d s1 q => ?_) fun _ _ z => z)
  unfold WP appAt
  simp only [h]
  rw [if_pos hz]; exact q
/-- the bag's cell is stored -/
theorem w_put {i : Nat} {fi fe : Env → M D} {o : Nat} (h : ρ[i]? = some (.val (.obj o))) (q : EV (fe ρ) s (fun v s1 => EV (fi ρ) s1 (fun ix s2 => ∃ (k : Int) (xs : List D) (j : Nat), ix = .int k ∧ s2[o]? = some (.lst xs) ∧ ixN xs.length k = some j ∧ N ρ (s2.set o (.lst (xs.set j v)))) E) E) : WP (sPut i fi fe) ρ s N R B C E := by
  have hl : refAt i ρ = true := by unfold refAt; rw [h]
  refine w_sB (x := fe ρ) (k := fun v s1 => sB (fi ρ) ρ (fun ix s2 => putAt i ρ ix v s2) s1) (by unfold sPut; rw [if_pos hl]) (ev_imp q (fun v s1 q => w_sB rfl (ev_imp q (fun ix s2 ⟨k, xs, j, e1, e2, e3, q⟩ => ?_) fun _ _ z => z)) fun _ _ z => z)
  subst e1
  unfold WP putAt
  simp only [h, e2, e3]
  exact q
theorem w_imp {m : SM} {N' B' C' : Env → Stt → Prop} {R' : D → Stt → Prop} {E' : Err → Stt → Prop} (h : WP m ρ s N R B C E) (n : ∀ ρ s, N ρ s → N' ρ s) (r : ∀ d s, R d s → R' d s) (b : ∀ ρ s, B ρ s → B' ρ s) (c : ∀ ρ s, C ρ s → C' ρ s) (e : ∀ x s, E x s → E' x s) : WP m ρ s N' R' B' C' E' := by
  unfold WP at h ⊢
  cases k : m ρ s <;> (rw [k] at h)
  · exact n _ _ h
  · exact r _ _ h
  · exact b _ _ h
  · exact c _ _ h
  · exact e _ _ h
  · exact h
/-- a for, by an invariant of the turn -/
theorem w_forI {f : Env → M (List D)} {g : D → Env → Option Env} {m : SM} (h : EV (f ρ) s (fun ds s0 => ∃ I : Nat → Env → Stt → Prop, I 0 ρ s0 ∧ (∀ i d ρ s, ds[i]? = some d → I i ρ s → ∃ ρ', g d ρ = some ρ' ∧ WP m ρ' s (I (i + 1)) R N (I (i + 1)) E) ∧ ∀ ρ s, I ds.length ρ s → N ρ s) E) : WP (sForM f g m) ρ s N R B C E := by
  refine w_sB rfl (ev_imp h (fun ds s0 ⟨I, h0, hs, hd⟩ => ?_) fun _ _ z => z)
  show WP (fun ρ' s' => sFor g m ds ρ s') ρ s0 N R B C E
  have key : ∀ (k i : Nat) (ρ : Env) (s : Stt), i + k = ds.length → I i ρ s → WP (sFor g m (ds.drop i)) ρ s N R B C E := fun k => by
    induction k with
    | zero =>
      intro i ρ s hi h
      have : i = ds.length := by omega
      subst this
      rw [List.drop_length]
      exact hd ρ s h
    | succ k ih =>
      intro i ρ s hi h
      have hlt : i < ds.length := by omega
      rw [List.drop_eq_getElem_cons hlt]
      obtain ⟨ρ', e, hw⟩ := hs i ds[i] ρ s (List.getElem?_eq_getElem hlt) h
      unfold WP
      unfold sFor
      rw [e]
      show (match (match m ρ' s with
        | .nx ρ2 s2 => sFor g m (ds.drop (i + 1)) ρ2 s2
        | .ct ρ2 s2 => sFor g m (ds.drop (i + 1)) ρ2 s2
        | .bk ρ2 s2 => .nx ρ2 s2
        | r => r) with
        | .nx ρ' s' => N ρ' s'
        | .rt d s' => R d s'
        | .bk ρ' s' => B ρ' s'
        | .ct ρ' s' => C ρ' s'
        | .err e _ s' => E e s'
        | .no => False)
      unfold WP at hw
      cases e2 : m ρ' s with
      | nx ρ2 s2 => rw [e2] at hw; exact ih (i + 1) ρ2 s2 (by omega) hw
      | ct ρ2 s2 => rw [e2] at hw; exact ih (i + 1) ρ2 s2 (by omega) hw
      | bk ρ2 s2 => rw [e2] at hw; exact hw
      | rt d s2 => rw [e2] at hw; exact hw
      | err e' ρ2 s2 => rw [e2] at hw; exact hw
      | no => rw [e2] at hw; exact hw
  have := key ds.length 0 ρ s0 (by omega) h0
  rw [List.drop_zero] at this
  exact this
/-- a def -/
theorem w_run {n : Nat} {m : SM} {ds : List D} {Q : D → Stt → Prop} (hρ : ds.map .val ++ List.replicate (n - ds.length) .no = ρ) (h : WP m ρ s (fun _ s' => Q .non s') Q NoF NoF E) : EV (runM n m ds) s Q E := by
  subst hρ
  unfold WP at h
  unfold EV runM
  cases e : m (ds.map .val ++ List.replicate (n - ds.length) .no) s <;> (rw [e] at h; exact h)
theorem w_runO {n : Nat} {m : SM} {ds : List D} {Q : D → Stt → Prop} (hρ : ds.map .val ++ List.replicate (n - ds.length) .no = ρ) (h : WP m ρ s NoF Q NoF NoF E) : EV (runO n m ds) s Q E := by
  subst hρ
  unfold WP at h
  unfold EV runO
  cases e : m (ds.map .val ++ List.replicate (n - ds.length) .no) s <;> (rw [e] at h; exact h)
/-- a comprehension, by an invariant of the turn and of what it made -/
theorem ev_lc {f : Env → M (List D)} {g : D → Env → Option Env} {t : Env → M Bool} {e : Env → M D} {vs : List Nat} {Q : D → Stt → Prop} (h : EV (f ρ) s (fun ds s0 => ds.length < SIZE ∧ ∃ I : Nat → List D → Stt → Prop, I 0 [] s0 ∧
    (∀ i d acc s, ds[i]? = some d → I i acc s → ∃ ρ', g d (wipeE ρ vs) = some ρ' ∧ EV (t ρ') s (fun b s1 => (b = true → EV (e ρ') s1 (fun y s2 => I (i + 1) (acc ++ [y]) s2) NoE) ∧ (b = false → I (i + 1) acc s1)) NoE) ∧ ∀ acc s, I ds.length acc s → Q (.lst acc) s) E) : EV (lcD f g t e vs ρ) s Q E := by
  refine ev_bind (ev_imp h (fun ds s0 ⟨hz, I, h0, hs, hd⟩ => ?_) fun _ _ z => z)
  rw [if_pos hz]
  have key : ∀ (k i : Nat) (acc : List D) (s : Stt), i + k = ds.length → I i acc s → ∃ ys s', lcM g t e (wipeE ρ vs) (ds.drop i) s = .ok ys s' ∧ I ds.length (acc ++ ys) s' := fun k => by
    induction k with
    | zero =>
      intro i acc s hi h
      have : i = ds.length := by omega
      subst this
      rw [List.drop_length]
      exact ⟨[], s, rfl, by rw [List.append_nil]; exact h⟩
    | succ k ih =>
      intro i acc s hi h
      have hlt : i < ds.length := by omega
      rw [List.drop_eq_getElem_cons hlt]
      obtain ⟨ρ', eg, hw⟩ := hs i ds[i] acc s (List.getElem?_eq_getElem hlt) h
      obtain ⟨b, s1, e1, q1⟩ := ev_get hw
      unfold lcM
      rw [eg]
      have n1 : ne (t ρ') s = .ok b s1 := by unfold ne; rw [e1]
      cases b with
      | true =>
        obtain ⟨y, s2, e2, q2⟩ := ev_get (q1.1 rfl)
        have n2 : ne (e ρ') s1 = .ok y s2 := by unfold ne; rw [e2]
        obtain ⟨ys, s3, e3, q3⟩ := ih (i + 1) (acc ++ [y]) s2 (by omega) q2
        refine ⟨y :: ys, s3, ?_, by rw [List.append_assoc] at q3; exact q3⟩
        show (ne (t ρ') >>= _) s = _
        rw [bind_eq n1]
        show (ne (e ρ') >>= _) s1 = _
        rw [bind_eq n2]
        show (lcM g t e (wipeE ρ vs) (ds.drop (i + 1)) >>= _) s2 = _
        rw [bind_eq e3]; rfl
      | false =>
        obtain ⟨ys, s3, e3, q3⟩ := ih (i + 1) acc s1 (by omega) (q1.2 rfl)
        refine ⟨ys, s3, ?_, q3⟩
        show (ne (t ρ') >>= _) s = _
        rw [bind_eq n1]
        exact e3
  obtain ⟨ys, s', e', q'⟩ := key ds.length 0 [] s0 (by omega) h0
  rw [List.drop_zero] at e'
  rw [List.nil_append] at q'
  exact ev_bind (ev_ok e' (hd ys s' q'))
end
end PV
end

section
namespace PV
open PySem PySem.Spec L2
open PyProof.Rows hiding St
local macro_rules | `(tactic| trivial) => `(tactic| first
  | with_reducible refine ev_bind ?_
  | with_reducible refine ev_pure ?_
  | with_reducible refine ev_getR rfl ?_
  | with_reducible refine ev_getV rfl ?_
  | with_reducible refine ev_getO rfl ?_
  | with_reducible refine ev_add ?_
  | with_reducible refine ev_sub ?_
  | with_reducible refine ev_toint ?_
  | with_reducible refine ev_asB ?_
  | with_reducible refine ev_notD ?_
  | with_reducible refine ev_negD ?_
  | with_reducible refine ev_trB ?_
  | with_reducible refine ev_asI ?_
  | with_reducible refine ev_asS ?_
  | with_reducible refine ev_lt ?_
  | with_reducible refine ev_le ?_
  | with_reducible refine ev_gt ?_
  | with_reducible refine ev_ge ?_
  | with_reducible refine ev_eqI ?_
  | with_reducible refine ev_neI ?_
  | with_reducible refine ev_lenL ?_
  | with_reducible refine ev_lenT ?_
  | with_reducible refine ev_seqL ?_
  | with_reducible refine ev_seqT ?_
  | with_reducible refine ev_seqS ?_
  | with_reducible refine ev_zip ?_
  | with_reducible refine ev_enum ?_
  | with_reducible refine ev_slL ?_
  | with_reducible refine ev_listL ?_
  | with_reducible refine ev_listT ?_
  | with_reducible refine w_seq ?_
  | with_reducible refine w_nil ?_
  | with_reducible refine w_set ?_
  | with_reducible refine w_setO ?_
  | with_reducible refine w_ret ?_
  | with_reducible refine w_drop ?_
  | with_reducible refine w_par ?_
  | with_reducible refine w_if ?_)
theorem ev_ix0 {s : Stt} {o : Nat} {a b c d e : D} {Q : D → Stt → Prop} {E : Err → Stt → Prop} (h : s[o]? = some (.lst [a, b, c, d, e])) (q : Q a s) : EV (ixD (.obj o) (.int 0)) s Q E := ev_ixO h rfl q
theorem ev_ix1 {s : Stt} {o : Nat} {a b c d e : D} {Q : D → Stt → Prop} {E : Err → Stt → Prop} (h : s[o]? = some (.lst [a, b, c, d, e])) (q : Q b s) : EV (ixD (.obj o) (.int 1)) s Q E := ev_ixO h rfl q
theorem ev_ix2 {s : Stt} {o : Nat} {a b c d e : D} {Q : D → Stt → Prop} {E : Err → Stt → Prop} (h : s[o]? = some (.lst [a, b, c, d, e])) (q : Q c s) : EV (ixD (.obj o) (.int 2)) s Q E := ev_ixO h rfl q
theorem ev_ix3 {s : Stt} {o : Nat} {a b c d e : D} {Q : D → Stt → Prop} {E : Err → Stt → Prop} (h : s[o]? = some (.lst [a, b, c, d, e])) (q : Q d s) : EV (ixD (.obj o) (.int 3)) s Q E := ev_ixO h rfl q
theorem ev_ix4 {s : Stt} {o : Nat} {a b c d e : D} {Q : D → Stt → Prop} {E : Err → Stt → Prop} (h : s[o]? = some (.lst [a, b, c, d, e])) (q : Q e s) : EV (ixD (.obj o) (.int 4)) s Q E := ev_ixO h rfl q
theorem ev_draw {rest : Stt} {B : Bag} {c : Nat} {many : Int} {Q : D → Stt → Prop} {E : Err → Stt → Prop} (hB : B.Ok c) (hc : c < 2 ^ 60) (h0 : 0 < many) (h1 : many ≤ 1000000000000000000000000000000000000000000000000000000000000)
    (q : ∀ (r : Int) (B' : Bag), 0 ≤ r → r < many → B'.Ok (c + 1) → Q (.int r) (B'.d :: rest)) : EV (CM.m_law_draw [.obj 0, .int many]) (B.d :: rest) Q E := by
  obtain ⟨cs, p, b, mx, cn⟩ := B
  obtain ⟨hb0, hm0, hm1, hcn⟩ := hB
  simp only at hb0 hm0 hm1 hcn
  refine w_run (ρ := [.val (.obj 0), .val (.int many), .no, .no, .no]) rfl ?_
  unfold CM.b_law_draw
  simp only [Bag.d]
  -- the count
  refine w_seq (w_put rfl ?_)
  repeat (first | trivial | with_reducible refine ev_ix4 rfl ?_)
  refine ⟨4, _, 4, rfl, rfl, rfl, ?_⟩
  simp only [List.set_cons_zero, List.set_cons_succ]
  -- what comes behind
  have rest_ok : ∀ (ρ : Env) (p2 : Nat) (b2 mx2 : Int), 0 ≤ b2 → 0 ≤ mx2 → mx2 < 2147483648 → ρ[0]? = some (.val (.obj 0)) → ρ[1]? = some (.val (.int many)) → 5 ≤ ρ.length →
      WP (sSeq (sIf (tCmp gtD (e2 ixD (getR 0) (kI 2)) (kI 0)) (sSeq (sSet 3 (e2 modD (e1 intD (e2 ixD (getR 0) (kI 2))) (getR 1)))
  (sSeq (sPut 0 (kI 2) (e2 fdivD (e2 ixD (getR 0) (kI 2)) (getR 1)))
  (sRet (getV 3)))) sNil)
  (sSeq (sSet 4 (e2 modD (e1 intD (e2 addD (e2 mulD (e2 ixD (getR 0) (kI 3)) (e2 ixD (getR 0) (kI 3))) (e2 mulD (e2 ixD (getR 0) (kI 4)) (kI 9173)))) (kI 2147483629)))
  (sSeq (sPut 0 (kI 3) (e2 modD (e1 intD (e2 addD (e2 addD (e2 mulD (getR 4) (kI 18553)) (e2 mulD (e2 ixD (getR 0) (kI 3)) (kI 42773))) (kI 90007))) (kI 2147483587)))
  (sRet (e2 modD (e1 intD (e2 fdivD (e2 ixD (getR 0) (kI 3)) (kI 128))) (getR 1)))))) ρ (.lst [.lst (cs.map D.int), .int p2, .int b2, .int mx2, .int ((cn : Int) + 1)] :: rest) (fun _ s' => Q .non s') Q NoF NoF E := by
    intro ρ p2 b2 mx2 hb hm hm2 e0 e1 hl
    obtain ⟨a0, a1, a2, a3, a4, ρ, rfl⟩ : ∃ a0 a1 a2 a3 a4 r, ρ = a0 :: a1 :: a2 :: a3 :: a4 :: r := by
      rcases ρ with _ | ⟨a0, _ | ⟨a1, _ | ⟨a2, _ | ⟨a3, _ | ⟨a4, r⟩⟩⟩⟩⟩ <;> first | (simp at hl; done) | (simp at hl; omega) | exact ⟨_, _, _, _, _, _, rfl⟩
    simp at e0 e1
    subst e0 e1
    repeat (first | trivial | with_reducible refine ev_ix2 rfl ?_)
    refine ⟨fun hk => ?_, fun hk => ?_⟩
    · have hk : 0 < b2 := of_decide_eq_true hk
      refine w_seq (w_set ?_)
      repeat (first | trivial | with_reducible refine ev_ix2 rfl ?_ | with_reducible refine ev_mod h0 ?_)
      refine w_put rfl ?_
      repeat (first | trivial | with_reducible refine ev_ix2 rfl ?_ | with_reducible refine ev_fdiv h0 h1 ?_)
      refine ⟨2, _, 2, rfl, rfl, rfl, ?_⟩
      simp only [List.set_cons_zero, List.set_cons_succ]
      repeat trivial
      exact q (b2 % many) ⟨cs, p2, b2 / many, mx2, cn + 1⟩ (Int.emod_nonneg _ (by omega)) (Int.emod_lt_of_pos _ h0) ⟨Int.ediv_nonneg hb (by omega), hm, hm2, by show cn + 1 ≤ c + 1; omega⟩
    · repeat (first | trivial | with_reducible refine ev_ix3 rfl ?_ | with_reducible refine ev_ix4 rfl ?_ | with_reducible refine ev_muls (by omega) (by omega) ?_ | with_reducible refine ev_mod (by decide) ?_)
      refine w_put rfl ?_
      have hp : (0 : Int) ≤ (mx2 * mx2 + ((cn : Int) + 1) * 9173) % 2147483629 ∧ (mx2 * mx2 + ((cn : Int) + 1) * 9173) % 2147483629 < 2147483629 := ⟨Int.emod_nonneg _ (by decide), Int.emod_lt_of_pos _ (by decide)⟩
      generalize (mx2 * mx2 + ((cn : Int) + 1) * 9173) % 2147483629 = late at hp ⊢
      repeat (first | trivial | with_reducible refine ev_ix3 rfl ?_ | with_reducible refine ev_muls (by omega) (by omega) ?_ | with_reducible refine ev_mod (by decide) ?_)
      refine ⟨3, _, 3, rfl, rfl, rfl, ?_⟩
      simp only [List.set_cons_zero, List.set_cons_succ]
      have hq : (0 : Int) ≤ (late * 18553 + mx2 * 42773 + 90007) % 2147483587 ∧ (late * 18553 + mx2 * 42773 + 90007) % 2147483587 < 2147483587 := ⟨Int.emod_nonneg _ (by decide), Int.emod_lt_of_pos _ (by decide)⟩
      generalize (late * 18553 + mx2 * 42773 + 90007) % 2147483587 = m3 at hq ⊢
      repeat (first | trivial | with_reducible refine ev_ix3 rfl ?_ | with_reducible refine ev_fdiv (by decide) (by decide) ?_ | with_reducible refine ev_mod h0 ?_)
      exact q (m3 / 128 % many) ⟨cs, p2, b2, m3, cn + 1⟩ (Int.emod_nonneg _ (by omega)) (Int.emod_lt_of_pos _ h0) ⟨hb, hq.1, by show m3 < _; omega, by show cn + 1 ≤ c + 1; omega⟩
  refine w_seq (w_if ?_)
  repeat (first | trivial | with_reducible refine ev_ix2 rfl ?_)
  refine ev_if (fun hk => ?_) (fun hk => ?_)
  · repeat (first | trivial | with_reducible refine ev_ix1 rfl ?_ | with_reducible refine ev_ix0 rfl ?_)
    refine ⟨fun hk2 => ?_, fun hk2 => ?_⟩
    · have hk2 := of_decide_eq_true hk2
      rw [List.length_map] at hk2
      have hp : p < cs.length := by omega
      refine w_seq (w_set ?_)
      repeat (first | trivial | with_reducible refine ev_ix1 rfl ?_ | with_reducible refine ev_ix0 rfl ?_)
      refine ev_ixL (d := .int cs[p]) (by rw [atI_map, List.getElem?_eq_getElem hp]; rfl) ?_
      refine w_seq (w_put rfl ?_)
      repeat (first | trivial | with_reducible refine ev_ix1 rfl ?_)
      refine ⟨1, _, 1, rfl, rfl, rfl, ?_⟩
      simp only [List.set_cons_zero, List.set_cons_succ]
      refine w_if ?_
      repeat (first | trivial | with_reducible refine ev_pow (k := 1000000000000000000) (by decide) (by decide) (by decide) (by decide) ?_)
      refine ⟨fun hk3 => ?_, fun hk3 => ?_⟩
      · refine w_put rfl ?_
        repeat trivial
        refine ⟨2, _, 2, rfl, rfl, rfl, ?_⟩
        simp only [List.set_cons_zero, List.set_cons_succ]
        exact rest_ok _ (p + 1) cs[p] mx (by have := of_decide_eq_true hk3; omega) hm0 hm1 rfl rfl (by simp)
      · refine w_put rfl ?_
        repeat (first | trivial | with_reducible refine ev_ix3 rfl ?_ | with_reducible refine ev_muls (by omega) (by omega) ?_ | with_reducible refine ev_mod (by decide) ?_)
        refine ⟨3, _, 3, rfl, rfl, rfl, ?_⟩
        simp only [List.set_cons_zero, List.set_cons_succ]
        exact rest_ok _ (p + 1) b _ hb0 (Int.emod_nonneg _ (by decide)) (Int.lt_trans (Int.emod_lt_of_pos _ (by decide)) (by decide)) rfl rfl (by simp)
    · refine w_nil ?_
      exact rest_ok _ p b mx hb0 hm0 hm1 rfl rfl (by simp)
  · refine ev_pure ?_
    refine ⟨fun z => Bool.noConfusion z, fun _ => ?_⟩
    refine w_nil ?_
    exact rest_ok _ p b mx hb0 hm0 hm1 rfl rfl (by simp)
end PV
end

section
namespace PV
open PySem PySem.Spec L2
open PyProof.Rows hiding St
theorem isi_NoneType_int : sbTy "int" (.inl "NoneType") = some false := by decide +kernel
theorem isi_NoneType_str : sbTy "str" (.inl "NoneType") = some false := by decide +kernel
theorem isi_NoneType_bool : sbTy "bool" (.inl "NoneType") = some false := by decide +kernel
theorem isi_NoneType_list : sbTy "list" (.inl "NoneType") = some false := by decide +kernel
theorem isi_NoneType_tuple : sbTy "tuple" (.inl "NoneType") = some false := by decide +kernel
theorem isi_NoneType_dict : sbTy "dict" (.inl "NoneType") = some false := by decide +kernel
theorem isi_bool_int : sbTy "int" (.inl "bool") = some true := by decide +kernel
theorem isi_bool_str : sbTy "str" (.inl "bool") = some false := by decide +kernel
theorem isi_bool_bool : sbTy "bool" (.inl "bool") = some true := by decide +kernel
theorem isi_bool_list : sbTy "list" (.inl "bool") = some false := by decide +kernel
theorem isi_bool_tuple : sbTy "tuple" (.inl "bool") = some false := by decide +kernel
theorem isi_bool_dict : sbTy "dict" (.inl "bool") = some false := by decide +kernel
theorem isi_int_int : sbTy "int" (.inl "int") = some true := by decide +kernel
theorem isi_int_str : sbTy "str" (.inl "int") = some false := by decide +kernel
theorem isi_int_bool : sbTy "bool" (.inl "int") = some false := by decide +kernel
theorem isi_int_list : sbTy "list" (.inl "int") = some false := by decide +kernel
theorem isi_int_tuple : sbTy "tuple" (.inl "int") = some false := by decide +kernel
theorem isi_int_dict : sbTy "dict" (.inl "int") = some false := by decide +kernel
theorem isi_str_int : sbTy "int" (.inl "str") = some false := by decide +kernel
theorem isi_str_str : sbTy "str" (.inl "str") = some true := by decide +kernel
theorem isi_str_bool : sbTy "bool" (.inl "str") = some false := by decide +kernel
theorem isi_str_list : sbTy "list" (.inl "str") = some false := by decide +kernel
theorem isi_str_tuple : sbTy "tuple" (.inl "str") = some false := by decide +kernel
theorem isi_str_dict : sbTy "dict" (.inl "str") = some false := by decide +kernel
theorem isi_list_int : sbTy "int" (.inl "list") = some false := by decide +kernel
theorem isi_list_str : sbTy "str" (.inl "list") = some false := by decide +kernel
theorem isi_list_bool : sbTy "bool" (.inl "list") = some false := by decide +kernel
theorem isi_list_list : sbTy "list" (.inl "list") = some true := by decide +kernel
theorem isi_list_tuple : sbTy "tuple" (.inl "list") = some false := by decide +kernel
theorem isi_list_dict : sbTy "dict" (.inl "list") = some false := by decide +kernel
theorem isi_tuple_int : sbTy "int" (.inl "tuple") = some false := by decide +kernel
theorem isi_tuple_str : sbTy "str" (.inl "tuple") = some false := by decide +kernel
theorem isi_tuple_bool : sbTy "bool" (.inl "tuple") = some false := by decide +kernel
theorem isi_tuple_list : sbTy "list" (.inl "tuple") = some false := by decide +kernel
theorem isi_tuple_tuple : sbTy "tuple" (.inl "tuple") = some true := by decide +kernel
theorem isi_tuple_dict : sbTy "dict" (.inl "tuple") = some false := by decide +kernel
theorem isi_dict_int : sbTy "int" (.inl "dict") = some false := by decide +kernel
theorem isi_dict_str : sbTy "str" (.inl "dict") = some false := by decide +kernel
theorem isi_dict_bool : sbTy "bool" (.inl "dict") = some false := by decide +kernel
theorem isi_dict_list : sbTy "list" (.inl "dict") = some false := by decide +kernel
theorem isi_dict_tuple : sbTy "tuple" (.inl "dict") = some false := by decide +kernel
theorem isi_dict_dict : sbTy "dict" (.inl "dict") = some true := by decide +kernel
theorem ev_isi_NoneType_int {s : Stt} {Q : Bool → Stt → Prop} {E : Err → Stt → Prop} (q : Q false s) : EV (isiD (sbTy "int") .non) s Q E := by
  refine ev_ok (a := false) (s' := s) ?_ q
  show (match sbTy "int" (.inl "NoneType") with | some b => R.ok b s | none => .no) = _
  rw [isi_NoneType_int]
theorem ev_isi_NoneType_str {s : Stt} {Q : Bool → Stt → Prop} {E : Err → Stt → Prop} (q : Q false s) : EV (isiD (sbTy "str") .non) s Q E := by
  refine ev_ok (a := false) (s' := s) ?_ q
  show (match sbTy "str" (.inl "NoneType") with | some b => R.ok b s | none => .no) = _
  rw [isi_NoneType_str]
theorem ev_isi_NoneType_bool {s : Stt} {Q : Bool → Stt → Prop} {E : Err → Stt → Prop} (q : Q false s) : EV (isiD (sbTy "bool") .non) s Q E := by
  refine ev_ok (a := false) (s' := s) ?_ q
  show (match sbTy "bool" (.inl "NoneType") with | some b => R.ok b s | none => .no) = _
  rw [isi_NoneType_bool]
theorem ev_isi_NoneType_list {s : Stt} {Q : Bool → Stt → Prop} {E : Err → Stt → Prop} (q : Q false s) : EV (isiD (sbTy "list") .non) s Q E := by
  refine ev_ok (a := false) (s' := s) ?_ q
  show (match sbTy "list" (.inl "NoneType") with | some b => R.ok b s | none => .no) = _
  rw [isi_NoneType_list]
theorem ev_isi_NoneType_tuple {s : Stt} {Q : Bool → Stt → Prop} {E : Err → Stt → Prop} (q : Q false s) : EV (isiD (sbTy "tuple") .non) s Q E := by
  refine ev_ok (a := false) (s' := s) ?_ q
  show (match sbTy "tuple" (.inl "NoneType") with | some b => R.ok b s | none => .no) = _
  rw [isi_NoneType_tuple]
theorem ev_isi_NoneType_dict {s : Stt} {Q : Bool → Stt → Prop} {E : Err → Stt → Prop} (q : Q false s) : EV (isiD (sbTy "dict") .non) s Q E := by
  refine ev_ok (a := false) (s' := s) ?_ q
  show (match sbTy "dict" (.inl "NoneType") with | some b => R.ok b s | none => .no) = _
  rw [isi_NoneType_dict]
theorem ev_isi_bool_int {b : Bool} {s : Stt} {Q : Bool → Stt → Prop} {E : Err → Stt → Prop} (q : Q true s) : EV (isiD (sbTy "int") (.bl b)) s Q E := by
  refine ev_ok (a := true) (s' := s) ?_ q
  show (match sbTy "int" (.inl "bool") with | some b => R.ok b s | none => .no) = _
  rw [isi_bool_int]
theorem ev_isi_bool_str {b : Bool} {s : Stt} {Q : Bool → Stt → Prop} {E : Err → Stt → Prop} (q : Q false s) : EV (isiD (sbTy "str") (.bl b)) s Q E := by
  refine ev_ok (a := false) (s' := s) ?_ q
  show (match sbTy "str" (.inl "bool") with | some b => R.ok b s | none => .no) = _
  rw [isi_bool_str]
theorem ev_isi_bool_bool {b : Bool} {s : Stt} {Q : Bool → Stt → Prop} {E : Err → Stt → Prop} (q : Q true s) : EV (isiD (sbTy "bool") (.bl b)) s Q E := by
  refine ev_ok (a := true) (s' := s) ?_ q
  show (match sbTy "bool" (.inl "bool") with | some b => R.ok b s | none => .no) = _
  rw [isi_bool_bool]
theorem ev_isi_bool_list {b : Bool} {s : Stt} {Q : Bool → Stt → Prop} {E : Err → Stt → Prop} (q : Q false s) : EV (isiD (sbTy "list") (.bl b)) s Q E := by
  refine ev_ok (a := false) (s' := s) ?_ q
  show (match sbTy "list" (.inl "bool") with | some b => R.ok b s | none => .no) = _
  rw [isi_bool_list]
theorem ev_isi_bool_tuple {b : Bool} {s : Stt} {Q : Bool → Stt → Prop} {E : Err → Stt → Prop} (q : Q false s) : EV (isiD (sbTy "tuple") (.bl b)) s Q E := by
  refine ev_ok (a := false) (s' := s) ?_ q
  show (match sbTy "tuple" (.inl "bool") with | some b => R.ok b s | none => .no) = _
  rw [isi_bool_tuple]
theorem ev_isi_bool_dict {b : Bool} {s : Stt} {Q : Bool → Stt → Prop} {E : Err → Stt → Prop} (q : Q false s) : EV (isiD (sbTy "dict") (.bl b)) s Q E := by
  refine ev_ok (a := false) (s' := s) ?_ q
  show (match sbTy "dict" (.inl "bool") with | some b => R.ok b s | none => .no) = _
  rw [isi_bool_dict]
theorem ev_isi_int_int {i : Int} {s : Stt} {Q : Bool → Stt → Prop} {E : Err → Stt → Prop} (q : Q true s) : EV (isiD (sbTy "int") (.int i)) s Q E := by
  refine ev_ok (a := true) (s' := s) ?_ q
  show (match sbTy "int" (.inl "int") with | some b => R.ok b s | none => .no) = _
  rw [isi_int_int]
theorem ev_isi_int_str {i : Int} {s : Stt} {Q : Bool → Stt → Prop} {E : Err → Stt → Prop} (q : Q false s) : EV (isiD (sbTy "str") (.int i)) s Q E := by
  refine ev_ok (a := false) (s' := s) ?_ q
  show (match sbTy "str" (.inl "int") with | some b => R.ok b s | none => .no) = _
  rw [isi_int_str]
theorem ev_isi_int_bool {i : Int} {s : Stt} {Q : Bool → Stt → Prop} {E : Err → Stt → Prop} (q : Q false s) : EV (isiD (sbTy "bool") (.int i)) s Q E := by
  refine ev_ok (a := false) (s' := s) ?_ q
  show (match sbTy "bool" (.inl "int") with | some b => R.ok b s | none => .no) = _
  rw [isi_int_bool]
theorem ev_isi_int_list {i : Int} {s : Stt} {Q : Bool → Stt → Prop} {E : Err → Stt → Prop} (q : Q false s) : EV (isiD (sbTy "list") (.int i)) s Q E := by
  refine ev_ok (a := false) (s' := s) ?_ q
  show (match sbTy "list" (.inl "int") with | some b => R.ok b s | none => .no) = _
  rw [isi_int_list]
theorem ev_isi_int_tuple {i : Int} {s : Stt} {Q : Bool → Stt → Prop} {E : Err → Stt → Prop} (q : Q false s) : EV (isiD (sbTy "tuple") (.int i)) s Q E := by
  refine ev_ok (a := false) (s' := s) ?_ q
  show (match sbTy "tuple" (.inl "int") with | some b => R.ok b s | none => .no) = _
  rw [isi_int_tuple]
theorem ev_isi_int_dict {i : Int} {s : Stt} {Q : Bool → Stt → Prop} {E : Err → Stt → Prop} (q : Q false s) : EV (isiD (sbTy "dict") (.int i)) s Q E := by
  refine ev_ok (a := false) (s' := s) ?_ q
  show (match sbTy "dict" (.inl "int") with | some b => R.ok b s | none => .no) = _
  rw [isi_int_dict]
theorem ev_isi_str_int {z : Str} {s : Stt} {Q : Bool → Stt → Prop} {E : Err → Stt → Prop} (q : Q false s) : EV (isiD (sbTy "int") (.str z)) s Q E := by
  refine ev_ok (a := false) (s' := s) ?_ q
  show (match sbTy "int" (.inl "str") with | some b => R.ok b s | none => .no) = _
  rw [isi_str_int]
theorem ev_isi_str_str {z : Str} {s : Stt} {Q : Bool → Stt → Prop} {E : Err → Stt → Prop} (q : Q true s) : EV (isiD (sbTy "str") (.str z)) s Q E := by
  refine ev_ok (a := true) (s' := s) ?_ q
  show (match sbTy "str" (.inl "str") with | some b => R.ok b s | none => .no) = _
  rw [isi_str_str]
theorem ev_isi_str_bool {z : Str} {s : Stt} {Q : Bool → Stt → Prop} {E : Err → Stt → Prop} (q : Q false s) : EV (isiD (sbTy "bool") (.str z)) s Q E := by
  refine ev_ok (a := false) (s' := s) ?_ q
  show (match sbTy "bool" (.inl "str") with | some b => R.ok b s | none => .no) = _
  rw [isi_str_bool]
theorem ev_isi_str_list {z : Str} {s : Stt} {Q : Bool → Stt → Prop} {E : Err → Stt → Prop} (q : Q false s) : EV (isiD (sbTy "list") (.str z)) s Q E := by
  refine ev_ok (a := false) (s' := s) ?_ q
  show (match sbTy "list" (.inl "str") with | some b => R.ok b s | none => .no) = _
  rw [isi_str_list]
theorem ev_isi_str_tuple {z : Str} {s : Stt} {Q : Bool → Stt → Prop} {E : Err → Stt → Prop} (q : Q false s) : EV (isiD (sbTy "tuple") (.str z)) s Q E := by
  refine ev_ok (a := false) (s' := s) ?_ q
  show (match sbTy "tuple" (.inl "str") with | some b => R.ok b s | none => .no) = _
  rw [isi_str_tuple]
theorem ev_isi_str_dict {z : Str} {s : Stt} {Q : Bool → Stt → Prop} {E : Err → Stt → Prop} (q : Q false s) : EV (isiD (sbTy "dict") (.str z)) s Q E := by
  refine ev_ok (a := false) (s' := s) ?_ q
  show (match sbTy "dict" (.inl "str") with | some b => R.ok b s | none => .no) = _
  rw [isi_str_dict]
theorem ev_isi_list_int {xs : List D} {s : Stt} {Q : Bool → Stt → Prop} {E : Err → Stt → Prop} (q : Q false s) : EV (isiD (sbTy "int") (.lst xs)) s Q E := by
  refine ev_ok (a := false) (s' := s) ?_ q
  show (match sbTy "int" (.inl "list") with | some b => R.ok b s | none => .no) = _
  rw [isi_list_int]
theorem ev_isi_list_str {xs : List D} {s : Stt} {Q : Bool → Stt → Prop} {E : Err → Stt → Prop} (q : Q false s) : EV (isiD (sbTy "str") (.lst xs)) s Q E := by
  refine ev_ok (a := false) (s' := s) ?_ q
  show (match sbTy "str" (.inl "list") with | some b => R.ok b s | none => .no) = _
  rw [isi_list_str]
theorem ev_isi_list_bool {xs : List D} {s : Stt} {Q : Bool → Stt → Prop} {E : Err → Stt → Prop} (q : Q false s) : EV (isiD (sbTy "bool") (.lst xs)) s Q E := by
  refine ev_ok (a := false) (s' := s) ?_ q
  show (match sbTy "bool" (.inl "list") with | some b => R.ok b s | none => .no) = _
  rw [isi_list_bool]
theorem ev_isi_list_list {xs : List D} {s : Stt} {Q : Bool → Stt → Prop} {E : Err → Stt → Prop} (q : Q true s) : EV (isiD (sbTy "list") (.lst xs)) s Q E := by
  refine ev_ok (a := true) (s' := s) ?_ q
  show (match sbTy "list" (.inl "list") with | some b => R.ok b s | none => .no) = _
  rw [isi_list_list]
theorem ev_isi_list_tuple {xs : List D} {s : Stt} {Q : Bool → Stt → Prop} {E : Err → Stt → Prop} (q : Q false s) : EV (isiD (sbTy "tuple") (.lst xs)) s Q E := by
  refine ev_ok (a := false) (s' := s) ?_ q
  show (match sbTy "tuple" (.inl "list") with | some b => R.ok b s | none => .no) = _
  rw [isi_list_tuple]
theorem ev_isi_list_dict {xs : List D} {s : Stt} {Q : Bool → Stt → Prop} {E : Err → Stt → Prop} (q : Q false s) : EV (isiD (sbTy "dict") (.lst xs)) s Q E := by
  refine ev_ok (a := false) (s' := s) ?_ q
  show (match sbTy "dict" (.inl "list") with | some b => R.ok b s | none => .no) = _
  rw [isi_list_dict]
theorem ev_isi_tuple_int {xs : List D} {s : Stt} {Q : Bool → Stt → Prop} {E : Err → Stt → Prop} (q : Q false s) : EV (isiD (sbTy "int") (.tup xs)) s Q E := by
  refine ev_ok (a := false) (s' := s) ?_ q
  show (match sbTy "int" (.inl "tuple") with | some b => R.ok b s | none => .no) = _
  rw [isi_tuple_int]
theorem ev_isi_tuple_str {xs : List D} {s : Stt} {Q : Bool → Stt → Prop} {E : Err → Stt → Prop} (q : Q false s) : EV (isiD (sbTy "str") (.tup xs)) s Q E := by
  refine ev_ok (a := false) (s' := s) ?_ q
  show (match sbTy "str" (.inl "tuple") with | some b => R.ok b s | none => .no) = _
  rw [isi_tuple_str]
theorem ev_isi_tuple_bool {xs : List D} {s : Stt} {Q : Bool → Stt → Prop} {E : Err → Stt → Prop} (q : Q false s) : EV (isiD (sbTy "bool") (.tup xs)) s Q E := by
  refine ev_ok (a := false) (s' := s) ?_ q
  show (match sbTy "bool" (.inl "tuple") with | some b => R.ok b s | none => .no) = _
  rw [isi_tuple_bool]
theorem ev_isi_tuple_list {xs : List D} {s : Stt} {Q : Bool → Stt → Prop} {E : Err → Stt → Prop} (q : Q false s) : EV (isiD (sbTy "list") (.tup xs)) s Q E := by
  refine ev_ok (a := false) (s' := s) ?_ q
  show (match sbTy "list" (.inl "tuple") with | some b => R.ok b s | none => .no) = _
  rw [isi_tuple_list]
theorem ev_isi_tuple_tuple {xs : List D} {s : Stt} {Q : Bool → Stt → Prop} {E : Err → Stt → Prop} (q : Q true s) : EV (isiD (sbTy "tuple") (.tup xs)) s Q E := by
  refine ev_ok (a := true) (s' := s) ?_ q
  show (match sbTy "tuple" (.inl "tuple") with | some b => R.ok b s | none => .no) = _
  rw [isi_tuple_tuple]
theorem ev_isi_tuple_dict {xs : List D} {s : Stt} {Q : Bool → Stt → Prop} {E : Err → Stt → Prop} (q : Q false s) : EV (isiD (sbTy "dict") (.tup xs)) s Q E := by
  refine ev_ok (a := false) (s' := s) ?_ q
  show (match sbTy "dict" (.inl "tuple") with | some b => R.ok b s | none => .no) = _
  rw [isi_tuple_dict]
theorem ev_isi_dict_int {ks : List (Key × D)} {s : Stt} {Q : Bool → Stt → Prop} {E : Err → Stt → Prop} (q : Q false s) : EV (isiD (sbTy "int") (.dic ks)) s Q E := by
  refine ev_ok (a := false) (s' := s) ?_ q
  show (match sbTy "int" (.inl "dict") with | some b => R.ok b s | none => .no) = _
  rw [isi_dict_int]
theorem ev_isi_dict_str {ks : List (Key × D)} {s : Stt} {Q : Bool → Stt → Prop} {E : Err → Stt → Prop} (q : Q false s) : EV (isiD (sbTy "str") (.dic ks)) s Q E := by
  refine ev_ok (a := false) (s' := s) ?_ q
  show (match sbTy "str" (.inl "dict") with | some b => R.ok b s | none => .no) = _
  rw [isi_dict_str]
theorem ev_isi_dict_bool {ks : List (Key × D)} {s : Stt} {Q : Bool → Stt → Prop} {E : Err → Stt → Prop} (q : Q false s) : EV (isiD (sbTy "bool") (.dic ks)) s Q E := by
  refine ev_ok (a := false) (s' := s) ?_ q
  show (match sbTy "bool" (.inl "dict") with | some b => R.ok b s | none => .no) = _
  rw [isi_dict_bool]
theorem ev_isi_dict_list {ks : List (Key × D)} {s : Stt} {Q : Bool → Stt → Prop} {E : Err → Stt → Prop} (q : Q false s) : EV (isiD (sbTy "list") (.dic ks)) s Q E := by
  refine ev_ok (a := false) (s' := s) ?_ q
  show (match sbTy "list" (.inl "dict") with | some b => R.ok b s | none => .no) = _
  rw [isi_dict_list]
theorem ev_isi_dict_tuple {ks : List (Key × D)} {s : Stt} {Q : Bool → Stt → Prop} {E : Err → Stt → Prop} (q : Q false s) : EV (isiD (sbTy "tuple") (.dic ks)) s Q E := by
  refine ev_ok (a := false) (s' := s) ?_ q
  show (match sbTy "tuple" (.inl "dict") with | some b => R.ok b s | none => .no) = _
  rw [isi_dict_tuple]
theorem ev_isi_dict_dict {ks : List (Key × D)} {s : Stt} {Q : Bool → Stt → Prop} {E : Err → Stt → Prop} (q : Q true s) : EV (isiD (sbTy "dict") (.dic ks)) s Q E := by
  refine ev_ok (a := true) (s' := s) ?_ q
  show (match sbTy "dict" (.inl "dict") with | some b => R.ok b s | none => .no) = _
  rw [isi_dict_dict]
local macro_rules | `(tactic| trivial) => `(tactic| first
  | with_reducible refine ev_bind ?_
  | with_reducible refine ev_pure ?_
  | with_reducible refine ev_getR rfl ?_
  | with_reducible refine ev_getV rfl ?_
  | with_reducible refine ev_getO rfl ?_
  | with_reducible refine ev_add ?_
  | with_reducible refine ev_sub ?_
  | with_reducible refine ev_toint ?_
  | with_reducible refine ev_asB ?_
  | with_reducible refine ev_notD ?_
  | with_reducible refine ev_negD ?_
  | with_reducible refine ev_trB ?_
  | with_reducible refine ev_asI ?_
  | with_reducible refine ev_asS ?_
  | with_reducible refine ev_lt ?_
  | with_reducible refine ev_le ?_
  | with_reducible refine ev_gt ?_
  | with_reducible refine ev_ge ?_
  | with_reducible refine ev_eqI ?_
  | with_reducible refine ev_neI ?_
  | with_reducible refine ev_lenL ?_
  | with_reducible refine ev_lenT ?_
  | with_reducible refine ev_seqL ?_
  | with_reducible refine ev_seqT ?_
  | with_reducible refine ev_seqS ?_
  | with_reducible refine ev_zip ?_
  | with_reducible refine ev_enum ?_
  | with_reducible refine ev_slL ?_
  | with_reducible refine ev_listL ?_
  | with_reducible refine ev_listT ?_
  | with_reducible refine w_seq ?_
  | with_reducible refine w_nil ?_
  | with_reducible refine w_set ?_
  | with_reducible refine w_setO ?_
  | with_reducible refine w_ret ?_
  | with_reducible refine w_drop ?_
  | with_reducible refine w_par ?_
  | with_reducible refine w_if ?_
  | with_reducible refine ev_isi_NoneType_int ?_
  | with_reducible refine ev_isi_NoneType_str ?_
  | with_reducible refine ev_isi_NoneType_bool ?_
  | with_reducible refine ev_isi_NoneType_list ?_
  | with_reducible refine ev_isi_NoneType_tuple ?_
  | with_reducible refine ev_isi_NoneType_dict ?_
  | with_reducible refine ev_isi_bool_int ?_
  | with_reducible refine ev_isi_bool_str ?_
  | with_reducible refine ev_isi_bool_bool ?_
  | with_reducible refine ev_isi_bool_list ?_
  | with_reducible refine ev_isi_bool_tuple ?_
  | with_reducible refine ev_isi_bool_dict ?_
  | with_reducible refine ev_isi_int_int ?_
  | with_reducible refine ev_isi_int_str ?_
  | with_reducible refine ev_isi_int_bool ?_
  | with_reducible refine ev_isi_int_list ?_
  | with_reducible refine ev_isi_int_tuple ?_
  | with_reducible refine ev_isi_int_dict ?_
  | with_reducible refine ev_isi_str_int ?_
  | with_reducible refine ev_isi_str_str ?_
  | with_reducible refine ev_isi_str_bool ?_
  | with_reducible refine ev_isi_str_list ?_
  | with_reducible refine ev_isi_str_tuple ?_
  | with_reducible refine ev_isi_str_dict ?_
  | with_reducible refine ev_isi_list_int ?_
  | with_reducible refine ev_isi_list_str ?_
  | with_reducible refine ev_isi_list_bool ?_
  | with_reducible refine ev_isi_list_list ?_
  | with_reducible refine ev_isi_list_tuple ?_
  | with_reducible refine ev_isi_list_dict ?_
  | with_reducible refine ev_isi_tuple_int ?_
  | with_reducible refine ev_isi_tuple_str ?_
  | with_reducible refine ev_isi_tuple_bool ?_
  | with_reducible refine ev_isi_tuple_list ?_
  | with_reducible refine ev_isi_tuple_tuple ?_
  | with_reducible refine ev_isi_tuple_dict ?_
  | with_reducible refine ev_isi_dict_int ?_
  | with_reducible refine ev_isi_dict_str ?_
  | with_reducible refine ev_isi_dict_bool ?_
  | with_reducible refine ev_isi_dict_list ?_
  | with_reducible refine ev_isi_dict_tuple ?_
  | with_reducible refine ev_isi_dict_dict ?_)

theorem ev_isiAny1 {sb : Sub1} {sbs : List Sub1} {x : D} {s : Stt} {Q : Bool → Stt → Prop} {E : Err → Stt → Prop} (q : EV (isiD sb x) s (fun b s' => (b = true → Q true s') ∧ (b = false → EV (isiAny sbs x) s' Q E)) E) : EV (isiAny (sb :: sbs) x) s Q E := by
  refine ev_bind (ev_imp q (fun b s' h => ?_) fun _ _ z => z)
  cases b with
  | true => exact h.1 rfl
  | false => exact h.2 rfl
theorem ev_isiAny0 {x : D} {s : Stt} {Q : Bool → Stt → Prop} {E : Err → Stt → Prop} (q : Q false s) : EV (isiAny [] x) s Q E := q
theorem cut_map (ns : List Int) (lo hi : Option Int) : cutD (ns.map D.int) lo hi = (((ns.drop (HT.sIx ns.length 0 lo)).take (HT.sIx ns.length ns.length hi - HT.sIx ns.length 0 lo))).map D.int := by
  unfold cutD
  rw [List.length_map, ← List.map_drop, ← List.map_take]
theorem ev_bag {ns : List Int} {s : Stt} {Q : D → Stt → Prop} {E : Err → Stt → Prop} (q : ∀ B : Bag, B.Ok 0 → Q B.d s) : EV (CM.m_law_bag [.lst (ns.map D.int)]) s Q E := by
  refine w_runO (ρ := [.val (.lst (ns.map D.int)), .no, .no]) rfl ?_
  unfold CM.b_law_bag
  refine w_seq (w_set (ev_pure (w_seq (w_forI ?_))))
  refine ev_bind (ev_bind (ev_getR rfl (ev_bind (ev_pure (ev_bind (ev_bind (ev_pure (ev_asI ?_))))))))
  refine ev_slL (ev_seqL ⟨fun _ ρ s' => s' = s ∧ ∃ (m : Int) (x : Slot), ρ = [.val (.lst (ns.map D.int)), .val (.int m), x] ∧ 0 ≤ m ∧ m < 2147483648, ⟨rfl, 12011, .no, rfl, by decide, by decide⟩, ?_, ?_⟩)
  · rintro i d ρ s' hd ⟨rfl, m, x, rfl, hm, hm2⟩
    refine ⟨_, rfl, ?_⟩
    rw [cut_map, List.getElem?_map] at hd
    obtain ⟨k, _, rfl⟩ := Option.map_eq_some_iff.mp hd
    repeat (first | trivial | with_reducible refine ev_muls (by omega) (by omega) ?_ | with_reducible refine ev_mod (by decide) ?_)
    exact ⟨rfl, _, _, rfl, Int.emod_nonneg _ (by decide), Int.lt_trans (Int.emod_lt_of_pos _ (by decide)) (by decide)⟩
  · rintro ρ s' ⟨rfl, m, x, rfl, hm, hm2⟩
    refine w_ret ?_
    repeat trivial
    refine ev_lstD (by show 5 ≤ 1000000; omega) ?_
    rw [cut_map]
    exact q ⟨_, 0, 0, m, 0⟩ ⟨Int.le_refl 0, hm, hm2, Nat.le_refl _⟩
theorem ev_ofL {rest : Stt} {B : Bag} {c : Nat} {xs : List D} {Q : D → Stt → Prop} {E : Err → Stt → Prop} (hB : B.Ok c) (hc : c < 2 ^ 60) (h0 : 0 < xs.length) (h1 : xs.length < 2 ^ 60)
    (q : ∀ (k : Nat) (hk : k < xs.length) (B' : Bag), B'.Ok (c + 1) → Q xs[k] (B'.d :: rest)) : EV (CM.m_law_of [.obj 0, .lst xs]) (B.d :: rest) Q E := by
  refine w_run (ρ := [.val (.obj 0), .val (.lst xs)]) rfl ?_
  unfold CM.b_law_of
  refine w_ret ?_
  repeat trivial
  refine ev_call ⟨rfl, rfl, rfl⟩ rfl (ev_draw hB hc (by omega) (by omega) fun r B' hr1 hr2 hB' => ?_)
  obtain ⟨k, rfl⟩ : ∃ k : Nat, r = (k : Int) := ⟨r.toNat, by omega⟩
  have hk : k < xs.length := by omega
  exact ev_ixL (by rw [atI0]; exact List.getElem?_eq_getElem hk) (q k hk B' hB')
theorem ev_ixS {z : Str} {k : Nat} {s : Stt} {Q : D → Stt → Prop} {E : Err → Stt → Prop} (hz : z.length ≤ SIZE) (hk : k < z.cps.toList.length) (q : Q (.str ⟨#[z.cps.toList[k]]⟩) s) : EV (ixD (.str z) (.int (k : Int))) s Q E := by
  refine ev_ok (a := .str ⟨#[z.cps.toList[k]]⟩) (s' := s) ?_ q
  unfold ixD
  simp only [if_pos hz, atI0, List.getElem?_eq_getElem hk]
  rfl
theorem ev_ofS {rest : Stt} {B : Bag} {c : Nat} {z : Str} {Q : D → Stt → Prop} {E : Err → Stt → Prop} (hB : B.Ok c) (hc : c < 2 ^ 60) (h0 : 0 < z.length) (h1 : z.length ≤ SIZE)
    (q : ∀ (k : Nat) (hk : k < z.cps.toList.length) (B' : Bag), B'.Ok (c + 1) → Q (.str ⟨#[z.cps.toList[k]]⟩) (B'.d :: rest)) : EV (CM.m_law_of [.obj 0, .str z]) (B.d :: rest) Q E := by
  have hl : z.cps.toList.length = z.length := by simp [Str.length]
  refine w_run (ρ := [.val (.obj 0), .val (.str z)]) rfl ?_
  unfold CM.b_law_of
  refine w_ret ?_
  repeat (first | trivial | with_reducible refine ev_lenS h1 ?_)
  refine ev_call ⟨rfl, rfl, rfl⟩ rfl (ev_draw hB hc (by omega) (by unfold SIZE at h1; omega) fun r B' hr1 hr2 hB' => ?_)
  obtain ⟨k, rfl⟩ : ∃ k : Nat, r = (k : Int) := ⟨r.toNat, by omega⟩
  have hk : k < z.cps.toList.length := by omega
  exact ev_ixS h1 hk (q k hk B' hB')
theorem bools_true : ∀ (xs : List D), (∀ x ∈ xs, x = .bl true) → boolsD xs = some (List.replicate xs.length true)
  | [], _ => rfl
  | x :: xs, h => by
    have e := h x (List.mem_cons_self ..)
    subst e
    have ih := bools_true xs fun y hy => h y (List.mem_cons_of_mem _ hy)
    show (boolsD xs).map (true :: ·) = _
    rw [ih]; rfl
theorem ev_allT {xs : List D} {s : Stt} {Q : D → Stt → Prop} {E : Err → Stt → Prop} (h : ∀ x ∈ xs, x = .bl true) (q : Q (.bl true) s) : EV (allD (.lst xs)) s Q E := by
  refine ev_atM ?_ q
  rw [bools_true xs h]
  simp
/-- data of at most n depth -/
def D.dat : Nat → D → Bool
  | _, .non => true
  | _, .bl _ => true
  | _, .int _ => true
  | _, .str _ => true
  | n + 1, .lst xs => decide (xs.length < SIZE) && xs.all (D.dat n)
  | n + 1, .tup xs => decide (xs.length < SIZE) && xs.all (D.dat n)
  | _, _ => false
theorem ne_bl {a b : Bool} {s : Stt} : neD (.bl a) (.bl b) s = .ok (.bl !(decide (a = b))) s := by
  show (eqB (.bl a) (.bl b) >>= fun b => (pure (.bl !b) : M D)) s = _
  have e : eqB (.bl a) (.bl b) = pure (PyData.eqv (.bool a) (.bool b)) := rfl
  rw [e]
  cases a <;> cases b <;> rfl
theorem eq_bl {a b : Bool} {s : Stt} : eqD (.bl a) (.bl b) s = .ok (.bl (decide (a = b))) s := by
  show (eqB (.bl a) (.bl b) >>= fun b => (pure (.bl b) : M D)) s = _
  have e : eqB (.bl a) (.bl b) = pure (PyData.eqv (.bool a) (.bool b)) := rfl
  rw [e]
  cases a <;> cases b <;> rfl
section
variable {a b : Bool} {s : Stt} {Q : D → Stt → Prop} {E : Err → Stt → Prop}
theorem ev_neB (q : Q (.bl !(decide (a = b))) s) : EV (neD (.bl a) (.bl b)) s Q E := ev_ok ne_bl q
theorem ev_eqB (q : Q (.bl (decide (a = b))) s) : EV (eqD (.bl a) (.bl b)) s Q E := ev_ok eq_bl q
end
local macro_rules | `(tactic| trivial) => `(tactic| first
  | with_reducible refine ev_neB ?_
  | with_reducible refine ev_eqB ?_)
theorem same_seq {n : Nat} {x : D} {xs : List D} {s : Stt} {Q : D → Stt → Prop} {E : Err → Stt → Prop} (hx : x = .lst xs ∨ x = .tup xs) (hz : xs.length < SIZE) (ih : ∀ y ∈ xs, ∀ (s : Stt) (Q : D → Stt → Prop) (E : Err → Stt → Prop), Q (.bl true) s → EV (CM.m_law_same n [y, y]) s Q E) (q : Q (.bl true) s) :
    EV (lcD (e2 zipM (getV 0) (getV 1)) (gTp 2 (gsCons (gNm 2) (gsCons (gNm 3) gsNil))) tYesM (eCal 2 0 2 (fmt [0, 1]) (CM.m_law_same n) (eCons (getV 2) (eCons (getV 3) eNil)) eNil) [2, 3] [.val (.lst xs), .val (.lst xs), .no, .no]) s (fun d s' => d = .lst (List.replicate xs.length (.bl true)) ∧ s' = s) E := by
  have hl : (zipD xs xs).length = xs.length := by simp [zipD]
  refine ev_lc ?_
  repeat trivial
  refine ⟨by rw [hl]; exact hz, fun i acc s' => s' = s ∧ acc = List.replicate i (.bl true), ⟨rfl, rfl⟩, ?_, ?_⟩
  · rintro i d acc s' hd ⟨rfl, rfl⟩
    have hi : i < xs.length := by rw [← hl]; exact (List.getElem?_eq_some_iff.mp hd).1
    have e3 : (zipD xs xs)[i]? = some (.tup [xs[i], xs[i]]) := by
      unfold zipD
      rw [List.getElem?_map, show (xs.zip xs)[i]? = some (xs[i], xs[i]) from List.getElem?_zip_eq_some.mpr ⟨List.getElem?_eq_getElem hi, List.getElem?_eq_getElem hi⟩]
      rfl
    rw [e3] at hd; cases hd
    refine ⟨_, rfl, ev_pure ⟨fun _ => ?_, fun z => Bool.noConfusion z⟩⟩
    repeat trivial
    refine ev_call ⟨rfl, rfl, rfl⟩ rfl (ih _ (List.getElem_mem hi) _ _ _ ⟨rfl, ?_⟩)
    rw [List.replicate_succ']
  · rintro acc s' ⟨rfl, rfl⟩
    exact ⟨by rw [hl], rfl⟩
theorem same_seqT {n : Nat} {xs : List D} {s : Stt} {Q : D → Stt → Prop} {E : Err → Stt → Prop} (hz : xs.length < SIZE) (ih : ∀ y ∈ xs, ∀ (s : Stt) (Q : D → Stt → Prop) (E : Err → Stt → Prop), Q (.bl true) s → EV (CM.m_law_same n [y, y]) s Q E) (q : Q (.bl true) s) :
    EV (lcD (e2 zipM (getV 0) (getV 1)) (gTp 2 (gsCons (gNm 2) (gsCons (gNm 3) gsNil))) tYesM (eCal 2 0 2 (fmt [0, 1]) (CM.m_law_same n) (eCons (getV 2) (eCons (getV 3) eNil)) eNil) [2, 3] [.val (.tup xs), .val (.tup xs), .no, .no]) s (fun d s' => d = .lst (List.replicate xs.length (.bl true)) ∧ s' = s) E := by
  have hl : (zipD xs xs).length = xs.length := by simp [zipD]
  refine ev_lc ?_
  repeat trivial
  refine ⟨by rw [hl]; exact hz, fun i acc s' => s' = s ∧ acc = List.replicate i (.bl true), ⟨rfl, rfl⟩, ?_, ?_⟩
  · rintro i d acc s' hd ⟨rfl, rfl⟩
    have hi : i < xs.length := by rw [← hl]; exact (List.getElem?_eq_some_iff.mp hd).1
    have e3 : (zipD xs xs)[i]? = some (.tup [xs[i], xs[i]]) := by
      unfold zipD
      rw [List.getElem?_map, show (xs.zip xs)[i]? = some (xs[i], xs[i]) from List.getElem?_zip_eq_some.mpr ⟨List.getElem?_eq_getElem hi, List.getElem?_eq_getElem hi⟩]
      rfl
    rw [e3] at hd; cases hd
    refine ⟨_, rfl, ev_pure ⟨fun _ => ?_, fun z => Bool.noConfusion z⟩⟩
    repeat trivial
    refine ev_call ⟨rfl, rfl, rfl⟩ rfl (ih _ (List.getElem_mem hi) _ _ _ ⟨rfl, ?_⟩)
    rw [List.replicate_succ']
  · rintro acc s' ⟨rfl, rfl⟩
    exact ⟨by rw [hl], rfl⟩
theorem br_T {p q : Prop} (h : p) : (true = true → p) ∧ (true = false → q) := ⟨fun _ => h, fun z => Bool.noConfusion z⟩
theorem br_F {p q : Prop} (h : q) : (false = true → p) ∧ (false = false → q) := ⟨fun z => Bool.noConfusion z, fun _ => h⟩
local macro_rules | `(tactic| trivial) => `(tactic| first
  | with_reducible refine ev_isiAny1 ?_
  | with_reducible refine ev_isiAny0 ?_
  | refine br_T ?_
  | refine br_F ?_
  | refine ev_ifT rfl ?_
  | refine ev_ifF rfl ?_)
theorem same_refl : ∀ (n : Nat) (x : D) (s : Stt) (Q : D → Stt → Prop) (E : Err → Stt → Prop), x.dat n = true → Q (.bl true) s → EV (CM.m_law_same (n + 1) [x, x]) s Q E
  | n, x, s, Q, E, hx, q => by
    refine w_run (ρ := [.val x, .val x, .no, .no]) rfl ?_
    unfold CM.b_law_same
    cases x with
    | non => repeat trivial
    | bl b =>
      repeat trivial
      simpa using q
    | int b =>
      repeat trivial
      simpa using q
    | str b =>
      repeat trivial
      refine ev_eqS ?_
      simpa using q
    | lst xs =>
      cases n with
      | zero => cases hx
      | succ n =>
        have hx : (decide (xs.length < SIZE) && xs.all (D.dat n)) = true := hx
        rw [Bool.and_eq_true] at hx
        have hz := of_decide_eq_true hx.1
        repeat trivial
        have e : decide ((xs.length : Int) = (xs.length : Int)) = true := decide_eq_true rfl
        rw [e]
        repeat trivial
        refine ev_imp (same_seq (.inl rfl) hz (fun y hy s Q E q => same_refl n y s Q E (List.all_eq_true.mp hx.2 y hy) q) q) ?_ (fun _ _ z => z)
        rintro d s' ⟨rfl, rfl⟩
        exact ev_allT (fun x hx => List.eq_of_mem_replicate hx) q
    | tup xs =>
      cases n with
      | zero => cases hx
      | succ n =>
        have hx : (decide (xs.length < SIZE) && xs.all (D.dat n)) = true := hx
        rw [Bool.and_eq_true] at hx
        have hz := of_decide_eq_true hx.1
        repeat trivial
        have e : decide ((xs.length : Int) = (xs.length : Int)) = true := decide_eq_true rfl
        rw [e]
        repeat trivial
        refine ev_imp (same_seqT hz (fun y hy s Q E q => same_refl n y s Q E (List.all_eq_true.mp hx.2 y hy) q) q) ?_ (fun _ _ z => z)
        rintro d s' ⟨rfl, rfl⟩
        exact ev_allT (fun x hx => List.eq_of_mem_replicate hx) q
    | _ => cases n <;> cases hx
theorem w_id {m : SM} {ρ : Env} {s : Stt} {N B C : Env → Stt → Prop} {R : D → Stt → Prop} {E : Err → Stt → Prop} (h : WP m ρ s N R B C E) : WP m ρ s N R B C E := h
theorem ev_id {α : Type} {x : M α} {s : Stt} {Q : α → Stt → Prop} {E : Err → Stt → Prop} (h : EV x s Q E) : EV x s Q E := h
theorem ev_isi_id {sb : Sub1} {x : D} {s : Stt} {Q : Bool → Stt → Prop} {E : Err → Stt → Prop} (h : EV (isiD sb x) s Q E) : EV (isiD sb x) s Q E := h
theorem ev_inS {c : Nat} {z : Str} {s : Stt} {Q : D → Stt → Prop} {E : Err → Stt → Prop} (q : Q (.bl (decide (c ∈ z.cps.toList))) s) : EV (inD (.str ⟨#[c]⟩) (.str z)) s Q E := q
theorem ev_addS {a b : Str} {s : Stt} {Q : D → Stt → Prop} {E : Err → Stt → Prop} (h : a.length + b.length ≤ SIZE) (q : Q (.str (a ++ b)) s) : EV (addD (.str a) (.str b)) s Q E := by
  show EV (if a.length + b.length ≤ SIZE then pure (.str (a ++ b)) else no : M D) s Q E
  rw [if_pos h]; exact q
theorem ev_lst_id {xs : List D} {s : Stt} {Q : D → Stt → Prop} {E : Err → Stt → Prop} (h : EV (lstD xs) s Q E) : EV (lstD xs) s Q E := h
theorem ev_tup_id {xs : List D} {s : Stt} {Q : D → Stt → Prop} {E : Err → Stt → Prop} (h : EV (tupD xs) s Q E) : EV (tupD xs) s Q E := h
theorem ev_if_id {α : Type} {b : Bool} {x y : M α} {s : Stt} {Q : α → Stt → Prop} {E : Err → Stt → Prop} (h : EV (if b = true then x else y) s Q E) : EV (if b = true then x else y) s Q E := h
end PV
end

section
/-! stepping by rewriting at the head -/
namespace PV
open PySem PySem.Spec L2
open PyProof.Rows hiding St
structure U3 (p q : Prop) : Type where
def Br (k : Bool) (p q : Prop) (_u : U3 p q := ⟨⟩) : Prop := (k = true → p) ∧ (k = false → q)
section
variable {α β γ : Type} {s s' : Stt} {E : Err → Stt → Prop} {N B C : Env → Stt → Prop} {R : D → Stt → Prop} {ρ ρ' : Env}
theorem br_intro {k : Bool} {p q : Prop} (h : k = true → p) (h' : k = false → q) : Br k p q := ⟨h, h'⟩
theorem s_brT {p q : Prop} : Br true p q ↔ p := ⟨fun h => h.1 rfl, fun h => ⟨fun _ => h, fun z => Bool.noConfusion z⟩⟩
theorem s_brF {p q : Prop} : Br false p q ↔ q := ⟨fun h => h.2 rfl, fun h => ⟨fun z => Bool.noConfusion z, fun _ => h⟩⟩
theorem s_pure {a : α} {Q : α → Stt → Prop} : EV (pure a : M α) s Q E ↔ Q a s := Iff.rfl
theorem s_Mpure {a : α} {Q : α → Stt → Prop} : EV (M.pure a : M α) s Q E ↔ Q a s := Iff.rfl
theorem s_bind {x : M α} {f : α → M β} {Q : β → Stt → Prop} : EV (x >>= f) s Q E ↔ EV x s (fun a s' => EV (f a) s' Q E) E := by
  unfold EV
  rw [bind_def]
  cases x s <;> rfl
theorem s_if {b : Bool} {x y : M α} {Q : α → Stt → Prop} : EV (if b = true then x else y) s Q E ↔ Br b (EV x s Q E) (EV y s Q E) := by
  cases b with
  | true => rw [if_pos rfl, s_brT]
  | false => rw [if_neg (by decide), s_brF]
theorem s_no {Q : α → Stt → Prop} : EV (no : M α) s Q E ↔ False := Iff.rfl
theorem s_ite {p : Prop} [Decidable p] (h : p) {x y : M α} {Q : α → Stt → Prop} : EV (if p then x else y) s Q E ↔ EV x s Q E := by rw [if_pos h]
theorem s_raise {e : Err} {Q : α → Stt → Prop} : EV (raise e : M α) s Q E ↔ E e s := Iff.rfl
/-! names -/
theorem s_getV0 {d : D} {Q : D → Stt → Prop} : EV (getV 0 (.val d :: ρ)) s Q E ↔ Q d s := Iff.rfl
theorem s_getR0 {d : D} {Q : D → Stt → Prop} : EV (getR 0 (.val d :: ρ)) s Q E ↔ Q d s := Iff.rfl
theorem s_getO0 {d : D} {Q : D → Stt → Prop} : EV (getR 0 (.own d :: ρ)) s Q E ↔ Q d s := Iff.rfl
theorem s_getV {n : Nat} {x : Slot} {Q : D → Stt → Prop} : EV (getV (n + 1) (x :: ρ)) s Q E ↔ EV (getV n ρ) s Q E := Iff.rfl
theorem s_getR {n : Nat} {x : Slot} {Q : D → Stt → Prop} : EV (getR (n + 1) (x :: ρ)) s Q E ↔ EV (getR n ρ) s Q E := Iff.rfl
/-! statements -/
theorem s_seq {a b : SM} : WP (sSeq a b) ρ s N R B C E ↔ WP a ρ s (fun ρ' s' => WP b ρ' s' N R B C E) R B C E := by
  unfold WP sSeq
  cases a ρ s <;> rfl
theorem s_nil : WP sNil ρ s N R B C E ↔ N ρ s := Iff.rfl
theorem s_sB {x : M α} {k : α → Stt → SR} {m : SM} (hm : m ρ s = sB x ρ k s) : WP m ρ s N R B C E ↔ EV x s (fun a s' => WP (fun _ => k a) ρ s' N R B C E) E := by
  unfold WP EV
  rw [hm]
  unfold sB
  cases x s <;> rfl
theorem s_set {i : Nat} {f : Env → M D} : WP (sSet i f) ρ s N R B C E ↔ EV (f ρ) s (fun d s' => N (ρ.set i (.val d)) s') E := by rw [s_sB (m := sSet i f) rfl]; rfl
theorem s_setO {i : Nat} {f : Env → M D} : WP (sSetO i f) ρ s N R B C E ↔ EV (f ρ) s (fun d s' => N (ρ.set i (.own d)) s') E := by rw [s_sB (m := sSetO i f) rfl]; rfl
theorem s_ret {f : Env → M D} : WP (sRet f) ρ s N R B C E ↔ EV (f ρ) s R E := by rw [s_sB (m := sRet f) rfl]; rfl
theorem s_drop {f : Env → M α} : WP (sDrop f) ρ s N R B C E ↔ EV (f ρ) s (fun _ s' => N ρ s') E := by rw [s_sB (m := sDrop f) rfl]; rfl
theorem s_sif {t : Env → M Bool} {a b : SM} : WP (sIf t a b) ρ s N R B C E ↔ EV (t ρ) s (fun k s' => Br k (WP a ρ s' N R B C E) (WP b ρ s' N R B C E)) E := by
  rw [s_sB (m := sIf t a b) rfl]
  have : (fun k s' => WP (fun _ => (fun k s' => if k = true then a ρ s' else b ρ s') k) ρ s' N R B C E) = fun k s' => Br k (WP a ρ s' N R B C E) (WP b ρ s' N R B C E) := by
    funext k s'
    cases k with
    | true => exact propext s_brT.symm
    | false => exact propext s_brF.symm
  rw [← this]
theorem s_frz0 {i : Nat} {d : D} (h : ρ[i]? = some (.own d)) : WP (sFrz i) ρ s N R B C E ↔ N (ρ.set i (.val d)) s := by unfold WP sFrz; rw [h]
theorem s_frzV {i : Nat} {d : D} (h : ρ[i]? = some (.val d)) : WP (sFrz i) ρ s N R B C E ↔ N ρ s := by unfold WP sFrz; rw [h]
theorem s_sto {i : Nat} {d : D} (h : ρ[i]? = some (.own d)) : WP (sSto i) ρ s N R B C E ↔ N (ρ.set i (.val (.obj s.length))) (s ++ [d]) := by unfold WP sSto; rw [h]
theorem s_par {i j : Nat} {w1 w2 : Bool} {f g : Env → M D} : WP (sPar i j w1 w2 f g) ρ s N R B C E ↔ EV (f ρ) s (fun d s1 => EV (g ρ) s1 (fun d' s2 => N ((ρ.set i (slotOf w1 d)).set j (slotOf w2 d')) s2) E) E := by
  rw [s_sB (m := sPar i j w1 w2 f g) rfl]
  exact iff_of_eq (congrArg (fun q => EV (f ρ) s q E) (funext fun d => funext fun s1 => propext (by rw [s_sB (m := fun _ s1 => sB (g ρ) ρ (fun d' s2 => SR.nx ((List.set ρ i (slotOf w1 d)).set j (slotOf w2 d')) s2) s1) rfl]; rfl)))
theorem s_slotT {d : D} : slotOf true d = .own d := rfl
theorem s_slotF {d : D} : slotOf false d = .val d := rfl
/-! operations -/
variable {i j : Int} {Q : D → Stt → Prop} {T : Bool → Stt → Prop}
theorem s_add : EV (addD (.int i) (.int j)) s Q E ↔ Q (.int (i + j)) s := Iff.rfl
theorem s_sub : EV (subD (.int i) (.int j)) s Q E ↔ Q (.int (i - j)) s := Iff.rfl
theorem s_lt : EV (ltD (.int i) (.int j)) s Q E ↔ Q (.bl (decide (i < j))) s := Iff.rfl
theorem s_le : EV (leD (.int i) (.int j)) s Q E ↔ Q (.bl (decide (i ≤ j))) s := Iff.rfl
theorem s_gt : EV (gtD (.int i) (.int j)) s Q E ↔ Q (.bl (decide (j < i))) s := Iff.rfl
theorem s_ge : EV (geD (.int i) (.int j)) s Q E ↔ Q (.bl (decide (j ≤ i))) s := Iff.rfl
theorem s_toint : EV (intD (.int i)) s Q E ↔ Q (.int i) s := Iff.rfl
theorem s_tointB {b : Bool} : EV (intD (.bl b)) s Q E ↔ Q (.int (if b then 1 else 0)) s := Iff.rfl
theorem s_asB {b : Bool} : EV (asB (.bl b)) s T E ↔ T b s := Iff.rfl
theorem s_notD {b : Bool} : EV (notD (.bl b)) s Q E ↔ Q (.bl !b) s := Iff.rfl
theorem s_negD : EV (negD (.int i)) s Q E ↔ Q (.int (-i)) s := Iff.rfl
theorem s_absD : EV (absD (.int i)) s Q E ↔ Q (.int (if i < 0 then -i else i)) s := Iff.rfl
theorem s_trB {b : Bool} : EV (truD (.bl b)) s T E ↔ T b s := Iff.rfl
theorem s_trI : EV (truD (.int i)) s T E ↔ T (i != 0) s := Iff.rfl
theorem s_trL {xs : List D} : EV (truD (.lst xs)) s T E ↔ T (!xs.isEmpty) s := Iff.rfl
theorem s_trTu {xs : List D} : EV (truD (.tup xs)) s T E ↔ T (!xs.isEmpty) s := Iff.rfl
theorem s_trN : EV (truD .non) s T E ↔ T false s := Iff.rfl
theorem s_asI {Q : Option Int → Stt → Prop} : EV (asI (.int i)) s Q E ↔ Q (some i) s := Iff.rfl
theorem s_asS {z : Str} {Q : Str → Stt → Prop} : EV (asS (.str z)) s Q E ↔ Q z s := Iff.rfl
theorem s_okeq {x : M α} {a : α} {Q : α → Stt → Prop} (h : x s = .ok a s') : EV x s Q E ↔ Q a s' := by unfold EV; rw [h]
theorem s_eqI : EV (eqD (.int i) (.int j)) s Q E ↔ Q (.bl (decide (i = j))) s := s_okeq eq_int
theorem s_neI : EV (neD (.int i) (.int j)) s Q E ↔ Q (.bl !(decide (i = j))) s := s_okeq ne_int
theorem s_eqB {a b : Bool} : EV (eqD (.bl a) (.bl b)) s Q E ↔ Q (.bl (decide (a = b))) s := s_okeq eq_bl
theorem s_neB {a b : Bool} : EV (neD (.bl a) (.bl b)) s Q E ↔ Q (.bl !(decide (a = b))) s := s_okeq ne_bl
theorem s_eqS {a b : Str} : EV (eqD (.str a) (.str b)) s Q E ↔ Q (.bl (decide (a = b))) s := Iff.rfl
theorem s_neS {a b : Str} : EV (neD (.str a) (.str b)) s Q E ↔ Q (.bl !(decide (a = b))) s := Iff.rfl
theorem s_ltS {a b : Str} : EV (ltD (.str a) (.str b)) s Q E ↔ Q (.bl (decide (a.cps.toList < b.cps.toList))) s := Iff.rfl
theorem s_leS {a b : Str} : EV (leD (.str a) (.str b)) s Q E ↔ Q (.bl (!decide (b.cps.toList < a.cps.toList))) s := Iff.rfl
theorem s_lenL {xs : List D} : EV (lenD (.lst xs)) s Q E ↔ Q (.int xs.length) s := Iff.rfl
theorem s_lenT {xs : List D} : EV (lenD (.tup xs)) s Q E ↔ Q (.int xs.length) s := Iff.rfl
theorem s_lenD {ks : List (Key × D)} : EV (lenD (.dic ks)) s Q E ↔ Q (.int ks.length) s := Iff.rfl
theorem s_lenS {z : Str} (h : z.length ≤ 1000000) : EV (lenD (.str z)) s Q E ↔ Q (.int z.length) s := by
  show EV (if z.length ≤ SIZE then pure (.int z.length) else no : M D) s Q E ↔ _
  rw [if_pos h]; rfl
theorem s_addS {a b : Str} (h : a.length + b.length ≤ 1000000) : EV (addD (.str a) (.str b)) s Q E ↔ Q (.str (a ++ b)) s := by
  show EV (if a.length + b.length ≤ SIZE then pure (.str (a ++ b)) else no : M D) s Q E ↔ _
  rw [if_pos h]; rfl
theorem s_addL {a b : List D} (h : a.length + b.length ≤ 1000000) : EV (addD (.lst a) (.lst b)) s Q E ↔ Q (.lst (a ++ b)) s := by
  show EV (if a.length + b.length ≤ SIZE then pure (.lst (a ++ b)) else no : M D) s Q E ↔ _
  rw [if_pos h]; rfl
theorem s_catL {a b : List D} (h : a.length + b.length ≤ 1000000) : EV (catD (.lst a) (.lst b)) s Q E ↔ Q (.lst (a ++ b)) s := by
  show EV (if a.length + b.length ≤ SIZE then pure (.lst (a ++ b)) else no : M D) s Q E ↔ _
  rw [if_pos h]; rfl
theorem s_mul (h : i.natAbs.log2 + j.natAbs.log2 < 1000000) : EV (mulD (.int i) (.int j)) s Q E ↔ Q (.int (i * j)) s := by
  show EV (if i.natAbs.log2 + j.natAbs.log2 < 1000000 then pure (.int (i * j)) else no : M D) s Q E ↔ _
  rw [if_pos h]; rfl
theorem s_mod (hj : 0 < j) : EV (modD (.int i) (.int j)) s Q E ↔ Q (.int (i % j)) s := s_okeq (mod_ok hj)
theorem s_fdiv (hj : 0 < j) (hj2 : j ≤ 1000000000000000000000000000000000000000000000000000000000000) : EV (fdivD (.int i) (.int j)) s Q E ↔ Q (.int (i / j)) s := s_okeq (fdiv_ok hj hj2)
theorem s_pow (h0 : 0 ≤ j) (h1 : j ≤ 1000000) (h2 : i.natAbs < 2 ^ 64) : EV (powD (.int i) (.int j)) s Q E ↔ Q (.int (i ^ j.toNat)) s := by
  show EV (if 0 ≤ j ∧ j ≤ 1000000 ∧ i.natAbs < 2 ^ 64 then pure (.int (i ^ j.toNat)) else no : M D) s Q E ↔ _
  rw [if_pos ⟨h0, h1, h2⟩]; rfl
theorem s_lst {xs : List D} (h : xs.length ≤ 1000000) : EV (lstD xs) s Q E ↔ Q (.lst xs) s := by unfold lstD; rw [if_pos h]; rfl
theorem s_tup {xs : List D} (h : xs.length ≤ 1000000) : EV (tupD xs) s Q E ↔ Q (.tup xs) s := by unfold tupD; rw [if_pos h]; rfl
theorem s_lst0 : EV (lstD []) s Q E ↔ Q (.lst []) s := Iff.rfl
theorem s_listL {xs : List D} : EV (listD (.lst xs)) s Q E ↔ Q (.lst xs) s := Iff.rfl
theorem s_listT {xs : List D} : EV (listD (.tup xs)) s Q E ↔ Q (.lst xs) s := Iff.rfl
theorem s_slL {xs : List D} {lo hi : Option Int} : EV (slD (.lst xs) lo hi) s Q E ↔ Q (.lst (cutD xs lo hi)) s := Iff.rfl
theorem s_slLL {xs : List D} {lo hi : Option Int} : EV (slL (.lst xs) lo hi) s Q E ↔ Q (.lst (cutD xs lo hi)) s := Iff.rfl
theorem s_slS {z : Str} {lo hi : Option Int} (h : z.length ≤ 1000000) : EV (slD (.str z) lo hi) s Q E ↔ Q (.str (cutS z lo hi)) s := by
  show EV (if z.length ≤ SIZE then pure (.str (cutS z lo hi)) else no : M D) s Q E ↔ _
  rw [if_pos h]; rfl
theorem s_seqL {xs : List D} {Q : List D → Stt → Prop} : EV (seqM (.lst xs)) s Q E ↔ Q xs s := Iff.rfl
theorem s_seqT {xs : List D} {Q : List D → Stt → Prop} : EV (seqM (.tup xs)) s Q E ↔ Q xs s := Iff.rfl
theorem s_seqS {z : Str} {Q : List D → Stt → Prop} : EV (seqM (.str z)) s Q E ↔ Q (chrD z) s := Iff.rfl
theorem s_rng1 {Q : List D → Stt → Prop} (h0 : -4611686018427387904 ≤ i) (h1 : i < 4611686018427387904) : EV (rng1 (.int i)) s Q E ↔ Q (rangeD 0 i.toNat) s := by
  show EV (if -NUM ≤ i ∧ i < NUM then pure (rangeD 0 i.toNat) else no : M (List D)) s Q E ↔ _
  rw [if_pos ⟨h0, h1⟩]; rfl
theorem s_zip {xs ys : List D} {Q : List D → Stt → Prop} : EV (zipM (.lst xs) (.lst ys)) s Q E ↔ Q (zipD xs ys) s := Iff.rfl
theorem s_enum {xs : List D} {Q : List D → Stt → Prop} : EV (enumM (.lst xs)) s Q E ↔ Q (enumD xs) s := Iff.rfl
theorem s_atM {a : α} {Q : α → Stt → Prop} : EV (atM (some a)) s Q E ↔ Q a s := Iff.rfl
theorem s_ixL {xs : List D} {k : Nat} (h : k < xs.length) : EV (ixD (.lst xs) (.int (k : Int))) s Q E ↔ Q xs[k] s := by
  show EV (atM (atI xs k)) s Q E ↔ _
  rw [atI0, List.getElem?_eq_getElem h]; rfl
theorem s_ixT {xs : List D} {k : Nat} (h : k < xs.length) : EV (ixD (.tup xs) (.int (k : Int))) s Q E ↔ Q xs[k] s := by
  show EV (atM (atI xs k)) s Q E ↔ _
  rw [atI0, List.getElem?_eq_getElem h]; rfl
theorem s_inS {c : Nat} {z : Str} : EV (inD (.str ⟨#[c]⟩) (.str z)) s Q E ↔ Q (.bl (decide (c ∈ z.cps.toList))) s := Iff.rfl
/-! calls -/
theorem s_callM {n nk np : Nat} {gD : List D → List D → List D} {m : List D → M D} {ds dk as : List D} (h : ds.length = n ∧ dk.length = nk ∧ (gD ds dk).length = np) (ha : gD ds dk = as) : EV (callM n nk np gD m ds dk) s Q E ↔ EV (m as) s Q E := by
  unfold callM; rw [if_pos h, ha]
variable {a b c d e f : D} {m : List D → M D}
theorem s_c1 : EV (callM 1 0 1 (fmt [0]) m [a] []) s Q E ↔ EV (m [a]) s Q E := s_callM ⟨rfl, rfl, rfl⟩ rfl
theorem s_c2 : EV (callM 2 0 2 (fmt [0, 1]) m [a, b] []) s Q E ↔ EV (m [a, b]) s Q E := s_callM ⟨rfl, rfl, rfl⟩ rfl
theorem s_c3 : EV (callM 3 0 3 (fmt [0, 1, 2]) m [a, b, c] []) s Q E ↔ EV (m [a, b, c]) s Q E := s_callM ⟨rfl, rfl, rfl⟩ rfl
theorem s_c4 : EV (callM 4 0 4 (fmt [0, 1, 2, 3]) m [a, b, c, d] []) s Q E ↔ EV (m [a, b, c, d]) s Q E := s_callM ⟨rfl, rfl, rfl⟩ rfl
theorem s_c5 : EV (callM 5 0 5 (fmt [0, 1, 2, 3, 4]) m [a, b, c, d, e] []) s Q E ↔ EV (m [a, b, c, d, e]) s Q E := s_callM ⟨rfl, rfl, rfl⟩ rfl
theorem s_k1 : EV (callM 0 1 1 (fmt [0]) m [] [a]) s Q E ↔ EV (m [a]) s Q E := s_callM ⟨rfl, rfl, rfl⟩ rfl
theorem s_k2 : EV (callM 0 2 2 (fmt [0, 1]) m [] [a, b]) s Q E ↔ EV (m [a, b]) s Q E := s_callM ⟨rfl, rfl, rfl⟩ rfl
theorem s_k2' : EV (callM 0 2 2 (fmt [1, 0]) m [] [a, b]) s Q E ↔ EV (m [b, a]) s Q E := s_callM ⟨rfl, rfl, rfl⟩ rfl
theorem s_p1k1 : EV (callM 1 1 2 (fmt [0, 1]) m [a] [b]) s Q E ↔ EV (m [a, b]) s Q E := s_callM ⟨rfl, rfl, rfl⟩ rfl
/-! isinstance -/
theorem s_isi {sb : Sub1} {x : D} {t : Tag} {k : Bool} (h1 : tagOf s x = some t) (h2 : sb t = some k) {Q : Bool → Stt → Prop} : EV (isiD sb x) s Q E ↔ Q k s := by unfold EV isiD; simp only [h1, h2]
theorem s_isiAny1 {sb : Sub1} {sbs : List Sub1} {x : D} {Q : Bool → Stt → Prop} : EV (isiAny (sb :: sbs) x) s Q E ↔ EV (isiD sb x) s (fun b s' => Br b (Q true s') (EV (isiAny sbs x) s' Q E)) E := by
  show EV (isiD sb x >>= fun b => if b then pure true else isiAny sbs x) s Q E ↔ _
  rw [s_bind]
  exact iff_of_eq (congrArg (fun q => EV (isiD sb x) s q E) (funext fun b => funext fun s' => by rw [propext (s_if (b := b))]; rfl))
theorem s_isiAny0 {x : D} {Q : Bool → Stt → Prop} : EV (isiAny [] x) s Q E ↔ Q false s := Iff.rfl
end
theorem s_iNI {s : Stt} {Q : Bool → Stt → Prop} {E : Err → Stt → Prop} : EV (isiD (sbTy "int") .non) s Q E ↔ Q false s := s_isi rfl isi_NoneType_int
theorem s_iNS {s : Stt} {Q : Bool → Stt → Prop} {E : Err → Stt → Prop} : EV (isiD (sbTy "str") .non) s Q E ↔ Q false s := s_isi rfl isi_NoneType_str
theorem s_iNB {s : Stt} {Q : Bool → Stt → Prop} {E : Err → Stt → Prop} : EV (isiD (sbTy "bool") .non) s Q E ↔ Q false s := s_isi rfl isi_NoneType_bool
theorem s_iNL {s : Stt} {Q : Bool → Stt → Prop} {E : Err → Stt → Prop} : EV (isiD (sbTy "list") .non) s Q E ↔ Q false s := s_isi rfl isi_NoneType_list
theorem s_iNT {s : Stt} {Q : Bool → Stt → Prop} {E : Err → Stt → Prop} : EV (isiD (sbTy "tuple") .non) s Q E ↔ Q false s := s_isi rfl isi_NoneType_tuple
theorem s_iND {s : Stt} {Q : Bool → Stt → Prop} {E : Err → Stt → Prop} : EV (isiD (sbTy "dict") .non) s Q E ↔ Q false s := s_isi rfl isi_NoneType_dict
theorem s_iBI {b : Bool} {s : Stt} {Q : Bool → Stt → Prop} {E : Err → Stt → Prop} : EV (isiD (sbTy "int") (.bl b)) s Q E ↔ Q true s := s_isi rfl isi_bool_int
theorem s_iBS {b : Bool} {s : Stt} {Q : Bool → Stt → Prop} {E : Err → Stt → Prop} : EV (isiD (sbTy "str") (.bl b)) s Q E ↔ Q false s := s_isi rfl isi_bool_str
theorem s_iBB {b : Bool} {s : Stt} {Q : Bool → Stt → Prop} {E : Err → Stt → Prop} : EV (isiD (sbTy "bool") (.bl b)) s Q E ↔ Q true s := s_isi rfl isi_bool_bool
theorem s_iBL {b : Bool} {s : Stt} {Q : Bool → Stt → Prop} {E : Err → Stt → Prop} : EV (isiD (sbTy "list") (.bl b)) s Q E ↔ Q false s := s_isi rfl isi_bool_list
theorem s_iBT {b : Bool} {s : Stt} {Q : Bool → Stt → Prop} {E : Err → Stt → Prop} : EV (isiD (sbTy "tuple") (.bl b)) s Q E ↔ Q false s := s_isi rfl isi_bool_tuple
theorem s_iBD {b : Bool} {s : Stt} {Q : Bool → Stt → Prop} {E : Err → Stt → Prop} : EV (isiD (sbTy "dict") (.bl b)) s Q E ↔ Q false s := s_isi rfl isi_bool_dict
theorem s_iII {i : Int} {s : Stt} {Q : Bool → Stt → Prop} {E : Err → Stt → Prop} : EV (isiD (sbTy "int") (.int i)) s Q E ↔ Q true s := s_isi rfl isi_int_int
theorem s_iIS {i : Int} {s : Stt} {Q : Bool → Stt → Prop} {E : Err → Stt → Prop} : EV (isiD (sbTy "str") (.int i)) s Q E ↔ Q false s := s_isi rfl isi_int_str
theorem s_iIB {i : Int} {s : Stt} {Q : Bool → Stt → Prop} {E : Err → Stt → Prop} : EV (isiD (sbTy "bool") (.int i)) s Q E ↔ Q false s := s_isi rfl isi_int_bool
theorem s_iIL {i : Int} {s : Stt} {Q : Bool → Stt → Prop} {E : Err → Stt → Prop} : EV (isiD (sbTy "list") (.int i)) s Q E ↔ Q false s := s_isi rfl isi_int_list
theorem s_iIT {i : Int} {s : Stt} {Q : Bool → Stt → Prop} {E : Err → Stt → Prop} : EV (isiD (sbTy "tuple") (.int i)) s Q E ↔ Q false s := s_isi rfl isi_int_tuple
theorem s_iID {i : Int} {s : Stt} {Q : Bool → Stt → Prop} {E : Err → Stt → Prop} : EV (isiD (sbTy "dict") (.int i)) s Q E ↔ Q false s := s_isi rfl isi_int_dict
theorem s_iSI {z : Str} {s : Stt} {Q : Bool → Stt → Prop} {E : Err → Stt → Prop} : EV (isiD (sbTy "int") (.str z)) s Q E ↔ Q false s := s_isi rfl isi_str_int
theorem s_iSS {z : Str} {s : Stt} {Q : Bool → Stt → Prop} {E : Err → Stt → Prop} : EV (isiD (sbTy "str") (.str z)) s Q E ↔ Q true s := s_isi rfl isi_str_str
theorem s_iSB {z : Str} {s : Stt} {Q : Bool → Stt → Prop} {E : Err → Stt → Prop} : EV (isiD (sbTy "bool") (.str z)) s Q E ↔ Q false s := s_isi rfl isi_str_bool
theorem s_iSL {z : Str} {s : Stt} {Q : Bool → Stt → Prop} {E : Err → Stt → Prop} : EV (isiD (sbTy "list") (.str z)) s Q E ↔ Q false s := s_isi rfl isi_str_list
theorem s_iST {z : Str} {s : Stt} {Q : Bool → Stt → Prop} {E : Err → Stt → Prop} : EV (isiD (sbTy "tuple") (.str z)) s Q E ↔ Q false s := s_isi rfl isi_str_tuple
theorem s_iSD {z : Str} {s : Stt} {Q : Bool → Stt → Prop} {E : Err → Stt → Prop} : EV (isiD (sbTy "dict") (.str z)) s Q E ↔ Q false s := s_isi rfl isi_str_dict
theorem s_iLI {xs : List D} {s : Stt} {Q : Bool → Stt → Prop} {E : Err → Stt → Prop} : EV (isiD (sbTy "int") (.lst xs)) s Q E ↔ Q false s := s_isi rfl isi_list_int
theorem s_iLS {xs : List D} {s : Stt} {Q : Bool → Stt → Prop} {E : Err → Stt → Prop} : EV (isiD (sbTy "str") (.lst xs)) s Q E ↔ Q false s := s_isi rfl isi_list_str
theorem s_iLB {xs : List D} {s : Stt} {Q : Bool → Stt → Prop} {E : Err → Stt → Prop} : EV (isiD (sbTy "bool") (.lst xs)) s Q E ↔ Q false s := s_isi rfl isi_list_bool
theorem s_iLL {xs : List D} {s : Stt} {Q : Bool → Stt → Prop} {E : Err → Stt → Prop} : EV (isiD (sbTy "list") (.lst xs)) s Q E ↔ Q true s := s_isi rfl isi_list_list
theorem s_iLT {xs : List D} {s : Stt} {Q : Bool → Stt → Prop} {E : Err → Stt → Prop} : EV (isiD (sbTy "tuple") (.lst xs)) s Q E ↔ Q false s := s_isi rfl isi_list_tuple
theorem s_iLD {xs : List D} {s : Stt} {Q : Bool → Stt → Prop} {E : Err → Stt → Prop} : EV (isiD (sbTy "dict") (.lst xs)) s Q E ↔ Q false s := s_isi rfl isi_list_dict
theorem s_iTI {xs : List D} {s : Stt} {Q : Bool → Stt → Prop} {E : Err → Stt → Prop} : EV (isiD (sbTy "int") (.tup xs)) s Q E ↔ Q false s := s_isi rfl isi_tuple_int
theorem s_iTS {xs : List D} {s : Stt} {Q : Bool → Stt → Prop} {E : Err → Stt → Prop} : EV (isiD (sbTy "str") (.tup xs)) s Q E ↔ Q false s := s_isi rfl isi_tuple_str
theorem s_iTB {xs : List D} {s : Stt} {Q : Bool → Stt → Prop} {E : Err → Stt → Prop} : EV (isiD (sbTy "bool") (.tup xs)) s Q E ↔ Q false s := s_isi rfl isi_tuple_bool
theorem s_iTL {xs : List D} {s : Stt} {Q : Bool → Stt → Prop} {E : Err → Stt → Prop} : EV (isiD (sbTy "list") (.tup xs)) s Q E ↔ Q false s := s_isi rfl isi_tuple_list
theorem s_iTT {xs : List D} {s : Stt} {Q : Bool → Stt → Prop} {E : Err → Stt → Prop} : EV (isiD (sbTy "tuple") (.tup xs)) s Q E ↔ Q true s := s_isi rfl isi_tuple_tuple
theorem s_iTD {xs : List D} {s : Stt} {Q : Bool → Stt → Prop} {E : Err → Stt → Prop} : EV (isiD (sbTy "dict") (.tup xs)) s Q E ↔ Q false s := s_isi rfl isi_tuple_dict
theorem s_iDI {ks : List (Key × D)} {s : Stt} {Q : Bool → Stt → Prop} {E : Err → Stt → Prop} : EV (isiD (sbTy "int") (.dic ks)) s Q E ↔ Q false s := s_isi rfl isi_dict_int
theorem s_iDS {ks : List (Key × D)} {s : Stt} {Q : Bool → Stt → Prop} {E : Err → Stt → Prop} : EV (isiD (sbTy "str") (.dic ks)) s Q E ↔ Q false s := s_isi rfl isi_dict_str
theorem s_iDB {ks : List (Key × D)} {s : Stt} {Q : Bool → Stt → Prop} {E : Err → Stt → Prop} : EV (isiD (sbTy "bool") (.dic ks)) s Q E ↔ Q false s := s_isi rfl isi_dict_bool
theorem s_iDL {ks : List (Key × D)} {s : Stt} {Q : Bool → Stt → Prop} {E : Err → Stt → Prop} : EV (isiD (sbTy "list") (.dic ks)) s Q E ↔ Q false s := s_isi rfl isi_dict_list
theorem s_iDT {ks : List (Key × D)} {s : Stt} {Q : Bool → Stt → Prop} {E : Err → Stt → Prop} : EV (isiD (sbTy "tuple") (.dic ks)) s Q E ↔ Q false s := s_isi rfl isi_dict_tuple
theorem s_iDD {ks : List (Key × D)} {s : Stt} {Q : Bool → Stt → Prop} {E : Err → Stt → Prop} : EV (isiD (sbTy "dict") (.dic ks)) s Q E ↔ Q true s := s_isi rfl isi_dict_dict
end PV
end

section
/-! draws, comprehensions -/
namespace PV
open PySem PySem.Spec L2
open PyProof.Rows hiding St
/-- the store begins with a bag of at most c draws -/
def Bg (c : Nat) (rest s : Stt) : Prop := ∃ B : Bag, B.Ok c ∧ s = B.d :: rest
theorem Bg.le {c c' : Nat} {rest s : Stt} (h : Bg c rest s) (l : c ≤ c') : Bg c' rest s := by
  obtain ⟨B, h, e⟩ := h
  exact ⟨B, ⟨h.b0, h.m0, h.m1, Nat.le_trans h.cn l⟩, e⟩
section
variable {α : Type} {c : Nat} {rest s : Stt} {E : Err → Stt → Prop} {Q : D → Stt → Prop} {ρ : Env}
theorem ev_dr {many : Int} (hB : Bg c rest s) (hc : c < 2 ^ 60) (h0 : 0 < many) (h1 : many ≤ 1000000000000000000000000000000000000000000000000000000000000) (q : ∀ (r : Int) (s' : Stt), 0 ≤ r → r < many → Bg (c + 1) rest s' → Q (.int r) s') : EV (CM.m_law_draw [.obj 0, .int many]) s Q E := by
  obtain ⟨B, hB, rfl⟩ := hB
  exact ev_draw hB hc h0 h1 fun r B' h0 h1 hB' => q r _ h0 h1 ⟨B', hB', rfl⟩
theorem ev_ol {xs : List D} (hB : Bg c rest s) (hc : c < 2 ^ 60) (h0 : 0 < xs.length) (h1 : xs.length < 2 ^ 60) (q : ∀ (k : Nat) (hk : k < xs.length) (s' : Stt), Bg (c + 1) rest s' → Q xs[k] s') : EV (CM.m_law_of [.obj 0, .lst xs]) s Q E := by
  obtain ⟨B, hB, rfl⟩ := hB
  exact ev_ofL hB hc h0 h1 fun k hk B' hB' => q k hk _ ⟨B', hB', rfl⟩
/-- .. by what holds of all items -/
theorem ev_olP {xs : List D} (P : D → Prop) (hP : ∀ x ∈ xs, P x) (hB : Bg c rest s) (hc : c < 2 ^ 60) (h0 : 0 < xs.length) (h1 : xs.length < 2 ^ 60) (q : ∀ (x : D) (s' : Stt), P x → Bg (c + 1) rest s' → Q x s') : EV (CM.m_law_of [.obj 0, .lst xs]) s Q E :=
  ev_ol hB hc h0 h1 fun k hk s' hs => q _ _ (hP _ (List.getElem_mem hk)) hs
theorem ev_os {z : Str} (hB : Bg c rest s) (hc : c < 2 ^ 60) (h0 : 0 < z.length) (h1 : z.length ≤ 1000000) (q : ∀ (ch : Nat) (s' : Stt), ch ∈ z.cps.toList → Bg (c + 1) rest s' → Q (.str ⟨#[ch]⟩) s') : EV (CM.m_law_of [.obj 0, .str z]) s Q E := by
  obtain ⟨B, hB, rfl⟩ := hB
  exact ev_ofS hB hc h0 h1 fun k hk B' hB' => q _ _ (List.getElem_mem hk) ⟨B', hB', rfl⟩
/-- the law's bag, taken into the store -/
theorem ev_bg {ns : List Int} {s : Stt} (q : ∀ (d : D), (∀ rest, Bg 0 rest (d :: rest)) → Q d s) : EV (CM.m_law_bag [.lst (ns.map D.int)]) s Q E := ev_bag fun B hB => q B.d fun rest => ⟨B, hB, rfl⟩
/-- a comprehension that asks nothing of the store -/
structure U4 (g : D → Env → Option Env) (t : Env → M Bool) (e : Env → M D) (Q : D → Stt → Prop) : Type where
structure U5 (g : D → Env → Option Env) (e : Env → M D) (Q : D → Stt → Prop) : Type where
structure U6 (g : D → Env → Option Env) (m : SM) (N : Env → Stt → Prop) (R : D → Stt → Prop) (E : Err → Stt → Prop) : Type where
def LcP (g : D → Env → Option Env) (t : Env → M Bool) (e : Env → M D) (ρ : Env) (Q : D → Stt → Prop) (ds : List D) (s0 : Stt) (_u : U4 g t e Q := ⟨⟩) : Prop := ds.length < 1000000 ∧ ∃ G : D → Option D,
    (∀ d ∈ ds, ∃ ρ', g d ρ = some ρ' ∧ EV (t ρ') s0 (fun b s1 => s1 = s0 ∧ Br b (EV (e ρ') s0 (fun y s2 => s2 = s0 ∧ G d = some y) NoE) (G d = none)) NoE) ∧ Q (.lst (ds.filterMap G)) s0
theorem LcP.mk {g : D → Env → Option Env} {t : Env → M Bool} {e : Env → M D} {ds : List D} (G : D → Option D) (hz : ds.length < 1000000)
    (hg : ∀ d ∈ ds, ∃ ρ', g d ρ = some ρ' ∧ EV (t ρ') s (fun b s1 => s1 = s ∧ Br b (EV (e ρ') s (fun y s2 => s2 = s ∧ G d = some y) NoE) (G d = none)) NoE) (q : Q (.lst (ds.filterMap G)) s) : LcP g t e ρ Q ds s := ⟨hz, G, hg, q⟩
theorem ev_lcP {f : Env → M (List D)} {g : D → Env → Option Env} {t : Env → M Bool} {e : Env → M D} {vs : List Nat} (h : EV (f ρ) s (fun ds s0 => LcP g t e (wipeE ρ vs) Q ds s0) E) : EV (lcD f g t e vs ρ) s Q E := by
  refine ev_lc (ev_imp h (fun ds s0 ⟨hz, G, hg, q⟩ => ⟨hz, fun i acc s' => s' = s0 ∧ acc = (ds.take i).filterMap G, ⟨rfl, rfl⟩, ?_, ?_⟩) fun _ _ z => z)
  · rintro i d acc s' hd ⟨rfl, rfl⟩
    obtain ⟨ρ', e1, h2⟩ := hg d (List.mem_of_getElem? hd)
    have hi := (List.getElem?_eq_some_iff.mp hd).1
    have e3 : ds.take (i + 1) = ds.take i ++ [d] := by
      rw [List.take_succ_eq_append_getElem hi]
      have := (List.getElem?_eq_some_iff.mp hd).2
      rw [this]
    refine ⟨ρ', e1, ev_imp h2 ?_ fun _ _ z => z⟩
    rintro b s1 ⟨rfl, h3⟩
    refine ⟨fun hb => ev_imp (h3.1 hb) ?_ (fun _ _ z => z), fun hb => ?_⟩
    · rintro y s2 ⟨rfl, h4⟩
      exact ⟨rfl, by rw [e3, List.filterMap_append]; simp [h4]⟩
    · exact ⟨rfl, by rw [e3, List.filterMap_append]; simp [h3.2 hb]⟩
  · rintro acc s' ⟨rfl, rfl⟩
    rw [List.take_length]; exact q
/-- .. each item made anew -/
def LcF (g : D → Env → Option Env) (e : Env → M D) (ρ : Env) (Q : D → Stt → Prop) (ds : List D) (s0 : Stt) (_u : U5 g e Q := ⟨⟩) : Prop := ds.length < 1000000 ∧ ∃ G : D → D,
    (∀ d ∈ ds, ∃ ρ', g d ρ = some ρ' ∧ EV (e ρ') s0 (fun y s2 => s2 = s0 ∧ G d = y) NoE) ∧ Q (.lst (ds.map G)) s0
theorem LcF.mk {g : D → Env → Option Env} {e : Env → M D} {ds : List D} (G : D → D) (hz : ds.length < 1000000)
    (hg : ∀ d ∈ ds, ∃ ρ', g d ρ = some ρ' ∧ EV (e ρ') s (fun y s2 => s2 = s ∧ G d = y) NoE) (q : Q (.lst (ds.map G)) s) : LcF g e ρ Q ds s := ⟨hz, G, hg, q⟩
theorem ev_lcF {f : Env → M (List D)} {g : D → Env → Option Env} {e : Env → M D} {vs : List Nat} (h : EV (f ρ) s (fun ds s0 => LcF g e (wipeE ρ vs) Q ds s0) E) : EV (lcD f g tYesM e vs ρ) s Q E := by
  refine ev_lcP (ev_imp h (fun ds s0 ⟨hz, G, hg, q⟩ => ⟨hz, fun d => some (G d), fun d hd => ?_, ?_⟩) fun _ _ z => z)
  · obtain ⟨ρ', e1, h2⟩ := hg d hd
    refine ⟨ρ', e1, ?_⟩
    show EV (pure true) _ _ _
    exact ⟨rfl, s_brT.mpr (ev_imp h2 (fun y s2 ⟨a, b⟩ => ⟨a, congrArg some b⟩) fun _ _ z => z)⟩
  · have : ds.filterMap (fun d => some (G d)) = ds.map G := by
      rw [List.filterMap_eq_map']
    rw [this]; exact q
/-- .. that draws: k draws at most a turn -/
def LcB (g : D → Env → Option Env) (e : Env → M D) (ρ : Env) (Q : D → Stt → Prop) (ds : List D) (s0 : Stt) (_u : U5 g e Q := ⟨⟩) : Prop := ds.length < 1000000 ∧ ∃ (rest : Stt) (c k : Nat) (P : Nat → D → Prop), Bg c rest s0 ∧
    (∀ i d s1, ds[i]? = some d → i < ds.length → Bg (c + i * k) rest s1 → ∃ ρ', g d ρ = some ρ' ∧ EV (e ρ') s1 (fun y s3 => P i y ∧ Bg (c + i * k + k) rest s3) NoE) ∧
    ∀ ys s', ys.length = ds.length → (∀ i y, ys[i]? = some y → P i y) → Bg (c + ds.length * k) rest s' → Q (.lst ys) s'
theorem LcB.mk {g : D → Env → Option Env} {e : Env → M D} {ds : List D} (k : Nat) (P : Nat → D → Prop) (hz : ds.length < 1000000) (hB : Bg c rest s)
    (hg : ∀ i d s1, ds[i]? = some d → i < ds.length → Bg (c + i * k) rest s1 → ∃ ρ', g d ρ = some ρ' ∧ EV (e ρ') s1 (fun y s3 => P i y ∧ Bg (c + i * k + k) rest s3) NoE)
    (q : ∀ ys s', ys.length = ds.length → (∀ i y, ys[i]? = some y → P i y) → Bg (c + ds.length * k) rest s' → Q (.lst ys) s') : LcB g e ρ Q ds s := ⟨hz, rest, c, k, P, hB, hg, q⟩
theorem ev_lcB {f : Env → M (List D)} {g : D → Env → Option Env} {e : Env → M D} {vs : List Nat} (h : EV (f ρ) s (fun ds s0 => LcB g e (wipeE ρ vs) Q ds s0) E) : EV (lcD f g tYesM e vs ρ) s Q E := by
  refine ev_lc (ev_imp h (fun ds s0 ⟨hz, rest, c, k, P, hB, hg, q⟩ => ⟨hz, fun i acc s' => Bg (c + i * k) rest s' ∧ acc.length = i ∧ ∀ j y, acc[j]? = some y → P j y, ⟨by simpa using hB, rfl, by simp⟩, ?_, ?_⟩) fun _ _ z => z)
  · rintro i d acc s' hd ⟨hb, hl, hp⟩
    obtain ⟨ρ', e1, h2⟩ := hg i d s' hd (List.getElem?_eq_some_iff.mp hd).1 hb
    refine ⟨ρ', e1, ?_⟩
    show EV (pure true) _ _ _
    refine ⟨fun _ => ev_imp h2 ?_ (fun _ _ z => z), fun z => Bool.noConfusion z⟩
    rintro y s3 ⟨hy, hb3⟩
    refine ⟨hb3.le (by rw [Nat.succ_mul]; omega), by simp [hl], fun j z hz2 => ?_⟩
    by_cases hj : j < acc.length
    · rw [List.getElem?_append_left hj] at hz2; exact hp j z hz2
    · have hj2 : j = acc.length := by
        have := (List.getElem?_eq_some_iff.mp hz2).1
        simp at this; omega
      subst hj2
      rw [List.getElem?_append_right (Nat.le_refl _)] at hz2
      simp at hz2
      subst hz2
      rw [hl]; exact hy
  · rintro acc s' ⟨hb, hl, hp⟩
    exact q acc s' hl hp hb
/-- a for over n turns, at most k draws a turn; I: what holds of the names -/
def ForB (g : D → Env → Option Env) (m : SM) (ρ : Env) (N : Env → Stt → Prop) (R : D → Stt → Prop) (E : Err → Stt → Prop) (ds : List D) (s0 : Stt) (_u : U6 g m N R E := ⟨⟩) : Prop := ∃ (rest : Stt) (c k : Nat) (I : Nat → Env → Prop), Bg c rest s0 ∧ I 0 ρ ∧
    (∀ i d ρ s, ds[i]? = some d → i < ds.length → I i ρ → Bg (c + i * k) rest s → ∃ ρ', g d ρ = some ρ' ∧ WP m ρ' s (fun ρ s => I (i + 1) ρ ∧ Bg (c + i * k + k) rest s) R N (fun ρ s => I (i + 1) ρ ∧ Bg (c + i * k + k) rest s) E) ∧
    ∀ ρ s, I ds.length ρ → Bg (c + ds.length * k) rest s → N ρ s
theorem ForB.mk {g : D → Env → Option Env} {m : SM} {N : Env → Stt → Prop} {R : D → Stt → Prop} {ds : List D} (k : Nat) (I : Nat → Env → Prop) (hB : Bg c rest s) (h0 : I 0 ρ)
    (hs : ∀ i d ρ s, ds[i]? = some d → i < ds.length → I i ρ → Bg (c + i * k) rest s → ∃ ρ', g d ρ = some ρ' ∧ WP m ρ' s (fun ρ s => I (i + 1) ρ ∧ Bg (c + i * k + k) rest s) R N (fun ρ s => I (i + 1) ρ ∧ Bg (c + i * k + k) rest s) E)
    (hd : ∀ ρ s, I ds.length ρ → Bg (c + ds.length * k) rest s → N ρ s) : ForB g m ρ N R E ds s := ⟨rest, c, k, I, hB, h0, hs, hd⟩
theorem w_forB {f : Env → M (List D)} {g : D → Env → Option Env} {m : SM} {N B C : Env → Stt → Prop} {R : D → Stt → Prop} (h : EV (f ρ) s (fun ds s0 => ForB g m ρ N R E ds s0) E) : WP (sForM f g m) ρ s N R B C E := by
  refine w_forI (ev_imp h (fun ds s0 ⟨rest, c, k, I, hB, h0, hs, hd⟩ => ⟨fun i ρ s => I i ρ ∧ Bg (c + i * k) rest s, ⟨h0, by simpa using hB⟩, ?_, ?_⟩) fun _ _ z => z)
  · rintro i d ρ s e ⟨hi, hb⟩
    obtain ⟨ρ', e1, w⟩ := hs i d ρ s e (List.getElem?_eq_some_iff.mp e).1 hi hb
    have key : ∀ ρ s, I (i + 1) ρ ∧ Bg (c + i * k + k) rest s → I (i + 1) ρ ∧ Bg (c + (i + 1) * k) rest s := fun ρ s ⟨a, b⟩ => ⟨a, b.le (by rw [Nat.succ_mul]; omega)⟩
    exact ⟨ρ', e1, w_imp w key (fun _ _ z => z) (fun _ _ z => z) key fun _ _ z => z⟩
  · rintro ρ s ⟨hi, hb⟩
    exact hd ρ s hi hb
/-- the law's own comparison of equal data -/
theorem ev_sm {x y : D} (e : x = y) (hx : x.dat 11 = true) (q : Q (.bl true) s) : EV (CM.m_law_same 12 [x, y]) s Q E := by
  subst e
  exact same_refl 11 x s Q E hx q
theorem s_sm {x : D} (hx : x.dat 11 = true) : EV (CM.m_law_same 12 [x, x]) s Q E ↔ Q (.bl true) s := by
  have h := same_refl 11 x s (fun d s' => d = .bl true ∧ s' = s) NoE hx ⟨rfl, rfl⟩
  obtain ⟨a, s', e1, rfl, rfl⟩ := ev_get h
  exact s_okeq e1
theorem s_boolsMap {α : Type} (l : List α) (p : α → Bool) : boolsD (l.map fun c => .bl (p c)) = some (l.map p) := by
  induction l with
  | nil => rfl
  | cons a l ih =>
    show (boolsD (l.map fun c => .bl (p c))).map (p a :: ·) = _
    rw [ih]; rfl
theorem s_all {α : Type} (l : List α) (p : α → Bool) : EV (allD (.lst (l.map fun c => .bl (p c)))) s Q E ↔ Q (.bl (l.all p)) s := by
  have : EV (allD (.lst (l.map fun c => .bl (p c)))) s Q E ↔ EV (atM ((boolsD (l.map fun c => .bl (p c))).map fun bs => .bl (bs.all id))) s Q E := Iff.rfl
  rw [this, s_boolsMap]
  have e : (l.map p).all id = l.all p := by simp [List.all_map]
  show Q (.bl ((l.map p).all id)) s ↔ _
  rw [e]
theorem s_any {α : Type} (l : List α) (p : α → Bool) : EV (anyD (.lst (l.map fun c => .bl (p c)))) s Q E ↔ Q (.bl (l.any p)) s := by
  have : EV (anyD (.lst (l.map fun c => .bl (p c)))) s Q E ↔ EV (atM ((boolsD (l.map fun c => .bl (p c))).map fun bs => .bl (bs.any id))) s Q E := Iff.rfl
  rw [this, s_boolsMap]
  have e : (l.map p).any id = l.any p := by simp [List.any_map]
  show Q (.bl ((l.map p).any id)) s ↔ _
  rw [e]
/-- two ways to one value -/
theorem br_ev {α : Type} {k : Bool} {x y : M α} {v : α} {Q : α → Stt → Prop} (h : Br k (EV x s (fun d s' => d = v ∧ s' = s) NoE) (EV y s (fun d s' => d = v ∧ s' = s) NoE)) (q : Q v s) : Br k (EV x s Q E) (EV y s Q E) :=
  ⟨fun hk => ev_imp (h.1 hk) (fun d s' ⟨a, b⟩ => by rw [a, b]; exact q) (fun _ _ z => z.elim), fun hk => ev_imp (h.2 hk) (fun d s' ⟨a, b⟩ => by rw [a, b]; exact q) (fun _ _ z => z.elim)⟩
/-- pure, from a promise -/
theorem s_of_ev {x : M D} {d : D} (h : EV x s (fun a s' => a = d ∧ s' = s) NoE) : EV x s Q E ↔ Q d s := by
  obtain ⟨a, s', e1, rfl, rfl⟩ := ev_get h
  exact s_okeq e1
end
end PV
end

section
/-! own classes: fields, methods, instances made -/
namespace PV
open PySem PySem.Spec L2
open PyProof.Rows hiding St
section
variable {K : PySem.W.Frag} {G : ClsAt}
theorem DenF.lookup {As : List Addr} {F : Hp} {f : Str} {d : D} : ∀ {fs : List (Str × D)} {ws : List (Str × V)}, DenF K G As F fs ws → fs.lookup f = some d → ∃ v, ws.lookup f = some v ∧ Den K G As F d v
  | _, _, .nil, e => by cases e
  | (k, x) :: r, (_, v) :: rw_, .cons t l, e => by
    have e : (match f == k with | true => some x | false => r.lookup f) = some d := e
    cases q : f == k with
    | true =>
      rw [q] at e; cases e
      refine ⟨v, ?_, t⟩
      show (match f == k with | true => some v | false => rw_.lookup f) = some v
      rw [q]
    | false =>
      rw [q] at e
      obtain ⟨v2, h1, h2⟩ := DenF.lookup l e
      refine ⟨v2, ?_, h2⟩
      show (match f == k with | true => some v | false => rw_.lookup f) = some v2
      rw [q]; exact h1
theorem DenF.lookupN {As : List Addr} {F : Hp} {f : Str} : ∀ {fs : List (Str × D)} {ws : List (Str × V)}, DenF K G As F fs ws → (fs.lookup f).isNone = true → ws.lookup f = none
  | _, _, .nil, _ => rfl
  | (k, x) :: r, (_, v) :: rw_, .cons t l, e => by
    have e : (match f == k with | true => some x | false => r.lookup f).isNone = true := e
    show (match f == k with | true => some v | false => rw_.lookup f) = none
    cases q : f == k with
    | true => rw [q] at e; cases e
    | false => rw [q] at e; exact DenF.lookupN l e
theorem DenF.length {As : List Addr} {F : Hp} : ∀ {fs : List (Str × D)} {ws : List (Str × V)}, DenF K G As F fs ws → fs.length = ws.length
  | _, _, .nil => rfl
  | _, _, .cons _ l => congrArg (· + 1) (DenF.length l)
/-- a field put -/
def putFD (f : Str) (v : D) : List (Str × D) → List (Str × D)
  | [] => [(f, v)]
  | (g, x) :: r => if g = f then (g, v) :: r else (g, x) :: putFD f v r
theorem putFD_den {As : List Addr} {F : Hp} {f : Str} {d : D} {v : V} (t : Den K G As F d v) : ∀ {fs : List (Str × D)} {ws : List (Str × V)}, DenF K G As F fs ws → DenF K G As F (putFD f d fs) (putF f v ws)
  | _, _, .nil => .cons t .nil
  | (k, x) :: r, (_, w) :: rw_, .cons h l => by
    show DenF K G As F (if k = f then (k, d) :: r else (k, x) :: putFD f d r) (if k = f then (k, v) :: rw_ else (k, w) :: putF f v rw_)
    by_cases e : k = f
    · rw [if_pos e, if_pos e]; exact .cons t l
    · rw [if_neg e, if_neg e]; exact .cons h (putFD_den t l)
/-- what a class has for its field -/
structure FldOk (K : PySem.W.Frag) (C : Addr) (f : Str) : Prop where
  cl : Cls K C
  na : NoAttr K C f
/-- an instance as it is read: shared, one's own, of the store -/
def insAt (s : Stt) : D → Option (Str × List (Str × D))
  | .ins c fs => some (c, fs)
  | .obj o => match s[o]? with
    | some (.ins c fs) => some (c, fs)
    | _ => none
  | _ => none
theorem DenT.insAt {c : Cf} {H : Hp} {x : D} {v : V} {k : Str} {fs : List (Str × D)} (o : CfOk K G c H) (t : DenT K G c H x v) (e : insAt c.st x = some (k, fs)) : ∃ a dx ws, v = .ref a ∧ H a = some (.ins (G k) dx ws) ∧ DenF K G c.As c.F fs ws := by
  cases x with
  | ins k' fs' => cases e; exact t.ins o
  | obj ob =>
    obtain ⟨a, rfl, ea⟩ := t.obj
    have e : (match c.st[ob]? with
      | some (.ins c fs) => some (c, fs)
      | _ => none) = some (k, fs) := e
    cases q : c.st[ob]? with
    | none => rw [q] at e; cases e
    | some d =>
      rw [q] at e
      cases d with
      | ins k' fs' =>
        cases e
        obtain ⟨dx, ws, h, l⟩ := o.store ea q
        exact ⟨a, dx, ws, rfl, h, l⟩
      | _ => cases e
  | _ => cases e
def fldD (cs : List Str) (f : Str) (x : D) : M D := fun s => match insAt s x with
  | some (c, fs) => if c ∈ cs then atM (fs.lookup f) s else .no
  | none => .no
end
section
variable {X : Cx} {G : ClsAt} {W : WX}
theorem ve_fld {e : Expr} {f : Str} {cs : List Str} {fe : Env → M D} {pos : Pos} (he : VR G X W e fe) (hc : ∀ c ∈ cs, FldOk X.K (G c) f) (hb : attributeBase e f X.env (eval e X.env) = eval e X.env := by rfl) : VE G X W (.Attribute e f pos) (fun ρ => do let x ← fe ρ; fldD cs f x) :=
  PE.imp (pe_fld he hb) fun σ H Q ⟨H0, ρ, c, o, sl, p⟩ => tR_step rfl o sl p fun x v c1 H1 x1 o1 sl1 t1 p1 => by
    have p1 : Post X.K G (PDen X.K G) (fun cls dx H' => W cls dx σ H') c1 H1 (fldD cs f x c1.st) Q := p1
    unfold fldD at p1
    cases q : insAt c1.st x with
    | none => rw [q] at p1; exact p1.elim
    | some kf =>
      obtain ⟨k, fs⟩ := kf
      rw [q] at p1
      obtain ⟨a, dx, ws, rfl, ha, la⟩ := t1.insAt o1 q
      simp only at p1
      by_cases hk : k ∈ cs
      · rw [if_pos hk] at p1
        obtain ⟨d, e2, p1⟩ := post_at (s := c1.st) p1
        obtain ⟨w, h1, h2⟩ := la.lookup e2
        exact ⟨a, G k, dx, ws, w, rfl, ha, (hc k hk).cl, (hc k hk).na, h1, p1.here o1 (fun _ _ h => h) h2⟩
      · rw [if_neg hk] at p1; exact p1.elim

/-! methods -/
/-- a method of the class c, called so -/
structure MOk (P : Program) (w : World) (K : PySem.W.Frag) (mg : Str → Option Value) (base : Heap) (G : ClsAt) (k : Nat) (c nm : Str) (n : Nat) (ks : List Str) (np : Nat) (gD : List D → List D → List D) (m : List D → M D) : Prop where
  cl : Cls K (G c)
  ex : ∃ f fd ps, Meth K (G c) nm f ∧ ps.length = np ∧ FnOk P w K mg base (L2.CX P w) k f fd ps (spPV K G (rDen K G) ps.length m) ∧ Bnd K G fd ps (n + 1) ks gD
abbrev ME := Nat × (List D → List D → List D) × (List D → M D)
abbrev MTb := List (Str × ME)
/-- the class's entry -/
def methK (tb : MTb) (nm : Str) (x : D) : M ME := fun s => match insAt s x with
  | some (c, fs) => if (fs.lookup nm).isNone then atM (tb.lookup c) s else .no
  | none => .no
theorem methK_at {K : PySem.W.Frag} {α β : Type} {P' : Cf → Hp → α → β → Prop} {E : XK} {c : Cf} {H : Hp} {Q : β → Hp → Prop} {tb : MTb} {nm : Str} {x : D} {v : V} {F : ME → M α} (o : CfOk K G c H) (t : DenT K G c H x v) (p : Post K G P' E c H ((methK tb nm x >>= F) c.st) Q) :
    ∃ k fs e a dx ws, insAt c.st x = some (k, fs) ∧ tb.lookup k = some e ∧ v = .ref a ∧ H a = some (.ins (G k) dx ws) ∧ ws.lookup nm = none ∧ Post K G P' E c H (F e c.st) Q := by
  have p : Post K G P' E c H (M.bind (methK tb nm x) F c.st) Q := p
  unfold M.bind methK at p
  cases q : insAt c.st x with
  | none => rw [q] at p; exact p.elim
  | some kf =>
    obtain ⟨k, fs⟩ := kf
    rw [q] at p
    obtain ⟨a, dx, ws, rfl, ha, la⟩ := t.insAt o q
    simp only at p
    by_cases hn : (fs.lookup nm).isNone = true
    · rw [if_pos hn] at p
      cases q2 : tb.lookup k with
      | none => rw [q2] at p; exact p.elim
      | some e => rw [q2] at p; exact ⟨k, fs, e, a, dx, ws, rfl, q2, rfl, ha, la.lookupN hn, p⟩
    · rw [if_neg hn] at p; exact p.elim
/-- the raw rule: a method's call with keywords -/
def tMethR (X : Cx) (G : ClsAt) (W : WX) (j : Nat) (nm : Str) (n : Nat) (ks : List Str) (te : TE) (ta tk : TA) : TE := fun σ H Q => te σ H fun x H1 => ∃ a C dx fs f fd ps gD m, x = .ref a ∧ H1 a = some (.ins C dx fs) ∧ fs.lookup nm = none ∧ Cls X.K C ∧ Meth X.K C nm f ∧
  FnOk X.prog X.w X.K X.mg X.base (L2.CX X.prog X.w) j f fd ps (spPV X.K G (rDen X.K G) ps.length m) ∧ Bnd X.K G fd ps (n + 1) ks gD ∧ ta σ H1 fun vs H2 => tk σ H2 fun zs H3 => tCalE X.K G W (rDen X.K G) (n + 1) ks.length ps.length gD m σ (x :: vs) zs H3 Q
theorem pe_methR {j n : Nat} {nm : Str} {ks : List Str} {o e : Expr} {es : List Expr} {kws : List Keyword} {te : TE} {ta tkk : TA} {apos pos : Pos} {pl : Sem Bool} (he : PE X o te) (hr : Room j X.A) (tk : Takes X W) (ha : PA X (e :: es) ta) (hkw : PK X kws tkk)
    (hst : starEach (e :: es) X.env = (false, eval e X.env) :: starEach es X.env) (hall : (backToKw pos (keywordEach kws X.env)).all (·.1.isSome) = true) (hks : (backToKw pos (keywordEach kws X.env)).filterMap (·.1) = ks)
    (hpl : ((backTo pos (starEach (e :: es) X.env)).any (·.1) || (backToKw pos (keywordEach kws X.env)).any (·.1.isNone)) = false)
    (ht : eval (.Call (.Attribute o nm apos) (e :: es) kws pos) X.env = (do
      let ov ← eval o X.env
      standAt apos.atName
      let (f, first) ← holding [ov] (getMethod ov nm pl)
      callWith pos f first (backTo pos (starEach (e :: es) X.env)) (backToKw pos (keywordEach kws X.env)))) :
    PE X (.Call (.Attribute o nm apos) (e :: es) kws pos) (tMethR X G W j nm n ks te ta tkk) := by
  refine ⟨fun pins s σ H Q I h => ?_⟩
  refine PySem.W.methodCall_KW (pl := pl) (thn (he.run pins s σ H _ I h) fun u s1 ⟨x, H1, I1, rx, a, C, dx, fs, f, fd, ps, gD, m, ex, ea, l, cl, hm, F, B, q⟩ => ?_) ht
  subst ex
  obtain rfl : u = Value.ref a := rx
  refine getmeth_ok I1 ea cl hm l ?_
  refine PySem.W.callWith_KW (first := [.ref a]) (h₀ := X.base) I.ok.mod.kin hm.kp hall (thn (ha.run pos pins s1 σ H1 _ I1 q) fun us s2 ⟨vs, H2, I2, r, q2⟩ => ?_) hpl hst
  refine thn (hkw.run pos pins s2 σ H2 _ I2 q2) fun ws s3 ⟨zs, H3, I3, rz, c, ds, dk, o, l, lk, h1, h2, hl, p⟩ => ⟨I3.kIn, ?_⟩
  rw [hks]
  exact run_cal F B hr tk I3 (.cons (show RelV (V.ref a) (Value.ref a) from rfl) r) rz o l lk h1 h2 p hl
theorem pe_methR0 {j : Nat} {nm : Str} {ks : List Str} {o : Expr} {kws : List Keyword} {te : TE} {tkk : TA} {apos pos : Pos} {pl : Sem Bool} (he : PE X o te) (hr : Room j X.A) (tk : Takes X W) (hkw : PK X kws tkk)
    (hall : (backToKw pos (keywordEach kws X.env)).all (·.1.isSome) = true) (hks : (backToKw pos (keywordEach kws X.env)).filterMap (·.1) = ks)
    (hpl : ((backTo pos (starEach ([] : List Expr) X.env)).any (·.1) || (backToKw pos (keywordEach kws X.env)).any (·.1.isNone)) = false)
    (ht : eval (.Call (.Attribute o nm apos) [] kws pos) X.env = (do
      let ov ← eval o X.env
      standAt apos.atName
      let (f, first) ← holding [ov] (getMethod ov nm pl)
      callWith pos f first (backTo pos (starEach [] X.env)) (backToKw pos (keywordEach kws X.env)))) :
    PE X (.Call (.Attribute o nm apos) [] kws pos) (tMethR X G W j nm 0 ks te (fun σ H Q => Q [] H) tkk) := by
  refine ⟨fun pins s σ H Q I h => ?_⟩
  refine PySem.W.methodCall_KW (pl := pl) (thn (he.run pins s σ H _ I h) fun u s1 ⟨x, H1, I1, rx, a, C, dx, fs, f, fd, ps, gD, m, ex, ea, l, cl, hm, F, B, q⟩ => ?_) ht
  subst ex
  obtain rfl : u = Value.ref a := rx
  refine getmeth_ok I1 ea cl hm l ?_
  refine PySem.W.callWith_KW0 (first := [.ref a]) (h₀ := X.base) I.ok.mod.kin hm.kp hall ?_ hpl
  refine thn (hkw.run pos pins s1 σ H1 _ I1 q) fun ws s3 ⟨zs, H3, I3, rz, c, ds, dk, o, l, lk, h1, h2, hl, p⟩ => ⟨I3.kIn, ?_⟩
  rw [hks]
  exact run_cal F B hr tk I3 (.cons (show RelV (V.ref a) (Value.ref a) from rfl) .nil) rz o l lk h1 h2 p hl
/-- the mirror of a method's call -/
abbrev eMeth (tb : MTb) (nm : Str) (n nk : Nat) (fo : Env → M D) (fa fk : Env → M (List D)) : Env → M D := fun ρ => do let x ← fo ρ; let e ← methK tb nm x; let ds ← fa ρ; let dk ← fk ρ; callM (n + 1) nk e.1 e.2.1 e.2.2 (x :: ds) dk
section
variable {P : Program} {w : World} {K : PySem.W.Frag} {mg : Str → Option Value} {base : Heap} {N : List Str} {sc : Scope} {T : NT} {j n : Nat} {ks : List Str}
theorem ve_meth {tb : MTb} {nm : Str} {o e : Expr} {es : List Expr} {kws : List Keyword} {fo : Env → M D} {fa fk : Env → M (List D)} {apos pos : Pos} {pl : Sem Bool} (c : Ct P w K mg base N sc T j X W) (ho : VE G X W o fo) (n : Nat)
    (ht : ∀ k e, tb.lookup k = some e → MOk P w K mg base G j k nm n ks e.1 e.2.1 e.2.2) (ha : VA G X W (e :: es) fa) (hkw : VK2 G X W kws fk)
    (hst : starEach (e :: es) X.env = (false, eval e X.env) :: starEach es X.env := by rfl) (hall : (backToKw pos (keywordEach kws X.env)).all (·.1.isSome) = true := by rfl) (hks : (backToKw pos (keywordEach kws X.env)).filterMap (·.1) = ks := by rfl)
    (hpl : ((backTo pos (starEach (e :: es) X.env)).any (·.1) || (backToKw pos (keywordEach kws X.env)).any (·.1.isNone)) = false := by rfl)
    (hte : eval (.Call (.Attribute o nm apos) (e :: es) kws pos) X.env = (do
      let ov ← eval o X.env
      standAt apos.atName
      let (f, first) ← holding [ov] (getMethod ov nm pl)
      callWith pos f first (backTo pos (starEach (e :: es) X.env)) (backToKw pos (keywordEach kws X.env))) := by rfl) :
    VE G X W (.Call (.Attribute o nm apos) (e :: es) kws pos) (eMeth tb nm n ks.length fo fa fk) := by
  obtain ⟨⟨hP, hw, hK, hmg, hb⟩, on, hN, hs, nd, kd, hr, tk⟩ := c
  subst hP hw hK hmg hb
  refine PE.imp (pe_methR (G := G) (n := n) ho hr tk ha hkw hst hall hks hpl hte) fun σ H Q ⟨H0, ρ, c, o, sl, p⟩ => tV_step rfl o sl p fun x v c1 H1 x1 o1 sl1 t1 p1 => ?_
  obtain ⟨k, fs, en, a, dx, ws, _, hk, rfl, ha, hl, p1⟩ := methK_at o1 (.inl t1) p1
  have mk := ht k en hk
  obtain ⟨f, fd, ps, hm, hnp, F, B⟩ := mk.ex
  refine ⟨a, G k, dx, ws, f, fd, ps, en.2.1, en.2.2, rfl, ha, hl, mk.cl, hm, F, B, ?_⟩
  refine tL_step rfl o1 sl1 p1 fun ds vs c2 H2 x2 o2 sl2 t2 p2 => tL_step rfl o2 sl2 p2 fun dk zs c3 H3 x3 o3 sl3 t3 p3 => ?_
  have p3 : Post X.K G (PDen X.K G) _ c3 H3 ((if (x :: ds).length = n + 1 ∧ dk.length = ks.length ∧ (en.2.1 (x :: ds) dk).length = en.1 then en.2.2 (en.2.1 (x :: ds) dk) else no) c3.st) Q := p3
  by_cases hc : (x :: ds).length = n + 1 ∧ dk.length = ks.length ∧ (en.2.1 (x :: ds) dk).length = en.1
  · rw [if_pos hc] at p3
    exact ⟨c3, x :: ds, dk, o3, .cons (t1.mono (x2.trans x3).sub (x2.trans x3).pre) (t2.mono x3.sub x3.pre), t3, hc.1, hc.2.1, by rw [hnp]; exact hc.2.2, p3⟩
  · rw [if_neg hc] at p3; exact p3.elim
abbrev eMeth0 (tb : MTb) (nm : Str) (nk : Nat) (fo : Env → M D) (fk : Env → M (List D)) : Env → M D := fun ρ => do let x ← fo ρ; let e ← methK tb nm x; let dk ← fk ρ; callM 1 nk e.1 e.2.1 e.2.2 [x] dk
theorem ve_meth0 {tb : MTb} {nm : Str} {o : Expr} {kws : List Keyword} {fo : Env → M D} {fk : Env → M (List D)} {apos pos : Pos} {pl : Sem Bool} (c : Ct P w K mg base N sc T j X W) (ho : VE G X W o fo)
    (ht : ∀ k e, tb.lookup k = some e → MOk P w K mg base G j k nm 0 ks e.1 e.2.1 e.2.2) (hkw : VK2 G X W kws fk)
    (hall : (backToKw pos (keywordEach kws X.env)).all (·.1.isSome) = true := by rfl) (hks : (backToKw pos (keywordEach kws X.env)).filterMap (·.1) = ks := by rfl)
    (hpl : ((backTo pos (starEach ([] : List Expr) X.env)).any (·.1) || (backToKw pos (keywordEach kws X.env)).any (·.1.isNone)) = false := by rfl)
    (hte : eval (.Call (.Attribute o nm apos) [] kws pos) X.env = (do
      let ov ← eval o X.env
      standAt apos.atName
      let (f, first) ← holding [ov] (getMethod ov nm pl)
      callWith pos f first (backTo pos (starEach [] X.env)) (backToKw pos (keywordEach kws X.env))) := by rfl) :
    VE G X W (.Call (.Attribute o nm apos) [] kws pos) (eMeth0 tb nm ks.length fo fk) := by
  obtain ⟨⟨hP, hw, hK, hmg, hb⟩, on, hN, hs, nd, kd, hr, tk⟩ := c
  subst hP hw hK hmg hb
  refine PE.imp (pe_methR0 (G := G) ho hr tk hkw hall hks hpl hte) fun σ H Q ⟨H0, ρ, c, o, sl, p⟩ => tV_step rfl o sl p fun x v c1 H1 x1 o1 sl1 t1 p1 => ?_
  obtain ⟨k, fs, en, a, dx, ws, _, hk, rfl, ha, hl, p1⟩ := methK_at o1 (.inl t1) p1
  have mk := ht k en hk
  obtain ⟨f, fd, ps, hm, hnp, F, B⟩ := mk.ex
  refine ⟨a, G k, dx, ws, f, fd, ps, en.2.1, en.2.2, rfl, ha, hl, mk.cl, hm, F, B, ?_⟩
  refine tL_step rfl o1 sl1 p1 fun dk zs c3 H3 x3 o3 sl3 t3 p3 => ?_
  have p3 : Post X.K G (PDen X.K G) _ c3 H3 ((if [x].length = 1 ∧ dk.length = ks.length ∧ (en.2.1 [x] dk).length = en.1 then en.2.2 (en.2.1 [x] dk) else no) c3.st) Q := p3
  by_cases hc : [x].length = 1 ∧ dk.length = ks.length ∧ (en.2.1 [x] dk).length = en.1
  · rw [if_pos hc] at p3
    exact ⟨c3, [x], dk, o3, .cons (t1.mono x3.sub x3.pre) .nil, t3, hc.1, hc.2.1, by rw [hnp]; exact hc.2.2, p3⟩
  · rw [if_neg hc] at p3; exact p3.elim
end
end
end PV
end

section
/-! instances made -/
namespace PV
open PySem PySem.Spec L2
open PyProof.Rows hiding St
mutual
/-- names only the first n objects of the store -/
def D.lt (n : Nat) : D → Bool
  | .lst xs => D.ltL n xs
  | .tup xs => D.ltL n xs
  | .dic ks => D.ltK n ks
  | .ins _ fs => D.ltF n fs
  | .obj i => decide (i < n)
  | .non | .bl _ | .int _ | .str _ | .cls _ | .ty _ | .tab _ _ => true
def D.ltL (n : Nat) : List D → Bool
  | [] => true
  | d :: ds => D.lt n d && D.ltL n ds
def D.ltK (n : Nat) : List (Key × D) → Bool
  | [] => true
  | (_, d) :: ds => D.lt n d && D.ltK n ds
def D.ltF (n : Nat) : List (Str × D) → Bool
  | [] => true
  | (_, d) :: ds => D.lt n d && D.ltF n ds
end
section
variable {K : PySem.W.Frag} {G : ClsAt} {As As' : List Addr} {F : Hp} {n : Nat}
mutual
theorem Den.cut (h : As'.take n = As) : ∀ {d : D} {v : V}, D.lt n d = true → Den K G As' F d v → Den K G As F d v
  | _, _, _, .non => .non
  | _, _, _, .bl => .bl
  | _, _, _, .int => .int
  | _, _, _, .str => .str
  | _, _, _, .ty => .ty
  | _, _, _, .cls => .cls
  | .obj i, _, e, .obj q => .obj (by
      have hi : i < n := of_decide_eq_true (show decide (i < n) = true by simpa only [D.lt] using e)
      rw [← h, List.getElem?_take, if_pos hi]; exact q)
  | .lst xs, _, e, .lst q l => .lst q (DenL.cut h (show D.ltL n xs = true by simpa only [D.lt] using e) l)
  | .tup xs, _, e, .tup q l => .tup q (DenL.cut h (show D.ltL n xs = true by simpa only [D.lt] using e) l)
  | .dic xs, _, e, .dic q l => .dic q (DenK.cut h (show D.ltK n xs = true by simpa only [D.lt] using e) l)
  | .ins _ xs, _, e, .ins q l => .ins q (DenF.cut h (show D.ltF n xs = true by simpa only [D.lt] using e) l)
theorem DenL.cut (h : As'.take n = As) : ∀ {d : List D} {v : List V}, D.ltL n d = true → DenL K G As' F d v → DenL K G As F d v
  | _, _, _, .nil => .nil
  | x :: xs, _, e, .cons t l => by
    have e : (D.lt n x && D.ltL n xs) = true := by simpa only [D.ltL] using e
    rw [Bool.and_eq_true] at e
    exact .cons (Den.cut h e.1 t) (DenL.cut h e.2 l)
theorem DenK.cut (h : As'.take n = As) : ∀ {d : List (Key × D)} {v : List (Key × V)}, D.ltK n d = true → DenK K G As' F d v → DenK K G As F d v
  | _, _, _, .nil => .nil
  | (_, x) :: xs, _, e, .cons t l => by
    have e : (D.lt n x && D.ltK n xs) = true := by simpa only [D.ltK] using e
    rw [Bool.and_eq_true] at e
    exact .cons (Den.cut h e.1 t) (DenK.cut h e.2 l)
theorem DenF.cut (h : As'.take n = As) : ∀ {d : List (Str × D)} {v : List (Str × V)}, D.ltF n d = true → DenF K G As' F d v → DenF K G As F d v
  | _, _, _, .nil => .nil
  | (_, x) :: xs, _, e, .cons t l => by
    have e : (D.lt n x && D.ltF n xs) = true := by simpa only [D.ltF] using e
    rw [Bool.and_eq_true] at e
    exact .cons (Den.cut h e.1 t) (DenF.cut h e.2 l)
end
theorem OwnAt.cut {H : Hp} {a : Addr} (h : As'.take n = As) : ∀ {d : D}, D.lt n d = true → OwnAt K G As' F H a d → OwnAt K G As F H a d
  | .lst xs, e, ⟨vs, q, l⟩ => ⟨vs, q, l.cut h (show D.ltL n xs = true by simpa only [D.lt] using e)⟩
  | .dic xs, e, ⟨vs, q, l⟩ => ⟨vs, q, l.cut h (show D.ltK n xs = true by simpa only [D.lt] using e)⟩
  | .ins _ xs, e, ⟨dx, vs, q, l⟩ => ⟨dx, vs, q, l.cut h (show D.ltF n xs = true by simpa only [D.lt] using e)⟩
  | .non, _, z | .bl _, _, z | .int _, _, z | .str _, _, z | .tup _, _, z | .cls _, _, z | .ty _, _, z | .obj _, _, z | .tab _ _, _, z => z
theorem ObAt.cut {H : Hp} {a : Addr} (h : As'.take n = As) {d : D} (e : D.lt n d = true) (w : ObAt K G As' F H a d) : ObAt K G As F H a d := by
  cases d with
  | tab q a2 => exact w
  | _ => unfold ObAt at w ⊢; exact OwnAt.cut h e w
end
/-- a new instance: the class's __init__ runs over it as the store's last object -/
def mkM (C : Str) (np : Nat) (gD : List D → List D → List D) (m : List D → M D) (ds dk : List D) : M D := fun s =>
  if (gD (.obj s.length :: ds) dk).length = np then match m (gD (.obj s.length :: ds) dk) (s ++ [.ins C []]) with
    | .ok .non s' => if s'.length = s.length + 1 ∧ D.ltL s.length s' = true then (match s'[s.length]? with
      | some (.ins k fs) => .ok (.ins k fs) (s'.take s.length)
      | _ => .no) else .no
    | .err e s' => if s'.length = s.length + 1 ∧ D.ltL s.length s' = true ∧ D.ltF s.length e.fs = true then .err e (s'.take s.length) else .no
    | _ => .no
  else .no
section
variable {K : PySem.W.Frag} {G : ClsAt}
theorem ltL_get {n : Nat} : ∀ {s : List D} {i : Nat} {d : D}, D.ltL n s = true → s[i]? = some d → D.lt n d = true
  | [], _, _, _, e => by cases e
  | x :: xs, 0, _, h, e => by
    cases e
    have h : (D.lt n x && D.ltL n xs) = true := by simpa only [D.ltL] using h
    exact (Bool.and_eq_true_iff.mp h).1
  | x :: xs, i + 1, _, h, e => by
    have h : (D.lt n x && D.ltL n xs) = true := by simpa only [D.ltL] using h
    exact ltL_get (i := i) (Bool.and_eq_true_iff.mp h).2 (by simpa using e)
/-- the store with a new instance -/
theorem CfOk.push {c : Cf} {H : Hp} {x dx : Addr} {C : Str} (o : CfOk K G c H) (hx : H x = none) (hd : H dx = none) (ne : dx ≠ x) : CfOk K G ⟨c.F, c.As ++ [x], c.st ++ [.ins C []]⟩ (upd (upd H dx (.own x)) x (.ins (G C) dx [])) := by
  have g : ∀ a u, H a = some u → upd (upd H dx (.own x)) x (.ins (G C) dx []) a = some u := fun a u q => by
    rw [upd_ne (fun z => by rw [z, hx] at q; cases q), upd_ne (fun z => by rw [z, hd] at q; cases q)]; exact q
  have o2 := o.grow g
  have nx := o.notAs hx
  have pre : c.As <+: c.As ++ [x] := List.prefix_append _ _
  refine ⟨o2.le, by simp [o.len], List.nodup_append.mpr ⟨o.nd, by simp, fun p hp q hq => ?_⟩, fun i b d e1 e2 => ?_⟩
  · have : q = x := by simpa using hq
    subst this
    exact fun z => nx (z ▸ hp)
  · have e1 : (c.As ++ [x])[i]? = some b := e1
    have e2 : (c.st ++ [D.ins C []])[i]? = some d := e2
    by_cases hj : i < c.As.length
    · rw [List.getElem?_append_left hj] at e1
      rw [List.getElem?_append_left (by rw [← o.len]; exact hj)] at e2
      obtain ⟨q1, q2⟩ := o2.obj i b d e1 e2
      exact ⟨q1, q2.mono (Sub.refl _) pre fun _ q => q⟩
    · have hj2 : i = c.As.length := by
        have := (List.getElem?_eq_some_iff.mp e1).1
        simp at this; omega
      subst hj2
      rw [List.getElem?_append_right (Nat.le_refl _)] at e1
      rw [List.getElem?_append_right (by rw [o.len]; exact Nat.le_refl _), o.len] at e2
      simp at e1 e2
      subst e1 e2
      exact ⟨o.le.none hx, dx, [], upd_same, .nil⟩
/-- the instance is taken out of the store: shared from now on -/
theorem take_out {c : Cf} {H H4 : Hp} {x dx : Addr} {C : Str} {F' : Hp} {As' : List Addr} {s' : Stt} (o : CfOk K G c H) (hx : H x = none) (hd : H dx = none) (ne : dx ≠ x) (xt : Ext ⟨c.F, c.As ++ [x], c.st ++ [.ins C []]⟩ (upd (upd H dx (.own x)) x (.ins (G C) dx [])) ⟨F', As', s'⟩ H4)
    (o4 : CfOk K G ⟨F', As', s'⟩ H4) (hl : s'.length = c.st.length + 1) (hs : D.ltL c.st.length s' = true) :
    As' = c.As ++ [x] ∧ As'.take c.st.length = c.As ∧ ∃ d, s'[c.st.length]? = some d ∧ ObAt K G c.As F' H4 x d ∧ F' x = none ∧ x ∉ c.As ∧ Ext c H ⟨F', c.As, s'.take c.st.length⟩ H4 ∧ CfOk K G ⟨F', c.As, s'.take c.st.length⟩ H4 := by
  have g : ∀ a u, H a = some u → upd (upd H dx (.own x)) x (.ins (G C) dx []) a = some u := fun a u q => by
    rw [upd_ne (fun z => by rw [z, hx] at q; cases q), upd_ne (fun z => by rw [z, hd] at q; cases q)]; exact q
  have nx := o.notAs hx
  have hlen : As'.length = c.As.length + 1 := by rw [o4.len, hl, o.len]
  have eA : As' = c.As ++ [x] := by
    obtain ⟨r, hr⟩ := xt.pre
    have hr : c.As ++ [x] ++ r = As' := hr
    have : r.length = 0 := by
      have := congrArg List.length hr
      simp only [List.length_append, List.length_cons, List.length_nil] at this
      omega
    rw [List.length_eq_zero_iff.mp this, List.append_nil] at hr
    exact hr.symm
  have eT : As'.take c.st.length = c.As := by rw [eA, ← o.len]; simp
  have hn : c.st.length < s'.length := by omega
  have eX : As'[c.st.length]? = some x := by rw [eA, ← o.len]; simp
  obtain ⟨f4, w4⟩ := o4.obj c.st.length x _ eX (List.getElem?_eq_getElem hn)
  refine ⟨eA, eT, _, List.getElem?_eq_getElem hn, w4.cut eT (ltL_get hs (List.getElem?_eq_getElem hn)), f4, nx, ?_, ?_⟩
  · refine ⟨fun a u q m => xt.keep a u (g a u q) (fun z => ?_), fun a u q => xt.there a u (g a u q), xt.sub, fun a u q => ?_, List.prefix_rfl, fun _ z => .inl z⟩
    · rcases List.mem_append.mp z with z | z
      · exact m z
      · have : a = x := by simpa using z
        rw [this, hx] at q; cases q
    · rcases xt.new a u q with z | z
      · exact .inl z
      · refine .inr ?_
        cases e : H a with
        | none => rfl
        | some u2 => rw [g a u2 e] at z; cases z
  · refine ⟨o4.le, by rw [List.length_take, hl, o.len]; omega, o.nd, fun i b d e1 e2 => ?_⟩
    have e1 : c.As[i]? = some b := e1
    have e2 : (s'.take c.st.length)[i]? = some d := e2
    have hi : i < c.As.length := (List.getElem?_eq_some_iff.mp e1).1
    rw [List.getElem?_take, if_pos (by rw [← o.len]; exact hi)] at e2
    obtain ⟨q1, q2⟩ := o4.obj i b d (by show As'[i]? = _; rw [eA, List.getElem?_append_left hi]; exact e1) e2
    exact ⟨q1, q2.cut eT (ltL_get hs e2)⟩
end
/-- a class that may be made -/
structure KOk (P : Program) (w : World) (K : PySem.W.Frag) (mg : Str → Option Value) (base : Heap) (G : ClsAt) (k : Nat) (c : Str) (fs : List Form) (np : Nat) (m : List D → M D) : Prop where
  ex : ∃ f fd ps, Mk K (G c) f ∧ ps.length = np ∧ FnOk P w K mg base (L2.CX P w) k f fd ps (spPV K G (rDen K G) ps.length m) ∧ ∀ e ∈ fs, Bnd K G fd ps (e.1 + 1) e.2.1 e.2.2
  mg : mg c = some (.ref (G c))
section
variable {X : Cx} {G : ClsAt} {W : WX}
/-- the class called: the callee runs over a new instance -/
theorem run_mk {k n : Nat} {f : Addr} {fd : FuncData} {ps ks : List Str} {C : Str} {m : List D → M D} {gD : List D → List D → List D} (M_ : Mk X.K (G C) f) (F : FnOk X.prog X.w X.K X.mg X.base (L2.CX X.prog X.w) k f fd ps (spPV X.K G (rDen X.K G) ps.length m)) (B : Bnd X.K G fd ps (n + 1) ks gD) (hr : Room (k + 1) X.A) (tk : Takes X W)
    {pins : List (Addr × Obj)} {σ : L2.St} {H : Hp} {s : Shared} {Q : VK} {c : Cf} {ds dk : List D} {us ws : List Value} {vs zs : List V} (I : Inv X pins σ H s) (r : Vals vs us) (rz : Vals zs ws) (o : CfOk X.K G c H) (l : DenL X.K G c.As c.F ds vs) (lk : DenL X.K G c.As c.F dk zs) (h1 : ds.length = n) (h2 : dk.length = ks.length)
    (p : Post X.K G (PDen X.K G) (fun cls dx H' => W cls dx σ H') c H (mkM C ps.length gD m ds dk c.st) Q) : wpAny (model X.prog X.w) X.A (call (.ref (G C)) us (ks.zip ws)) (EP X pins σ Q) X.xe s := by
  obtain ⟨g, gV, kb, hd⟩ := B
  have x := s.heap.objs.size + 1
  have I2 := Inv.made (C := G C) I
  have e1 : us.length = n := by rw [← r.length, ← l.length]; exact h1
  have e2 : ws.length = ks.length := by rw [← rz.length, ← lk.length]; exact h2
  have hx : H (s.heap.objs.size + 1) = none := I.hok.fresh (Nat.le_succ _)
  have hdx : H s.heap.objs.size = none := I.hok.fresh (Nat.le_refl _)
  have ne : s.heap.objs.size ≠ s.heap.objs.size + 1 := Nat.ne_of_lt (Nat.lt_succ_self _)
  have o2 : CfOk X.K G ⟨c.F, c.As ++ [s.heap.objs.size + 1], c.st ++ [.ins C []]⟩ (upd (upd H s.heap.objs.size (.own (s.heap.objs.size + 1))) (s.heap.objs.size + 1) (.ins (G C) s.heap.objs.size [])) := o.push hx hdx ne
  have pre : c.As <+: c.As ++ [s.heap.objs.size + 1] := List.prefix_append _ _
  have r1 : Vals (V.ref (s.heap.objs.size + 1) :: vs) (Value.ref (s.heap.objs.size + 1) :: us) := .cons (show RelV (V.ref _) (Value.ref _) from rfl) r
  have lg := hd (ds := D.obj c.st.length :: ds) (dk := dk) (vs := V.ref (s.heap.objs.size + 1) :: vs) (zs := zs) (by simp [h1]) h2 (.cons (.obj (by rw [← o.len]; simp)) (l.mono (Sub.refl _) pre)) (lk.mono (Sub.refl _) pre)
  have rg := kb.rel r1 rz
  unfold mkM at p
  by_cases hl : (gD (.obj c.st.length :: ds) dk).length = ps.length
  · rw [if_pos hl] at p
    refine wpAny_call (make_map (f := f) I.kIn M_.makes M_.init (beq_iff_eq.mp M_.fn) (codeAny_mono (F.run _ X.stack _ _ ⟨Value.ref (s.heap.objs.size + 1) :: us, ks.zip ws⟩ (g (Value.ref (s.heap.objs.size + 1) :: us) ws) (gV (V.ref (s.heap.objs.size + 1) :: vs) zs) (fun v H2 => v = .non ∧ Q (.ref (s.heap.objs.size + 1)) H2) (WE W σ) (hr.make (G C) us (ks.zip ws))
      (I2.env0.make (G C) us (ks.zip ws)) (kb.to _ (Value.ref (s.heap.objs.size + 1) :: us) ws I2.kIn (by simp [e1]) e2) rg ⟨by rw [← lg.length]; exact hl, _, _, o2, lg, ?_⟩) fun r s' hq' => ?_))
    · cases e : m (gD (.obj c.st.length :: ds) dk) (c.st ++ [.ins C []]) with
      | no => rw [e] at p; exact p.elim
      | err er s' =>
        rw [e] at p
        simp only at p
        by_cases hc : s'.length = c.st.length + 1 ∧ D.ltL c.st.length s' = true ∧ D.ltF c.st.length er.fs = true
        · rw [if_pos hc] at p
          intro F' As' H' cls dx xt o4 ea
          obtain ⟨eA, eT, d, _, _, _, _, xt2, o5⟩ := take_out o hx hdx ne xt o4 hc.1 hc.2.1
          obtain ⟨ec, dd, ws', e3, e4, e5⟩ := ea
          exact p F' c.As H' cls dx xt2 o5 ⟨ec, dd, ws', e3, e4, e5.cut eT hc.2.2⟩
        · rw [if_neg hc] at p; exact p.elim
      | ok d s' =>
        rw [e] at p
        cases d with
        | non =>
          simp only at p
          by_cases hc : s'.length = c.st.length + 1 ∧ D.ltL c.st.length s' = true
          · rw [if_pos hc] at p
            intro v F' As' H' xt o4 t
            cases t
            refine ⟨rfl, ?_⟩
            obtain ⟨eA, eT, d, ed, w, f4, nx, xt2, o5⟩ := take_out o hx hdx ne xt o4 hc.1 hc.2
            rw [ed] at p
            cases d with
            | ins k' fs =>
              obtain ⟨dx, ws', h4, l4⟩ := w
              have sb := sub_upd (F := F') (a := s.heap.objs.size + 1) (u := .ins (G k') dx ws') f4
              refine p (.ref (s.heap.objs.size + 1)) (upd F' (s.heap.objs.size + 1) (.ins (G k') dx ws')) c.As H' ⟨fun b u h m => (xt2.keep b u h m).up sb, xt2.there, Sub.trans xt2.sub sb, fun b u q => ?_, xt2.pre, xt2.anew⟩ (o5.share h4 nx f4) (.ins upd_same (l4.mono sb List.prefix_rfl))
              by_cases z : b = s.heap.objs.size + 1
              · rw [z]; exact .inr hx
              · have q' : upd F' (s.heap.objs.size + 1) (.ins (G k') dx ws') b = some u := q
                rw [upd_ne z] at q'
                exact xt2.new b u q'
            | _ => exact p.elim
          · rw [if_neg hc] at p; exact p.elim
        | _ => exact p.elim
    · cases r with
      | error e => exact passAt tk σ pins _ _ e s' I2 hq'
      | ok fl =>
        cases fl with
        | ret u =>
          obtain ⟨v, H', I3, rv, ev, q3⟩ := I2.after hq'
          subst ev
          exact ⟨rv, ⟨V.ref (s.heap.objs.size + 1), H', I3, rfl, q3⟩⟩
        | next => exact False.elim hq'
        | brk => exact False.elim hq'
        | cont => exact False.elim hq'
  · rw [if_neg hl] at p; exact p.elim
def chkM {α : Type} (b : Bool) (x : M α) : M α := if b = true then x else no
abbrev eMk (C : Str) (n nk np : Nat) (gD : List D → List D → List D) (m : List D → M D) (fa fk : Env → M (List D)) : Env → M D := fun ρ => do let ds ← fa ρ; let dk ← fk ρ; chkM (decide (ds.length = n ∧ dk.length = nk)) (mkM C np gD m ds dk)
abbrev eMk0 (C : Str) (nk np : Nat) (gD : List D → List D → List D) (m : List D → M D) (fk : Env → M (List D)) : Env → M D := fun ρ => do let dk ← fk ρ; chkM (decide (dk.length = nk)) (mkM C np gD m [] dk)
section
variable {P : Program} {w : World} {K : PySem.W.Frag} {mg : Str → Option Value} {base : Heap} {N : List Str} {sc : Scope} {T : NT} {j k n np i : Nat} {ks : List Str} {fs : List Form} {gD : List D → List D → List D} {m : List D → M D} {C : Str}
theorem ve_mk {e : Expr} {es : List Expr} {kws : List Keyword} {fa fk : Env → M (List D)} {p pos : Pos} (c : Ct P w K mg base N sc T j X W) (Kk : KOk P w K mg base G k C fs np m) (hkj : k + 1 ≤ j) (tj : Nat) (hf : (n, ks, gD) ∈ fs) (ha : VA G X W (e :: es) fa) (hkw : VK2 G X W kws fk) (h : T[tj]? = some (C, .globalImplicit, i) := by rfl)
    (he : starEach (e :: es) X.env = (false, eval e X.env) :: starEach es X.env := by rfl) (hall : (backToKw pos (keywordEach kws X.env)).all (·.1.isSome) = true := by rfl) (hks : (backToKw pos (keywordEach kws X.env)).filterMap (·.1) = ks := by rfl)
    (hpl : ((backTo pos (starEach (e :: es) X.env)).any (·.1) || (backToKw pos (keywordEach kws X.env)).any (·.1.isNone)) = false := by rfl) : VE G X W (.Call (.Name C p) (e :: es) kws pos) (eMk C n ks.length np gD m fa fk) := by
  obtain ⟨⟨hP, hw, hK, hmg, hb⟩, on, hN, hs, nd, kd, hr, tk⟩ := c
  subst hP hw hK hmg hb
  obtain ⟨f, fd, ps, M_, hnp, F, B⟩ := Kk.ex
  refine ⟨fun pins s σ H Q I hh => ?_⟩
  obtain ⟨H0, ρ, c, o, sl, p⟩ := hh
  refine wpAny_Call_Name_kw (ld_glob I (on.gl h) Kk.mg ?_ (on.dbg h))
  have step := tL_step (R := fun vs H1 => tL X.K G W fk σ H1 fun zs H2 => ∃ c ds dk, CfOk X.K G c H2 ∧ DenL X.K G c.As c.F ds vs ∧ DenL X.K G c.As c.F dk zs ∧ ds.length = n ∧ dk.length = ks.length ∧ Post X.K G (PDen X.K G) (fun cls dx H' => W cls dx σ H') c H2 (mkM C np gD m ds dk c.st) Q) rfl o sl p fun ds vs c2 H2 x2 o2 sl2 t2 p2 => tL_step rfl o2 sl2 p2 fun dk zs c3 H3 x3 o3 sl3 t3 p3 => by
    have p3 : Post X.K G (PDen X.K G) _ c3 H3 ((if decide (ds.length = n ∧ dk.length = ks.length) = true then mkM C np gD m ds dk else no) c3.st) Q := p3
    by_cases hc : ds.length = n ∧ dk.length = ks.length
    · rw [if_pos (decide_eq_true hc)] at p3
      exact ⟨c3, ds, dk, o3, t2.mono x3.sub x3.pre, t3, hc.1, hc.2, p3⟩
    · rw [if_neg (by simpa using hc)] at p3; exact p3.elim
  refine PySem.W.callWith_KW (h₀ := X.base) I.ok.mod.kin M_.kp hall (thn (ha.run pos pins s σ H _ I step) fun us s1 ⟨vs, H1, I1, r, q⟩ => ?_) hpl he
  refine thn (hkw.run pos pins s1 σ H1 _ I1 q) fun ws s2 ⟨zs, H2, I2, rz, c, ds, dk, o, l, lk, h1, h2, p⟩ => ⟨I2.kIn, ?_⟩
  rw [hks]
  exact run_mk M_ F (B _ hf) (hr.mono hkj) tk I2 r rz o l lk h1 h2 (by rw [hnp]; exact p)
theorem ve_mk0 {kws : List Keyword} {fk : Env → M (List D)} {p pos : Pos} (c : Ct P w K mg base N sc T j X W) (Kk : KOk P w K mg base G k C fs np m) (hkj : k + 1 ≤ j) (tj : Nat) (hf : (0, ks, gD) ∈ fs) (hkw : VK2 G X W kws fk) (h : T[tj]? = some (C, .globalImplicit, i) := by rfl)
    (hall : (backToKw pos (keywordEach kws X.env)).all (·.1.isSome) = true := by rfl) (hks : (backToKw pos (keywordEach kws X.env)).filterMap (·.1) = ks := by rfl)
    (hpl : ((backTo pos (starEach ([] : List Expr) X.env)).any (·.1) || (backToKw pos (keywordEach kws X.env)).any (·.1.isNone)) = false := by rfl) : VE G X W (.Call (.Name C p) [] kws pos) (eMk0 C ks.length np gD m fk) := by
  obtain ⟨⟨hP, hw, hK, hmg, hb⟩, on, hN, hs, nd, kd, hr, tk⟩ := c
  subst hP hw hK hmg hb
  obtain ⟨f, fd, ps, M_, hnp, F, B⟩ := Kk.ex
  refine ⟨fun pins s σ H Q I hh => ?_⟩
  obtain ⟨H0, ρ, c, o, sl, p⟩ := hh
  refine wpAny_Call_Name_kw (ld_glob I (on.gl h) Kk.mg ?_ (on.dbg h))
  have step := tL_step (R := fun zs H2 => ∃ c dk, CfOk X.K G c H2 ∧ DenL X.K G c.As c.F dk zs ∧ dk.length = ks.length ∧ Post X.K G (PDen X.K G) (fun cls dx H' => W cls dx σ H') c H2 (mkM C np gD m [] dk c.st) Q) rfl o sl p fun dk zs c3 H3 x3 o3 sl3 t3 p3 => by
    have p3 : Post X.K G (PDen X.K G) _ c3 H3 ((if decide (dk.length = ks.length) = true then mkM C np gD m [] dk else no) c3.st) Q := p3
    by_cases hc : dk.length = ks.length
    · rw [if_pos (decide_eq_true hc)] at p3
      exact ⟨c3, dk, o3, t3, hc, p3⟩
    · rw [if_neg (by simpa using hc)] at p3; exact p3.elim
  refine PySem.W.callWith_KW0 (h₀ := X.base) I.ok.mod.kin M_.kp hall ?_ hpl
  refine thn (hkw.run pos pins s σ H _ I step) fun ws s2 ⟨zs, H2, I2, rz, c, dk, o, lk, h2, p⟩ => ⟨I2.kIn, ?_⟩
  rw [hks]
  exact run_mk M_ F (B _ hf) (hr.mono hkj) tk I2 .nil rz o .nil lk rfl h2 (by rw [hnp]; exact p)
end
end
end PV
end

section
/-! own classes: operators, tests, len, isinstance -/
namespace PV
open PySem PySem.Spec L2
open PyProof.Rows hiding St
/-- a method that an operator runs -/
structure DunOk (P : Program) (w : World) (K : PySem.W.Frag) (mg : Str → Option Value) (base : Heap) (G : ClsAt) (k : Nat) (c nm : Str) (np : Nat) (m : List D → M D) : Prop where
  cl : Cls K (G c)
  ex : ∃ f fd ps, PySem.W.findIn K (.ref (G c)) nm = some (some (.ref f)) ∧ PySem.W.isFn K (.ref f) = true ∧ PySem.W.fnIn K f = true ∧ ps.length = np ∧ FnOk P w K mg base (L2.CX P w) k f fd ps (spPV K G (rDen K G) ps.length m) ∧ Binds K fd ps []
abbrev DTb := List (Str × (List D → M D))
section
variable {X : Cx} {G : ClsAt} {W : WX}
theorem run_dun {A' : Around} {k : Nat} {f : Addr} {fd : FuncData} {ps : List Str} {m : List D → M D} (F : FnOk X.prog X.w X.K X.mg X.base (L2.CX X.prog X.w) k f fd ps (spPV X.K G (rDen X.K G) ps.length m)) (B : Binds X.K fd ps []) (hr : Room k A')
    {pins : List (Addr × Obj)} {σ : L2.St} {H : Hp} {s : Shared} {Q : VK} {c : Cf} {ds : List D} {us : List Value} {vs : List V} (e0 : Env0 X.prog X.w X.K X.mg X.base A' X.stack s H) (tk : Takes X W) (I : Inv X pins σ H s) (r : Vals vs us) (o : CfOk X.K G c H) (l : DenL X.K G c.As c.F ds vs) (hl : ds.length = ps.length)
    (p : Post X.K G (PDen X.K G) (fun cls dx H' => W cls dx σ H') c H (m ds c.st) Q) : wpAny (model X.prog X.w) A' (call (.ref f) us) (EP X pins σ Q) X.xe s := by
  have hu : (us ++ []).length = ps.length := by rw [List.append_nil, ← r.length, ← l.length]; exact hl
  have b := B s us I.kIn hu
  rw [List.append_nil] at b
  refine wpAny_call (codeAny_mono (F.run A' X.stack s H ⟨us, []⟩ us vs Q (WE W σ) hr e0 b r ⟨by rw [← l.length]; exact hl, c, ds, o, l, p⟩) fun rr s' hq => ?_)
  cases rr with
  | error e => exact passAt tk σ pins H s e s' I hq
  | ok fl =>
    cases fl with
    | ret u => exact I.after hq
    | next => exact False.elim hq
    | brk => exact False.elim hq
    | cont => exact False.elim hq
/-- two values, by data: errors are wished for at these slots -/
def OpD (X : Cx) (G : ClsAt) (W : WX) (f : Value → Value → Sem Value) (F2 : D → D → M D) : Prop := ∀ (pins : List (Addr × Obj)) (s : Shared) (σ : L2.St) (H : Hp) (x y : D) (v w : V) (vv uu : Value) (Q : VK) (c : Cf), Inv X pins σ H s → RelV v vv → RelV w uu → CfOk X.K G c H → Den X.K G c.As c.F x v → Den X.K G c.As c.F y w →
  Post X.K G (PDen X.K G) (fun cls dx H' => W cls dx σ H') c H (F2 x y c.st) Q → wpAny (model X.prog X.w) X.A (f vv uu) (EP X pins σ Q) X.xe s
theorem OpD.of {f : Value → Value → Sem Value} {r : R2} {F2 : D → D → M D} (ho : OpR X f r) (h2 : Op2 X G r (P0 X G) F2) : OpD X G W f F2 :=
  fun pins s σ H x y v w vv uu Q c I r1 r2 o t1 t2 p => ho pins s σ H v w vv uu Q I r1 r2 (h2 c H x y v w _ Q o (.inl t1) (.inl t2) p)
theorem ve_opD {a b : Expr} {f g : Env → M D} {op : Operator} {F2 : D → D → M D} {pos : Pos} (ho : OpD X G W (binaryOp op) F2) (ha : VE G X W a f) (hb : VE G X W b g) : VE G X W (.BinOp a op b pos) (fun ρ => do let x ← f ρ; let y ← g ρ; F2 x y) := by
  refine ⟨fun pins s σ H Q I ⟨H0, ρ, c, o, sl, p⟩ => wpAny_BinOp (binT ha hb I (R := fun v w H2 => ∃ c2 x y, CfOk X.K G c2 H2 ∧ Den X.K G c2.As c2.F x v ∧ Den X.K G c2.As c2.F y w ∧ Post X.K G (PDen X.K G) (fun cls dx H' => W cls dx σ H') c2 H2 (F2 x y c2.st) Q)
    (tV_step rfl o sl p fun x v c1 H1 x1 o1 sl1 t1 p1 => tV_step rfl o1 sl1 p1 fun y w c2 H2 x2 o2 sl2 t2 p2 => ⟨c2, x, y, o2, t1.mono x2.sub x2.pre, t2, p2⟩) fun vv uu s2 v w H2 I2 rx ry ⟨c2, x, y, o2, t1, t2, p2⟩ => ho pins s2 σ H2 x y v w vv uu Q c2 I2 rx ry o2 t1 t2 p2)⟩
theorem ve_cmpD {a b : Expr} {f g : Env → M D} {op : CmpOp} {F2 : D → D → M D} {pos : Pos} (ho : OpD X G W (compareOp op) F2) (ha : VE G X W a f) (hb : VE G X W b g) (hm : behindInMarks op b = false := by first | exact nomark _ | rfl) : VE G X W (.Compare a [op] [b] pos) (fun ρ => do let x ← f ρ; let y ← g ρ; F2 x y) := by
  refine ⟨fun pins s σ H Q I ⟨H0, ρ, c, o, sl, p⟩ => wpAny_Compare1 (binT ha hb I (R := fun v w H2 => ∃ c2 x y, CfOk X.K G c2 H2 ∧ Den X.K G c2.As c2.F x v ∧ Den X.K G c2.As c2.F y w ∧ Post X.K G (PDen X.K G) (fun cls dx H' => W cls dx σ H') c2 H2 (F2 x y c2.st) Q)
    (tV_step rfl o sl p fun x v c1 H1 x1 o1 sl1 t1 p1 => tV_step rfl o1 sl1 p1 fun y w c2 H2 x2 o2 sl2 t2 p2 => ⟨c2, x, y, o2, t1.mono x2.sub x2.pre, t2, p2⟩) fun vv uu s2 v w H2 I2 rx ry ⟨c2, x, y, o2, t1, t2, p2⟩ => ho pins s2 σ H2 x y v w vv uu Q c2 I2 rx ry o2 t1 t2 p2) hm⟩
theorem vt_cmpD {a b : Expr} {f g : Env → M D} {op : CmpOp} {F2 : D → D → M D} {pos : Pos} (ho : OpD X G W (compareOp op) F2) (ha : VE G X W a f) (hb : VE G X W b g) (hm : behindInMarks op b = false := by first | exact nomark _ | rfl) : VT G X W (.Compare a [op] [b] pos) (fun ρ => do let x ← f ρ; let y ← g ρ; let z ← F2 x y; asB z) := by
  refine ⟨fun pins s σ H Q I ⟨H0, ρ, c, o, sl, p⟩ => ?_⟩
  have st : tV X.K G W f σ H fun v H1 => tV X.K G W g σ H1 fun w H2 => ∃ c2 x y, CfOk X.K G c2 H2 ∧ Den X.K G c2.As c2.F x v ∧ Den X.K G c2.As c2.F y w ∧ Post X.K G (PDen X.K G) (fun cls dx H' => W cls dx σ H') c2 H2 (F2 x y c2.st) fun z H3 => ∃ k, z = .bl k ∧ Q k H3 :=
    tV_step rfl o sl p fun x v c1 H1 x1 o1 sl1 t1 p1 => tV_step rfl o1 sl1 p1 fun y w c2 H2 x2 o2 sl2 t2 p2 => ⟨c2, x, y, o2, t1.mono x2.sub x2.pre, t2, ((Post.bind (P := PDen X.K G) (f := asB) p2).imp (fun _ _ _ _ _ _ p => p) (fun v H' ⟨d, c', x, o', q, r⟩ => by
      cases d with
      | bl b => cases q; exact ⟨b, rfl, r.here o' (fun _ _ h => h) rfl⟩
      | _ => exact r.elim) fun _ _ _ z => z)⟩
  refine wpAny_isTrue_Compare1 (thn (ha.run pins s σ H _ I st) fun vv s1 ⟨v, H1, I1, rx, q1⟩ => thn (hb.run pins s1 σ H1 _ I1 q1) fun uu s2 ⟨w, H2, I2, ry, c2, x, y, o2, t1, t2, p2⟩ => thn (ho pins s2 σ H2 x y v w vv uu _ c2 I2 rx ry o2 t1 t2 p2) fun cc s3 ⟨z, H3, I3, r3, k, e, q3⟩ => ?_) hm
  subst e
  cases r3
  exact wpAny_truthy_bool ⟨H3, I3, q3⟩
/-- an instance, as the model sees it -/
theorem ins_look {pins : List (Addr × Obj)} {σ : L2.St} {H : Hp} {s : Shared} {a C dx : Addr} {fs : List (Str × V)} (I : Inv X pins σ H s) (ea : H a = some (.ins C dx fs)) : ∃ ox od, PySem.W.InstAt s.heap a ox C (some od) := by
  obtain ⟨mA, O, _, _, _, _⟩ := ins_get I.hok ea
  obtain ⟨od, J, _⟩ := O.look
  exact ⟨_, od, J⟩
theorem looks_ty {pins : List (Addr × Obj)} {σ : L2.St} {H : Hp} {s : Shared} {x : V} {u t : Value} (I : Inv X pins σ H s) (rx : RelV x u) (ty : TyX X.K H x t) : PySem.W.Looks (model X.prog X.w) s.heap (typeOf u) t := by
  obtain ⟨P, kx, hp, _⟩ := kit_of I rx ty
  exact kx.ty _ _ I.kIn hp
/-- x op y where x may be an own instance -/
def dunD (tb : DTb) (F2 : D → D → M D) (x y : D) : M D := fun s => match insAt s x with
  | some (c, _) => match tb.lookup c with
    | some m => m [x, y] s
    | none => .no
  | none => F2 x y s
/-- what the classes' answers to == want of the other side's type -/
def NFirst (K : PySem.W.Frag) (G : ClsAt) (c : Str) (ok : Tag → Bool) : Prop := ∀ t, ok t = true → PySem.W.notFirst K (G c) (tagV G t) = true
/-- .. the other side's type is looked at -/
def tagB (ok : Tag → Bool) (y : D) : M Unit := fun s => match tagOf s y with
  | some t => if ok t = true then .ok () s else .no
  | none => .no
structure EqT where
  ok : Tag → Bool
  m : List D → M D
def dunEq (tb : List (Str × EqT)) (F2 : D → D → M D) (x y : D) : M D := fun s => match insAt s x with
  | some (c, _) => match tb.lookup c with
    | some e => (match tagOf s y with
      | some t => if e.ok t = true then e.m [x, y] s else .no
      | none => .no)
    | none => .no
  | none => F2 x y s
theorem OpD.eq {tb : List (Str × EqT)} {F2 : D → D → M D} {j : Nat} (h2 : OpD X G W (compareOp .Eq) F2) (hr : Room (j + 1) X.A) (tk : Takes X W) (hown : ∀ c C, tb.lookup c = some C → ∀ k, ClsF X.K (G k) ∨ C.ok (.inr k) = false)
    (ht : ∀ c e, tb.lookup c = some e → DunOk X.prog X.w X.K X.mg X.base G j c "__eq__" 2 e.m ∧ NFirst X.K G c e.ok) : OpD X G W (compareOp .Eq) (dunEq tb F2) := by
  intro pins s σ H x y v w vv uu Q c I r1 r2 o t1 t2 p
  unfold dunEq at p
  cases q : insAt c.st x with
  | none => rw [q] at p; exact h2 pins s σ H x y v w vv uu Q c I r1 r2 o t1 t2 p
  | some kf =>
    obtain ⟨k, fs⟩ := kf
    rw [q] at p
    simp only at p
    obtain ⟨a, dx, ws, rfl, ha, la⟩ := DenT.insAt o (.inl t1) q
    cases q2 : tb.lookup k with
    | none => rw [q2] at p; exact p.elim
    | some e =>
      rw [q2] at p
      simp only at p
      cases q3 : tagOf c.st y with
      | none => rw [q3] at p; exact p.elim
      | some t =>
        rw [q3] at p
        simp only at p
        by_cases hk : e.ok t = true
        · rw [if_pos hk] at p
          obtain ⟨dn, nf⟩ := ht k e q2
          obtain ⟨f, fd, ps, hs, hf, hfn, hnp, F, B⟩ := dn.ex
          obtain rfl : vv = Value.ref a := r1
          obtain ⟨ox, od, J⟩ := ins_look I ha
          obtain ⟨m0, Fr0⟩ := I.fr
          have ty := tyx_of o (.inl t2) q3 (fun k' hk' => (hown k e q2 k').elim id fun z => by rw [hk'] at hk; rw [hk] at z; cases z)
          have r := run_dun (A' := X.A) (us := [.ref a, uu]) F B (hr.mono (Nat.le_succ _)) I.env0 tk I (.cons (show RelV (V.ref a) (Value.ref a) from rfl) (.cons r2 .nil)) o (.cons t1 (.cons t2 .nil)) (by rw [hnp]; rfl) p
          refine PySem.W.cmp_K (op := .Eq) (by have := hr.units; omega) Fr0 I.ok.mod.kin J (looks_ty I r2 ty) (nf t hk) hs hf (wpAny_mono r (fun u s' ⟨z, H', I', rz, qz⟩ => SlX.cmpback rz ⟨z, H', I', rz, qz⟩) fun _ _ z => z)
        · rw [if_neg hk] at p; exact p.elim

/-! != : the way of object.__ne__ -/
theorem ifb_slot {M : Model} {A : Around} {E : Value → Shared → Prop} {s : Shared} {K : PySem.W.Frag} {x C : Addr} {ox : Obj} {od : Option Obj} {args : List Value} {Q : Option Value → Shared → Prop} (KI : K.In s.heap) (I : PySem.W.InstAt s.heap x ox C od)
    (hs : PySem.W.findIn K (.ref C) "__ne__" = some (some (.builtin "object.__ne__"))) (h : wpAny M A (call (.builtin "object.__ne__") (.ref x :: args)) (fun v => Q (some v)) E s) : wpAny M A (callSpecialIfBound? (.ref x) "__ne__" args) Q E s := by
  simp only [callSpecialIfBound?, bindSpecialIfBound?]
  have fin : wpAny M A (call (.builtin "object.__ne__") ([.ref x] ++ args) >>= fun v => pure (some v)) Q E s := wpAny_bind (wpAny_mono h (fun _ _ z => wpAny_pure z) fun _ _ z => z)
  have nxt := F.cmp_object.ne.bind (.ref x)
  refine wpAny_holding (wpAny_bind (wpAny_bind (wpAny_bind (I.type.here ((PySem.W.looks_findIn KI hs).here (wpAny_bind (wpAny_askSetting (wpAny_ite ?_))))))))
  split
  · exact wpAny_bind (wpAny_of_eq nxt (wpAny_pure (by exact fin)))
  · exact wpAny_tryCatch (wpAny_bind (wpAny_of_eq nxt (wpAny_pure (by exact fin))))
theorem ne_own {prog : Program} {w : World} {A : Around} {E : Value → Shared → Prop} {s : Shared} {K : PySem.W.Frag} {x C f : Addr} {ox : Obj} {od : Option Obj} {b tb : Value} {Q : Value → Shared → Prop} (hu : A.in1.units < cLine) (hu0 : A.units < cLine) (KI : K.In s.heap) (I : PySem.W.InstAt s.heap x ox C od)
    (hb : PySem.W.Looks (model prog w) s.heap (typeOf b) tb) (hn : PySem.W.notFirst K C tb = true) (hm : PySem.W.mroIn K C (.type "object") = some true) (hne : PySem.W.findIn K (.ref C) "__ne__" = some (some (.builtin "object.__ne__")))
    (hs : PySem.W.findIn K (.ref C) "__eq__" = some (some (.ref f))) (hf : PySem.W.isFn K (.ref f) = true)
    (h : wpAny (model prog w) A.in1 (call (.ref f) [.ref x, b]) (fun v s' => ∃ k, v = .bool k ∧ Q (.bool !k) s') E s) : wpAny (model prog w) A (richCompare .NotEq (.ref x) b) Q E s := by
  have body : wpAny (model prog w) A (call (.builtin "object.__ne__") [.ref x, b]) (fun v s' => ∃ k, v = .bool k ∧ Q (.bool k) s') E s := by
    refine wpAny_call (codeAny_call_builtin F.cmp_object.ne.plain F.cmpEntry_ne (PySem.W.check_slot F.cmpKind_ne F.cmpSplit_ne (I.type.andThen (PySem.W.looks_mroIn KI hm)) (F.cmpArgs_ne _ _) ?_))
    unfold Builtin.«object.__ne__»
    refine wpAny_bind (m := slotArgs "__ne__" 1 _) (wpAny_pure ?_)
    refine wpAny_bind (wpAny_cRoomFor hu ?_)
    refine wpAny_bind (PySem.W.ifBound_K KI I hs hf (wpAny_mono h (fun v s' ⟨k, e, q⟩ => ?_) fun _ _ z => z))
    subst e
    exact wpAny_bind (wpAny_truthy_bool (wpAny_pure ⟨!k, rfl, q⟩))
  have one : wpAny (model prog w) A (tryCompare (.ref x) "__ne__" b) (fun r s' => ∃ k, r = some (.bool k) ∧ Q (.bool k) s') E s := by
    unfold tryCompare
    refine wpAny_bind (ifb_slot KI I hne (wpAny_mono body (fun v s' ⟨k, e, q⟩ => ?_) fun _ _ z => z))
    subst e
    exact wpAny_pure ⟨k, rfl, q⟩
  unfold richCompare
  simp only [oneThing_ref]
  refine wpAny_holding (wpAny_bind (wpAny_cRoomFor hu0 (wpAny_bind (I.type.here (wpAny_bind (hb.here ?_))))))
  have fin : wpAny (model prog w) A (tryCompare (.ref x) "__ne__" b) (fun r s' => wpAny (model prog w) A (match r with | some v => (pure v : Sem Value) | none => pure .none) Q E s') E s := wpAny_mono one (fun r s' ⟨k, e, q⟩ => by subst e; exact wpAny_pure q) fun _ _ z => z
  split
  · rename_i q
    have e : PySem.W.subIn K tb (.ref C) = some false := by
      rcases Bool.or_eq_true_iff.mp hn with e | e
      · rw [beq_iff_eq.mp e] at q; simp at q
      · exact beq_iff_eq.mp e
    refine wpAny_bind ((PySem.W.looks_subIn KI e).here ?_)
    simp only [Bool.false_eq_true, if_false]
    exact wpAny_bind (wpAny_mono one (fun r s' ⟨k, e, q⟩ => by subst e; exact wpAny_pure q) fun _ _ z => z)
  · refine wpAny_bind (wpAny_pure ?_)
    simp only [Bool.false_eq_true, if_false]
    exact wpAny_bind (wpAny_mono one (fun r s' ⟨k, e, q⟩ => by subst e; exact wpAny_pure q) fun _ _ z => z)
/-- what != asks of the class besides -/
structure NeF (K : PySem.W.Frag) (C : Addr) : Prop where
  mro : PySem.W.mroIn K C (.type "object") = some true
  ne : PySem.W.findIn K (.ref C) "__ne__" = some (some (.builtin "object.__ne__"))
def dunNe (tb : List (Str × EqT)) (F2 : D → D → M D) (x y : D) : M D := fun s => match insAt s x with
  | some (c, _) => match tb.lookup c with
    | some e => (match tagOf s y with
      | some t => if e.ok t = true then (e.m [x, y] >>= notD) s else .no
      | none => .no)
    | none => .no
  | none => F2 x y s
theorem OpD.ne {tb : List (Str × EqT)} {F2 : D → D → M D} {j : Nat} (h2 : OpD X G W (compareOp .NotEq) F2) (hr : Room (j + 1) X.A) (tk : Takes X W) (hown : ∀ c C, tb.lookup c = some C → ∀ k, ClsF X.K (G k) ∨ C.ok (.inr k) = false)
    (ht : ∀ c e, tb.lookup c = some e → DunOk X.prog X.w X.K X.mg X.base G j c "__eq__" 2 e.m ∧ NFirst X.K G c e.ok ∧ NeF X.K (G c)) : OpD X G W (compareOp .NotEq) (dunNe tb F2) := by
  intro pins s σ H x y v w vv uu Q c I r1 r2 o t1 t2 p
  unfold dunNe at p
  cases q : insAt c.st x with
  | none => rw [q] at p; exact h2 pins s σ H x y v w vv uu Q c I r1 r2 o t1 t2 p
  | some kf =>
    obtain ⟨k, fs⟩ := kf
    rw [q] at p
    simp only at p
    obtain ⟨a, dx, ws, rfl, ha, la⟩ := DenT.insAt o (.inl t1) q
    cases q2 : tb.lookup k with
    | none => rw [q2] at p; exact p.elim
    | some e =>
      rw [q2] at p
      simp only at p
      cases q3 : tagOf c.st y with
      | none => rw [q3] at p; exact p.elim
      | some t =>
        rw [q3] at p
        simp only at p
        by_cases hk : e.ok t = true
        · rw [if_pos hk] at p
          obtain ⟨dn, nf, ne⟩ := ht k e q2
          obtain ⟨f, fd, ps, hs, hf, hfn, hnp, F, B⟩ := dn.ex
          obtain rfl : vv = Value.ref a := r1
          obtain ⟨ox, od, J⟩ := ins_look I ha
          have ty := tyx_of o (.inl t2) q3 (fun k' hk' => (hown k e q2 k').elim id fun z => by rw [hk'] at hk; rw [hk] at z; cases z)
          have p4 := Post.bind (P := PDen X.K G) (f := notD) p
          have r := run_dun (A' := X.A.in1) (us := [.ref a, uu]) F B hr.in1 I.env0.in1 tk I (.cons (show RelV (V.ref a) (Value.ref a) from rfl) (.cons r2 .nil)) o (.cons t1 (.cons t2 .nil)) (by rw [hnp]; rfl) p4
          refine ne_own (Q := EP X pins σ Q) (by have := hr.in1.units; omega) (by have := hr.units; omega) I.kIn J (looks_ty I r2 ty) (nf t hk) ne.mro ne.ne hs hf (wpAny_mono r (fun u s' ⟨z, H', I', rz, d, c', x', o', td, qz⟩ => ?_) fun _ _ z => z)
          cases d with
          | bl b =>
            cases td
            cases rz
            exact ⟨b, rfl, .bl !b, H', I', rfl, qz.here o' (fun _ _ h => h) .bl⟩
          | _ => exact qz.elim
        · rw [if_neg hk] at p; exact p.elim
/-! in -/
def dunIn (tb : DTb) (F2 : D → D → M D) (x y : D) : M D := fun s => match insAt s y with
  | some (c, _) => match tb.lookup c with
    | some m => (do let z ← m [y, x]; let k ← asB z; pure (D.bl k) : M D) s
    | none => .no
  | none => F2 x y s
def dunNotIn (tb : DTb) (F2 : D → D → M D) (x y : D) : M D := fun s => match insAt s y with
  | some (c, _) => match tb.lookup c with
    | some m => (do let z ← m [y, x]; let k ← asB z; pure (D.bl !k) : M D) s
    | none => .no
  | none => F2 x y s
theorem OpD.inn {tb : DTb} {F2 : D → D → M D} {j : Nat} (h2 : OpD X G W (compareOp .In) F2) (hr : Room j X.A) (tk : Takes X W)
    (ht : ∀ c m, tb.lookup c = some m → DunOk X.prog X.w X.K X.mg X.base G j c "__contains__" 2 m) : OpD X G W (compareOp .In) (dunIn tb F2) := by
  intro pins s σ H x y v w vv uu Q c I r1 r2 o t1 t2 p
  unfold dunIn at p
  cases q : insAt c.st y with
  | none => rw [q] at p; exact h2 pins s σ H x y v w vv uu Q c I r1 r2 o t1 t2 p
  | some kf =>
    obtain ⟨k, fs⟩ := kf
    rw [q] at p
    simp only at p
    obtain ⟨a, dx, ws, rfl, ha, la⟩ := DenT.insAt o (.inl t2) q
    cases q2 : tb.lookup k with
    | none => rw [q2] at p; exact p.elim
    | some m =>
      rw [q2] at p
      simp only at p
      obtain ⟨f, fd, ps, hs, hf, hfn, hnp, F, B⟩ := (ht k m q2).ex
      obtain rfl : uu = Value.ref a := r2
      obtain ⟨ox, od, J⟩ := ins_look I ha
      obtain ⟨m0, Fr0⟩ := I.fr
      have p4 := Post.bind (P := PDen X.K G) (f := fun z => (do let k ← asB z; pure (D.bl k) : M D)) p
      have r := run_dun (A' := X.A) (us := [.ref a, vv]) F B hr I.env0 tk I (.cons (show RelV (V.ref a) (Value.ref a) from rfl) (.cons r1 .nil)) o (.cons t2 (.cons t1 .nil)) (by rw [hnp]; rfl) p4
      refine PySem.W.in_K Fr0 I.ok.mod.kin J hs hf (wpAny_mono r (fun u s' ⟨z, H', I', rz, d, c', x', o', td, qz⟩ => ?_) fun _ _ z => z)
      cases d with
      | bl b =>
        cases td
        cases rz
        exact wpAny_truthy_bool ⟨.bl b, H', I', rfl, Post.here (a := D.bl b) qz o' (fun _ _ h => h) .bl⟩
      | _ => exact qz.elim
theorem OpD.notIn {tb : DTb} {F2 : D → D → M D} {j : Nat} (h2 : OpD X G W (compareOp .NotIn) F2) (hr : Room j X.A) (tk : Takes X W)
    (ht : ∀ c m, tb.lookup c = some m → DunOk X.prog X.w X.K X.mg X.base G j c "__contains__" 2 m) : OpD X G W (compareOp .NotIn) (dunNotIn tb F2) := by
  intro pins s σ H x y v w vv uu Q c I r1 r2 o t1 t2 p
  unfold dunNotIn at p
  cases q : insAt c.st y with
  | none => rw [q] at p; exact h2 pins s σ H x y v w vv uu Q c I r1 r2 o t1 t2 p
  | some kf =>
    obtain ⟨k, fs⟩ := kf
    rw [q] at p
    simp only at p
    obtain ⟨a, dx, ws, rfl, ha, la⟩ := DenT.insAt o (.inl t2) q
    cases q2 : tb.lookup k with
    | none => rw [q2] at p; exact p.elim
    | some m =>
      rw [q2] at p
      simp only at p
      obtain ⟨f, fd, ps, hs, hf, hfn, hnp, F, B⟩ := (ht k m q2).ex
      obtain rfl : uu = Value.ref a := r2
      obtain ⟨ox, od, J⟩ := ins_look I ha
      obtain ⟨m0, Fr0⟩ := I.fr
      have p4 := Post.bind (P := PDen X.K G) (f := fun z => (do let k ← asB z; pure (D.bl !k) : M D)) p
      have r := run_dun (A' := X.A) (us := [.ref a, vv]) F B hr I.env0 tk I (.cons (show RelV (V.ref a) (Value.ref a) from rfl) (.cons r1 .nil)) o (.cons t2 (.cons t1 .nil)) (by rw [hnp]; rfl) p4
      refine PySem.W.notIn_K Fr0 I.ok.mod.kin J hs hf (wpAny_mono r (fun u s' ⟨z, H', I', rz, d, c', x', o', td, qz⟩ => ?_) fun _ _ z => z)
      cases d with
      | bl b =>
        cases td
        cases rz
        exact wpAny_truthy_bool ⟨.bl !b, H', I', rfl, Post.here (a := D.bl !b) qz o' (fun _ _ h => h) .bl⟩
      | _ => exact qz.elim
end
end PV
end

section
/-! own classes: subscripts, len, bool, repr, properties, fields stored, isinstance -/
namespace PV
open PySem PySem.Spec L2
open PyProof.Rows hiding St
section
variable {X : Cx} {G : ClsAt} {W : WX}
/-! subscripts -/
def dunIx (tb : DTb) (F2 : D → D → M D) (x y : D) : M D := dunD tb F2 x y
theorem ve_ixD {tb : DTb} {a b : Expr} {f g : Env → M D} {pos : Pos} {j : Nat} (hu : X.A.units + 1 < cLine) (hr : Room (j + 1) X.A) (tk : Takes X W) (ht : ∀ c m, tb.lookup c = some m → DunOk X.prog X.w X.K X.mg X.base G j c "__getitem__" 2 m)
    (ha : VE G X W a f) (hb : VE G X W b g) (hs : PlainIx b := by exact fun _ _ => rfl) (hsT : ∀ o i, subscripted b true o i = runValue (.builtin "lifetime.subscript" ⟨[o, i], []⟩) := by exact fun _ _ => rfl) : VE G X W (.Subscript a b pos) (fun ρ => do let x ← f ρ; let y ← g ρ; dunD tb ixD x y) := by
  refine ⟨fun pins s σ H Q I ⟨H0, ρ, c, o, sl, p⟩ => Subscript_ (binT ha hb I (R := fun v w H2 => ∃ c2 x y, CfOk X.K G c2 H2 ∧ Den X.K G c2.As c2.F x v ∧ Den X.K G c2.As c2.F y w ∧ Post X.K G (PDen X.K G) (fun cls dx H' => W cls dx σ H') c2 H2 (dunD tb ixD x y c2.st) Q)
    (tV_step rfl o sl p fun x v c1 H1 x1 o1 sl1 t1 p1 => tV_step rfl o1 sl1 p1 fun y w c2 H2 x2 o2 sl2 t2 p2 => ⟨c2, x, y, o2, t1.mono x2.sub x2.pre, t2, p2⟩) fun vv uu s2 v w H2 I2 rx ry ⟨c2, x, y, o2, t1, t2, p2⟩ => ?_)⟩
  unfold dunD at p2
  cases q : insAt c2.st x with
  | none =>
    rw [q] at p2
    exact ix_any hu a b pins s2 σ H2 v w vv uu Q I2 rx ry (h_ix c2 H2 x y v w _ Q o2 (.inl t1) (.inl t2) p2) (hs _ _)
  | some kf =>
    obtain ⟨k, fs⟩ := kf
    rw [q] at p2
    simp only at p2
    obtain ⟨a', dx, ws, rfl, ha', la⟩ := DenT.insAt o2 (.inl t1) q
    cases q2 : tb.lookup k with
    | none => rw [q2] at p2; exact p2.elim
    | some m =>
      rw [q2] at p2
      simp only at p2
      obtain ⟨f', fd, ps, hss, hf, hfn, hnp, F, B⟩ := (ht k m q2).ex
      obtain rfl : vv = Value.ref a' := rx
      obtain ⟨ox, od, J⟩ := ins_look I2 ha'
      obtain ⟨m0, Fr0⟩ := I2.fr
      have r := run_dun (A' := X.A.in1) (us := [.ref a', uu]) F B hr.in1 I2.env0.in1 tk I2 (.cons (show RelV (V.ref a') (Value.ref a') from rfl) (.cons ry .nil)) o2 (.cons t1 (.cons t2 .nil)) (by rw [hnp]; rfl) p2
      exact PySem.W.sub_K Fr0 I2.ok.mod.kin J hss hfn hf r (hsT _ _)
/-! built-ins of one argument, over shared values -/
def Op1V (X : Cx) (G : ClsAt) (r : List V → Hp → VK → Prop) (F1 : D → M D) : Prop := ∀ (c : Cf) (H : Hp) (x : D) (v : V) (E : XK) (Q : VK), CfOk X.K G c H → Den X.K G c.As c.F x v → Post X.K G (PDen X.K G) E c H (F1 x c.st) Q → r [v] H Q
theorem va1V {e : Expr} {f : Env → M D} (he : VE G X W e f) (hst : starEach [e] X.env = [(false, eval e X.env)] := by rfl) : PA X [e] (fun σ H Q => tV X.K G W f σ H fun v H' => Q [v] H') := PA.imp (pa_cons he pa_nil hst) fun σ H Q h => h
theorem ve_b1V {e : Expr} {f : Env → M D} {x : Str} {id : String} {r : List V → Hp → VK → Prop} {F1 : D → M D} {p pos : Pos} (hc : CallR X (.builtin id) r) (h1 : Op1V X G r F1) (hm : X.mg x = none) (hv : bootBuiltins x = some (.builtin id)) (he : VE G X W e f)
    (hg : Gl X x := by rfl) (hn : x ≠ "__name__" := by decide) (hdb : (x == ("__debug__" : Str)) = false := by decide) (hst : starEach [e] X.env = [(false, eval e X.env)] := by rfl) (hpl : (backTo pos (starEach ([] : List Expr) X.env)).any (·.1) = false := by rfl) : VE G X W (.Call (.Name x p) [e] [] pos) (fun ρ => do let x ← f ρ; F1 x) :=
  PE.imp (pe_callB hc hg hm hv (va1V he hst) hn hdb hst hpl) fun σ H Q ⟨H0, ρ, c, o, sl, p⟩ => tV_step rfl o sl p fun x v c1 H1 x1 o1 sl1 t1 p1 => h1 _ _ _ _ _ _ o1 t1 p1
theorem ve_t1V {e : Expr} {f : Env → M D} {x : Str} {id : String} {r : List V → Hp → VK → Prop} {F1 : D → M D} {p pos : Pos} (hc : CallR X (.type id) r) (h1 : Op1V X G r F1) (hm : X.mg x = none) (hv : bootBuiltins x = some (.type id)) (he : VE G X W e f)
    (hg : Gl X x := by rfl) (hn : x ≠ "__name__" := by decide) (hdb : (x == ("__debug__" : Str)) = false := by decide) (hst : starEach [e] X.env = [(false, eval e X.env)] := by rfl) (hpl : (backTo pos (starEach ([] : List Expr) X.env)).any (·.1) = false := by rfl) : VE G X W (.Call (.Name x p) [e] [] pos) (fun ρ => do let x ← f ρ; F1 x) :=
  PE.imp (pe_callTy hc hg hm hv (va1V he hst) hn hdb hst hpl) fun σ H Q ⟨H0, ρ, c, o, sl, p⟩ => tV_step rfl o sl p fun x v c1 H1 x1 o1 sl1 t1 p1 => h1 _ _ _ _ _ _ o1 t1 p1
/-- a one-argument method, no exception -/
def dun1 (tb : DTb) (K : D → M D) (F1 : D → M D) (x : D) : M D := fun s => match insAt s x with
  | some (c, _) => match tb.lookup c with
    | some m => (ne (m [x]) >>= K) s
    | none => .no
  | none => F1 x s
/-- what a rule asks of an instance -/
def rDun (K : PySem.W.Frag) (G : ClsAt) (tb : DTb) (KK : D → M D) : List V → Hp → VK → Prop := fun xs H Q => ∃ c x v k fs m a dx ws, xs = [v] ∧ v = .ref a ∧ CfOk K G c H ∧ Den K G c.As c.F x v ∧ insAt c.st x = some (k, fs) ∧ tb.lookup k = some m ∧ H a = some (.ins (G k) dx ws) ∧
  Post K G (PDen K G) (fun _ _ _ => False) c H (m [x] c.st) fun z H' => ∃ d c', CfOk K G c' H' ∧ Den K G c'.As c'.F d z ∧ Post K G (PDen K G) (fun _ _ _ => False) c' H' (KK d c'.st) Q
theorem noerr {K : PySem.W.Frag} {α β : Type} {P : Cf → Hp → α → β → Prop} {E E' : XK} {c : Cf} {H : Hp} {r : R α} {Q : β → Hp → Prop} (h : ∀ e s, r ≠ .err e s) (p : Post K G P E c H r Q) : Post K G P E' c H r Q := by
  cases r with
  | ok a s => exact p
  | err e s => exact absurd rfl (h e s)
  | no => exact p
theorem h_dun1 {tb : DTb} {KK F1 : D → M D} {r : List V → Hp → VK → Prop} (hk : ∀ d s e s', KK d s ≠ .err e s') (h1 : Op1 X G r (P0 X G) F1) : Op1V X G (fun xs H Q => r xs H Q ∨ rDun X.K G tb KK xs H Q) (dun1 tb KK F1) := by
  intro c H x v E Q o t p
  unfold dun1 at p
  cases q : insAt c.st x with
  | none => rw [q] at p; exact .inl (h1 c H x v E Q o (.inl t) p)
  | some kf =>
    obtain ⟨k, fs⟩ := kf
    rw [q] at p
    simp only at p
    obtain ⟨a, dx, ws, rfl, ha, la⟩ := DenT.insAt o (.inl t) q
    cases q2 : tb.lookup k with
    | none => rw [q2] at p; exact p.elim
    | some m =>
      rw [q2] at p
      simp only at p
      have p4 := Post.bind (P := PDen X.K G) (f := KK) p
      refine .inr ⟨c, x, _, k, fs, m, a, dx, ws, rfl, rfl, o, t, q, q2, ha, ?_⟩
      unfold ne at p4
      cases e : m [x] c.st with
      | no => rw [e] at p4; exact p4.elim
      | err e' s' => rw [e] at p4; exact p4.elim
      | ok d s' =>
        rw [e] at p4
        intro w F' As' H' xt o4 td
        obtain ⟨d2, c2, x2, o2, t2, z⟩ := p4 w F' As' H' xt o4 td
        exact ⟨d2, c2, o2, t2, noerr (hk _ _) z⟩
/-- len -/
def lenK : D → M D
  | .int n => if 0 ≤ n ∧ n < 4611686018427387904 then pure (.int n) else no
  | _ => no
theorem lenK_ne : ∀ d s e s', lenK d s ≠ .err e s' := fun d s e s' h => by
  cases d with
  | int n =>
    have h : (if 0 ≤ n ∧ n < 4611686018427387904 then pure (.int n) else no : M D) s = .err e s' := h
    split at h <;> cases h
  | _ => cases h
theorem call_lenOwn {tb : DTb} {j : Nat} (hr : Room (j + 1) X.A) (ht : ∀ c m, tb.lookup c = some m → DunOk X.prog X.w X.K X.mg X.base G j c "__len__" 1 m) : CallR X (.builtin "len") (rDun X.K G tb lenK) := by
  intro pins s σ H xs us Q I r h
  obtain ⟨c, x, v, k, fs, m, a, dx, ws, rfl, rfl, o, t, q, q2, ha, p⟩ := h
  obtain ⟨u, rfl, ru⟩ := vals1 r
  obtain rfl : u = Value.ref a := ru
  obtain ⟨f', fd, ps, hss, hf, hfn, hnp, F, B⟩ := (ht k m q2).ex
  obtain ⟨ox, od, J⟩ := ins_look I ha
  obtain ⟨m0, Fr0⟩ := I.fr
  have r := run_dun (W := W0) (A' := X.A.in1) (us := [.ref a]) F B hr.in1 I.env0.in1 takes0 I (.cons (show RelV (V.ref a) (Value.ref a) from rfl) .nil) o (.cons t .nil) (by rw [hnp]; rfl) p
  refine PySem.W.len_K Fr0 I.ok.mod.kin J hss hf (wpAny_mono r (fun u s' ⟨z, H', I', rz, d, c', o', td, qz⟩ => ?_) fun _ _ z => z)
  cases d with
  | int n =>
    cases td
    obtain ⟨tk, rfl⟩ := rz
    obtain ⟨hz, qz⟩ := post_if (x := (pure (D.int n) : M D)) (s := c'.st) qz
    exact ⟨⟨hz.1, by omega⟩, .int n, H', I'.tok _, ⟨_, rfl⟩, Post.here (a := D.int n) qz o' (fun _ _ h => h) .int⟩
  | _ => exact qz.elim
/-- repr -/
def strK : D → M D
  | .str z => pure (.str z)
  | _ => no
theorem strK_ne : ∀ d s e s', strK d s ≠ .err e s' := fun d s e s' h => by cases d <;> cases h
theorem call_reprOwn {tb : DTb} {j : Nat} (hr : Room (j + 1) X.A) (ht : ∀ c m, tb.lookup c = some m → DunOk X.prog X.w X.K X.mg X.base G j c "__repr__" 1 m) : CallR X (.builtin "repr") (rDun X.K G tb strK) := by
  intro pins s σ H xs us Q I r h
  obtain ⟨c, x, v, k, fs, m, a, dx, ws, rfl, rfl, o, t, q, q2, ha, p⟩ := h
  obtain ⟨u, rfl, ru⟩ := vals1 r
  obtain rfl : u = Value.ref a := ru
  obtain ⟨f', fd, ps, hss, hf, hfn, hnp, F, B⟩ := (ht k m q2).ex
  obtain ⟨ox, od, J⟩ := ins_look I ha
  obtain ⟨m0, Fr0⟩ := I.fr
  have r := run_dun (W := W0) (A' := X.A.in1) (us := [.ref a]) F B hr.in1 I.env0.in1 takes0 I (.cons (show RelV (V.ref a) (Value.ref a) from rfl) .nil) o (.cons t .nil) (by rw [hnp]; rfl) p
  refine PySem.W.repr_K (by have := hr.in1.units; omega) Fr0 I.ok.mod.kin J hss hf (wpAny_mono r (fun u s' ⟨z, H', I', rz, d, c', o', td, qz⟩ => ?_) fun _ _ z => z)
  cases d with
  | str n =>
    cases td
    obtain ⟨tk, rfl⟩ := rz
    exact ⟨.str n, H', I', ⟨_, rfl⟩, Post.here (a := D.str n) qz o' (fun _ _ h => h) .str⟩
  | _ => exact qz.elim
theorem ve_lenD {tb : DTb} {e : Expr} {f : Env → M D} {p pos : Pos} {j : Nat} (hr : Room (j + 1) X.A) (ht : ∀ c m, tb.lookup c = some m → DunOk X.prog X.w X.K X.mg X.base G j c "__len__" 1 m) (hm : X.mg "len" = none) (he : VE G X W e f) (hg : Gl X "len" := by rfl) (hst : starEach [e] X.env = [(false, eval e X.env)] := by rfl) :
    VE G X W (.Call (.Name "len" p) [e] [] pos) (fun ρ => do let x ← f ρ; dun1 tb lenK lenD x) := ve_b1V (call_lenA.or (call_lenOwn hr ht)) (h_dun1 lenK_ne h_len) hm PySem.boot_len he hg (hst := hst)
def noD1 : D → M D := fun _ => no
theorem h_no1 : Op1 X G (fun _ _ _ => False) (P0 X G) noD1 := fun _ _ _ _ _ _ _ _ p => p.elim
theorem call_none {f : Value} : CallR X f (fun _ _ _ => False) := fun _ _ _ _ _ _ _ _ _ h => h.elim
theorem ve_repr {tb : DTb} {e : Expr} {f : Env → M D} {p pos : Pos} {j : Nat} (hr : Room (j + 1) X.A) (ht : ∀ c m, tb.lookup c = some m → DunOk X.prog X.w X.K X.mg X.base G j c "__repr__" 1 m) (hm : X.mg "repr" = none) (he : VE G X W e f) (hg : Gl X "repr" := by rfl) (hst : starEach [e] X.env = [(false, eval e X.env)] := by rfl) :
    VE G X W (.Call (.Name "repr" p) [e] [] pos) (fun ρ => do let x ← f ρ; dun1 tb strK noD1 x) := ve_b1V (call_none.or (call_reprOwn hr ht)) (h_dun1 strK_ne h_no1) hm (by decide +kernel) he hg (hst := hst)
/-! truth: by __bool__, else by __len__ -/
/-- true: the table's method is __bool__ -/
abbrev TTb := List (Str × (Bool × (List D → M D)))
structure TruOk (P : Program) (w : World) (K : PySem.W.Frag) (mg : Str → Option Value) (base : Heap) (G : ClsAt) (k : Nat) (c : Str) (e : Bool × (List D → M D)) : Prop where
  b : e.1 = true → DunOk P w K mg base G k c "__bool__" 1 e.2
  l : e.1 = false → DunOk P w K mg base G k c "__len__" 1 e.2 ∧ PySem.W.findIn K (.ref (G c)) "__bool__" = some none
def truK (b : Bool) (d : D) : M Bool := if b then (match d with | .bl k => pure k | _ => no) else (match d with | .int n => if 0 ≤ n ∧ n < 4611686018427387904 then pure (n != 0) else no | _ => no)
def dunTru (tb : TTb) (x : D) : M Bool := fun s => match insAt s x with
  | some (c, _) => match tb.lookup c with
    | some e => (ne (e.2 [x]) >>= truK e.1) s
    | none => .no
  | none => truD x s
theorem runLen {A : Around} {M : Model} : True := trivial
theorem tru_own {tb : TTb} {j : Nat} (hr : Room (j + 2) X.A) (ht : ∀ c e, tb.lookup c = some e → TruOk X.prog X.w X.K X.mg X.base G j c e) {pins : List (Addr × Obj)} {s : Shared} {σ : L2.St} {H : Hp} {x : D} {v : V} {u : Value} {E : XK} {Q : Bool → Hp → Prop} {c : Cf} (I : Inv X pins σ H s) (ru : RelV v u) (o : CfOk X.K G c H) (t : Den X.K G c.As c.F x v)
    (p : Post X.K G PBl E c H (dunTru tb x c.st) Q) : wpAny (model X.prog X.w) X.A (truthy u) (fun b s' => ∃ H', Inv X pins σ H' s' ∧ Q b H') X.xe s := by
  unfold dunTru at p
  cases q : insAt c.st x with
  | none =>
    rw [q] at p
    obtain ⟨k, hk, hq⟩ := h_tru o (.inl t) p
    exact tru_ok pins s σ H v u Q I ru ⟨k, hk, hq⟩
  | some kf =>
    obtain ⟨k, fs⟩ := kf
    rw [q] at p
    simp only at p
    obtain ⟨a, dx, ws, rfl, ha, la⟩ := DenT.insAt o (.inl t) q
    cases q2 : tb.lookup k with
    | none => rw [q2] at p; exact p.elim
    | some e =>
      rw [q2] at p
      simp only at p
      obtain rfl : u = Value.ref a := ru
      obtain ⟨ox, od, J⟩ := ins_look I ha
      obtain ⟨m0, Fr0⟩ := I.fr
      have p4 := Post.bind (P := PDen X.K G) (f := truK e.1) p
      have p5 : Post X.K G (PDen X.K G) (fun _ _ _ => False) c H (e.2 [x] c.st) fun z H' => ∃ d c', CfOk X.K G c' H' ∧ Den X.K G c'.As c'.F d z ∧ Post X.K G PBl E c' H' (truK e.1 d c'.st) Q := by
        unfold ne at p4
        cases ee : e.2 [x] c.st with
        | no => rw [ee] at p4; exact p4.elim
        | err e' s' => rw [ee] at p4; exact p4.elim
        | ok d s' =>
          rw [ee] at p4
          intro w F' As' H' xt o4 td
          obtain ⟨d2, c2, x2, o2, t2, z⟩ := p4 w F' As' H' xt o4 td
          exact ⟨d2, c2, o2, t2, z⟩
      cases hb : e.1 with
      | true =>
        obtain ⟨f', fd, ps, hss, hf, hfn, hnp, F, B⟩ := ((ht k e q2).b hb).ex
        have r := run_dun (W := W0) (A' := X.A) (us := [.ref a]) F B (hr.mono (by omega)) I.env0 takes0 I (.cons (show RelV (V.ref a) (Value.ref a) from rfl) .nil) o (.cons t .nil) (by rw [hnp]; rfl) p5
        refine PySem.W.truthy_K Fr0 I.ok.mod.kin J hss hf (wpAny_mono r (fun u s' ⟨z, H', I', rz, d, c', o', td, qz⟩ => ?_) fun _ _ z => z)
        rw [hb] at qz
        cases d with
        | bl b => cases td; cases rz; exact ⟨H', I', Post.here (P := PBl) (a := b) qz o' (fun _ _ h => h) rfl⟩
        | _ => exact qz.elim
      | false =>
        obtain ⟨dn, nb⟩ := (ht k e q2).l hb
        obtain ⟨f', fd, ps, hss, hf, hfn, hnp, F, B⟩ := dn.ex
        have r := run_dun (W := W0) (A' := X.A.in1) (us := [.ref a]) F B (Room.mono hr.in1 (by omega)) I.env0.in1 takes0 I (.cons (show RelV (V.ref a) (Value.ref a) from rfl) .nil) o (.cons t .nil) (by rw [hnp]; rfl) p5
        unfold truthy
        refine wpAny_bind (m := callSpecial? (.ref a) (Str.ofString "__bool__")) (wpAny_bind (wpAny_bind (J.type.here ((PySem.W.looks_findIn I.kIn nb).here (wpAny_pure ?_)))))
        refine wpAny_bind (wpAny_bind (J.type.here ((PySem.W.looks_findIn I.kIn hss).here ?_)))
        rw [if_neg (by simp)]
        refine wpAny_bind (wpAny_runValue (codeAny_builtin entry_len ?_))
        unfold Builtin.«len»
        refine wpAny_bind (m := oneArg "len" _) (wpAny_pure ?_)
        refine wpAny_bind (m := callSpecial? (.ref a) (Str.ofString "__len__")) (PySem.W.special_fn I.kIn J hss (beq_iff_eq.mp hf) (wpAny_mono r (fun u s' ⟨z, H', I', rz, d, c', o', td, qz⟩ => ?_) fun _ _ z => z))
        rw [hb] at qz
        cases d with
        | int n =>
          cases td
          obtain ⟨tk, rfl⟩ := rz
          obtain ⟨hz, qz⟩ := post_if (x := (pure (n != 0) : M Bool)) (s := c'.st) qz
          have fin : ∃ H', Inv X pins σ H' { s' with toks := s'.toks + 1 } ∧ Q (n != 0) H' := ⟨H', I'.tok _, Post.here (P := PBl) (a := (n != 0)) qz o' (fun _ _ h => h) rfl⟩
          refine wpAny_bind (wpAny_holding (wpAny_pure ?_))
          refine wpAny_bind (wpAny_letGo ?_)
          show wpAny _ _ (if n < 0 then _ else _) _ _ _
          rw [if_neg (by omega)]
          show wpAny _ _ (if n ≥ 2 ^ 63 then _ else _) _ _ _
          rw [if_neg (by omega)]
          exact wpAny_bind (wpAny_mkInt (wpAny_pure (wpAny_pure fin)))
        | _ => exact qz.elim
end
end PV
end

section
/-! own classes: tests, properties, fields stored, isinstance; f-strings -/
namespace PV
open PySem PySem.Spec L2
open PyProof.Rows hiding St
section
variable {X : Cx} {G : ClsAt} {W : WX} {RP : RPT}
/-- any expression as a test -/
theorem vt_ofD {tb : TTb} {a : Expr} {f : Env → M D} {j : Nat} (hr : Room (j + 2) X.A) (ht : ∀ c e, tb.lookup c = some e → TruOk X.prog X.w X.K X.mg X.base G j c e) (h : VE G X W a f)
    (he : ∀ whole, isTrue a X.env whole = (do let v ← whole; standAt a.pos; holding [v] (truthy v)) := by intro _; rfl) : VT G X W a (fun ρ => do let x ← f ρ; dunTru tb x) := by
  refine ⟨fun pins s σ H Q I ⟨H0, ρ, c, o, sl, p⟩ => ?_⟩
  have st : tV X.K G W f σ H fun v H1 => ∃ c x, CfOk X.K G c H1 ∧ Den X.K G c.As c.F x v ∧ Post X.K G PBl (fun cls dx H' => W cls dx σ H') c H1 (dunTru tb x c.st) Q := tV_step rfl o sl p fun x v c1 H1 x1 o1 sl1 t1 p1 => ⟨c1, x, o1, t1, p1⟩
  exact isTrue_plain (thn (h.run pins s σ H _ I st) fun u s1 ⟨v, H1, I1, rv, c1, x, o1, t1, p1⟩ => tru_own hr ht I1 rv o1 t1 p1) (he _)
theorem ve_notD {tb : TTb} {a : Expr} {f : Env → M D} {pos : Pos} {j : Nat} (hr : Room (j + 2) X.A) (ht : ∀ c e, tb.lookup c = some e → TruOk X.prog X.w X.K X.mg X.base G j c e) (h : VE G X W a f)
    (hun : ∀ (s : Shared) (Q : Value → Shared → Prop), wpAny (model X.prog X.w) X.A (eval a X.env) (fun v s' => wpAny (model X.prog X.w) X.A (truthy v) (fun b s'' => Q (.bool !b) s'') X.xe s') X.xe s → wpAny (model X.prog X.w) X.A (eval (.UnaryOp .Not a pos) X.env) Q X.xe s) : VE G X W (.UnaryOp .Not a pos) (fun ρ => do let x ← f ρ; let b ← dunTru tb x; pure (.bl !b)) := by
  refine ⟨fun pins s σ H Q I ⟨H0, ρ, c, o, sl, p⟩ => hun s _ ?_⟩
  have st : tV X.K G W f σ H fun v H1 => ∃ c x, CfOk X.K G c H1 ∧ Den X.K G c.As c.F x v ∧ Post X.K G (PDen X.K G) (fun cls dx H' => W cls dx σ H') c H1 ((dunTru tb x >>= fun b => (pure (.bl !b) : M D)) c.st) Q := tV_step rfl o sl p fun x v c1 H1 x1 o1 sl1 t1 p1 => ⟨c1, x, o1, t1, p1⟩
  refine thn (h.run pins s σ H _ I st) fun u s1 ⟨v, H1, I1, rv, c1, x, o1, t1, p1⟩ => wpAny_mono (tru_own hr ht I1 rv o1 t1 (Post.bind (P := PBl) p1)) (fun b s2 ⟨H2, I2, b', c2, x2, o2, e, q⟩ => ?_) fun _ _ z => z
  cases (show b' = b from e)
  exact ⟨.bl !b, H2, I2, rfl, Post.here (a := D.bl !b) q o2 (fun _ _ h => h) .bl⟩
/-- bool(x) -/
def boolD (tb : TTb) (x : D) : M D := fun s => match insAt s x with
  | some (c, _) => match tb.lookup c with
    | some e => (ne (e.2 [x]) >>= truK e.1 >>= fun b => (pure (.bl b) : M D)) s
    | none => .no
  | none => match x with
    | .int i => .ok (.bl (i != 0)) s
    | .bl k => .ok (.bl k) s
    | _ => .no
/-! fields stored -/
def sFldS (cs : List Str) (f : Str) (fo fe : Env → M D) : SM := fun ρ s => sB (fe ρ) ρ (fun v s1 => sB (fo ρ) ρ (fun x s2 => match x with
  | .obj o => match s2[o]? with
    | some (.ins c fs) => if c ∈ cs ∧ fs.length < 900 then .nx ρ (s2.set o (.ins c (putFD f v fs))) else .no
    | _ => .no
  | _ => .no) s1) s
theorem vs_fldS {o value : Expr} {f : Str} {cs : List Str} {fo fe : Env → M D} {pos' pos : Pos} (he : VE G X W value fe) (ho : VE G X W o fo) (hc : ∀ c ∈ cs, FldOk X.K (G c) f) (hs : swapsWith value (some (.Attribute o f pos')) pos.line X.env = pure false := by rfl) :
    VS G X W RP (.Assign [.Attribute o f pos'] value pos) (sFldS cs f fo fe) :=
  PS.imp (ps_fld ho he hs) fun D σ H ⟨c0, H0, ρ, c, x, o, sl, p⟩ =>
    ⟨H0, ρ, c, o, sl, s_step x sl p fun v w c1 H1 _ x1 o1 sl1 t1 p1 => ⟨H0, ρ, c1, o1, sl1, s_step x1 sl1 p1 fun d u c2 H2 xx x2 o2 sl2 t2 p2 => by
      cases d with
      | obj ob =>
        cases t2 with
        | obj ea =>
          simp only at p2
          cases e : c2.st[ob]? with
          | none => rw [e] at p2; exact p2.elim
          | some d' =>
            rw [e] at p2
            cases d' with
            | ins k fs =>
              simp only at p2
              by_cases hk : k ∈ cs ∧ fs.length < 900
              · rw [if_pos hk] at p2
                obtain ⟨dx, ws, h2, l2⟩ := o2.store ea e
                obtain ⟨x3, o3, sl3⟩ := obj_write (d' := .ins k (putFD f v fs)) (u := .ins (G k) dx (putF f w ws)) x2 o2 sl2 ea ⟨dx, _, upd_same, putFD_den (t1.mono xx.sub xx.pre) (l2.mono (Sub.refl _) List.prefix_rfl)⟩
                exact ⟨_, G k, dx, ws, rfl, h2, (hc k hk.1).cl, (hc k hk.1).na, by rw [← l2.length]; omega, p2 _ _ _ _ x3 o3 sl3⟩
              · rw [if_neg hk] at p2; exact p2.elim
            | _ => exact p2.elim
      | _ => exact p2.elim⟩⟩
/-! properties -/
structure PropOk (P : Program) (w : World) (K : PySem.W.Frag) (mg : Str → Option Value) (base : Heap) (G : ClsAt) (k : Nat) (c f : Str) (m : List D → M D) : Prop where
  cl : Cls K (G c)
  ex : ∃ p g fd ps, PropOf K (G c) f p g ∧ ps.length = 1 ∧ FnOk P w K mg base (L2.CX P w) k g fd ps (spPV K G (rDen K G) ps.length m) ∧ Binds K fd ps []
def propD (tb : DTb) (x : D) : M D := fun s => match insAt s x with
  | some (c, _) => match tb.lookup c with
    | some m => ne (m [x]) s
    | none => .no
  | none => .no
theorem passNo {X : Cx} : Passes (L2.CX X.prog X.w) X.nox (fun _ _ _ => False) := fun _ _ _ _ _ _ _ ⟨_, _, _, _, _, _, _, _, _, _, _, _, z⟩ => z.elim
theorem ve_prop {tb : DTb} {e : Expr} {f : Str} {fe : Env → M D} {pos : Pos} {j : Nat} (hr : Room (j + 1) X.A) (ht : ∀ c m, tb.lookup c = some m → PropOk X.prog X.w X.K X.mg X.base G j c f m) (he : VE G X W e fe) (hab : attributeBase e f X.env (eval e X.env) = eval e X.env := by rfl) :
    VE G X W (.Attribute e f pos) (fun ρ => do let x ← fe ρ; propD tb x) := by
  refine ⟨fun pins s σ H Q I ⟨H0, ρ, c, o, sl, p⟩ => ?_⟩
  have st : tV X.K G W fe σ H fun v H1 => ∃ c x, CfOk X.K G c H1 ∧ Den X.K G c.As c.F x v ∧ Post X.K G (PDen X.K G) (fun cls dx H' => W cls dx σ H') c H1 (propD tb x c.st) Q := tV_step rfl o sl p fun x v c1 H1 x1 o1 sl1 t1 p1 => ⟨c1, x, o1, t1, p1⟩
  refine attr_of hab (thn (he.run pins s σ H _ I st) fun u s1 ⟨v, H1, I1, rv, c1, x, o1, t1, p1⟩ => ?_)
  unfold propD at p1
  cases q : insAt c1.st x with
  | none => rw [q] at p1; exact p1.elim
  | some kf =>
    obtain ⟨k, fs⟩ := kf
    rw [q] at p1
    simp only at p1
    obtain ⟨a, dx, ws, rfl, ha, la⟩ := DenT.insAt o1 (.inl t1) q
    cases q2 : tb.lookup k with
    | none => rw [q2] at p1; exact p1.elim
    | some m =>
      rw [q2] at p1
      simp only at p1
      have pk := ht k m q2
      obtain ⟨pp, g, fd, ps, hp, hnp, F, B⟩ := pk.ex
      obtain rfl : u = Value.ref a := rv
      have p2 : Post X.K G (PDen X.K G) (fun _ _ _ => False) c1 H1 (m [x] c1.st) Q := by
        unfold ne at p1
        cases ee : m [x] c1.st with
        | no => rw [ee] at p1; exact p1.elim
        | err e' s' => rw [ee] at p1; exact p1.elim
        | ok d s' => rw [ee] at p1; exact p1
      exact getprop_ok (ds := []) (dvs := []) I1 ha pk.cl hp F hr B .nil passNo ⟨by rw [hnp]; rfl, c1, [x], o1, .cons t1 .nil, p2⟩
/-! isinstance of an own class -/
def sbCl (f : Tag → Option Bool) : Sub1 := f
theorem sbCl_ok {K : PySem.W.Frag} {c : Value} {f : Tag → Option Bool} (h1 : ∀ t b, f t = some b → PySem.W.kitOne K (tagV G t) c = some b) (h2 : ∀ k b, f (.inr k) = some b → ClsF K (G k)) : SubOk K G c (sbCl f) := ⟨h1, h2⟩
/-! f-strings -/
def fmtD : D → M Str
  | .str z => if z.length ≤ SIZE then pure z else no
  | .int i => if i.natAbs.log2 < 1920 then pure (toString i) else no
  | _ => no
def tStr (K : PySem.W.Frag) (G : ClsAt) (W : WX) (f : Env → M Str) : TE := fun σ H Q => ∃ H0 ρ c, CfOk K G c H ∧ Slots K G H0 c H ρ σ ∧ Post K G (fun _ _ a v => v = V.str a) (fun cls dx H' => W cls dx σ H') c H (f ρ c.st) Q
theorem vf_fmt {e : Expr} {f : Env → M D} {pos : Pos} (he : VR G X W e f) : PE X (.FormattedValue e (-1) none pos) (tStr X.K G W (fun ρ => do let x ← f ρ; fmtD x)) :=
  PE.imp (pe_fmt he) fun σ H Q ⟨H0, ρ, c, o, sl, p⟩ => tR_step rfl o sl p fun x v c1 H1 x1 o1 sl1 t1 p1 => by
    cases x with
    | str z =>
      have e := t1.str
      subst e
      obtain ⟨hz, p1⟩ := post_if (x := (pure z : M Str)) (s := c1.st) p1
      exact .inl ⟨z, rfl, sz hz, p1.here o1 (fun _ _ h => h) rfl⟩
    | int i =>
      have e := t1.int
      subst e
      obtain ⟨hz, p1⟩ := post_if (x := (pure (toString i : Str) : M Str)) (s := c1.st) p1
      exact .inr ⟨i, rfl, hz, p1.here o1 (fun _ _ h => h) rfl⟩
    | _ => exact p1.elim
theorem vf_lit {z : Str} {j : Nat} {pos : Pos} : PE X (.Constant (.str z) j pos) (tStr X.K G W (fun _ => pure z)) := PE.imp pe_str fun σ H Q ⟨H0, ρ, c, o, sl, p⟩ => p.here o (fun _ _ h => h) rfl
/-- the parts' texts, one behind the other -/
inductive VJ (X : Cx) (G : ClsAt) (W : WX) : List Expr → List (Env → M Str) → List TE → Prop where
  | nil : VJ X G W [] [] []
  | cons {e : Expr} {f : Env → M Str} {es : List Expr} {fs : List (Env → M Str)} {ts : List TE} (h : PE X e (tStr X.K G W f)) (r : VJ X G W es fs ts) : VJ X G W (e :: es) (f :: fs) (tStr X.K G W f :: ts)
def catM (ρ : Env) : List (Env → M Str) → Str → M Str
  | [], acc => pure acc
  | f :: fs, acc => do let z ← f ρ; if (acc ++ z).length ≤ SIZE then catM ρ fs (acc ++ z) else no
theorem VJ.pj : ∀ {es : List Expr} {fs : List (Env → M Str)} {ts : List TE}, VJ X G W es fs ts → PJ X es ts
  | _, _, _, .nil => .nil
  | _, _, _, .cons h r => .cons h (VJ.pj r)
end
end PV
end

section
/-! sorting, dicts, texts -/
namespace PV
open PySem PySem.Spec L2
open PyProof.Rows hiding St
/-! put in order -/
section
variable {α : Type}
def insBy (lt : α → α → Bool) (x : α) : List α → List α
  | [] => [x]
  | y :: r => if lt y x then y :: insBy lt x r else x :: y :: r
def srtBy (lt : α → α → Bool) : List α → List α
  | [] => []
  | x :: r => insBy lt x (srtBy lt r)
theorem insBy_perm (lt : α → α → Bool) (x : α) : ∀ l : List α, (insBy lt x l).Perm (x :: l)
  | [] => .refl _
  | y :: r => by
    unfold insBy
    split
    · exact (List.Perm.cons y (insBy_perm lt x r)).trans (List.Perm.swap x y r)
    · exact .refl _
theorem srtBy_perm (lt : α → α → Bool) : ∀ l : List α, (srtBy lt l).Perm l
  | [] => .refl _
  | x :: r => (insBy_perm lt x _).trans (List.Perm.cons x (srtBy_perm lt r))
structure LtOk (lt : α → α → Bool) : Prop where
  irr : ∀ a, lt a a = false
  tr : ∀ a b c, lt b a = false → lt c b = false → lt c a = false
  tot : ∀ a b, lt a b = true → lt b a = false
  anti : ∀ a b, lt a b = false → lt b a = false → a = b
variable {lt : α → α → Bool}
theorem insBy_sorted (k : LtOk lt) (x : α) : ∀ {l : List α}, l.Pairwise (fun a b => lt b a = false) → (insBy lt x l).Pairwise (fun a b => lt b a = false)
  | [], _ => List.pairwise_singleton _ _
  | y :: r, h => by
    obtain ⟨h1, h2⟩ := List.pairwise_cons.mp h
    unfold insBy
    split
    · rename_i e
      refine List.pairwise_cons.mpr ⟨fun z hz => ?_, insBy_sorted k x h2⟩
      rcases List.mem_cons.mp ((insBy_perm lt x r).mem_iff.mp hz) with rfl | hz
      · exact k.tot _ _ e
      · exact h1 z hz
    · rename_i e
      have e : lt y x = false := by simpa using e
      refine List.pairwise_cons.mpr ⟨fun z hz => ?_, h⟩
      rcases List.mem_cons.mp hz with rfl | hz
      · exact e
      · exact k.tr x y z e (h1 z hz)
theorem srtBy_sorted (k : LtOk lt) : ∀ l : List α, (srtBy lt l).Pairwise (fun a b => lt b a = false)
  | [] => .nil
  | x :: r => insBy_sorted k x (srtBy_sorted k r)
theorem srtBy_uniq (k : LtOk lt) {ys xs : List α} (p : ys.Perm xs) (s : ys.Pairwise (fun a b => lt b a = false)) : ys = srtBy lt xs :=
  List.Perm.eq_of_pairwise (le := fun a b => lt b a = false) (fun a b _ _ h1 h2 => k.anti a b h2 h1) s (srtBy_sorted k xs) (p.trans (srtBy_perm lt xs).symm)
end
def ltS (a b : Str) : Bool := decide (a.cps.toList < b.cps.toList)
def ltZ (a b : Int) : Bool := decide (a < b)
theorem ltZ_ok : LtOk ltZ := ⟨fun a => by simp [ltZ], fun a b c h1 h2 => by simp only [ltZ, decide_eq_false_iff_not] at *; omega, fun a b h => by simp only [ltZ, decide_eq_false_iff_not, decide_eq_true_eq] at *; omega, fun a b h1 h2 => by simp only [ltZ, decide_eq_false_iff_not] at *; omega⟩
theorem str_ext {a b : Str} (h : a.cps.toList = b.cps.toList) : a = b := by
  obtain ⟨⟨x⟩⟩ := a
  obtain ⟨⟨y⟩⟩ := b
  cases h
  rfl
theorem ltS_ok : LtOk ltS where
  irr a := by simp [ltS, List.lt_irrefl]
  tr a b c h1 h2 := by
    simp only [ltS, decide_eq_false_iff_not, List.not_lt] at *
    exact List.le_trans h1 h2
  tot a b h := by
    simp only [ltS, decide_eq_false_iff_not, decide_eq_true_eq, List.not_lt] at *
    exact List.le_of_lt h
  anti a b h1 h2 := by
    simp only [ltS, decide_eq_false_iff_not, List.not_lt] at *
    exact str_ext (List.le_antisymm h2 h1)
theorem sortedS_pw : ∀ {l : List Str}, sortedS l = true → l.Pairwise (fun a b => ltS b a = false) := by
  have key : ∀ (l : List Str) (p : Str), risingS p l = true → (p :: l).Pairwise (fun a b => ltS b a = false) := by
    intro l
    induction l with
    | nil => intro p _; exact List.pairwise_singleton _ _
    | cons x r ih =>
      intro p h
      have h : (!ltCps x.cps.toList p.cps.toList && risingS x r) = true := h
      rw [Bool.and_eq_true] at h
      have h1 : ltS x p = false := by
        have := h.1
        rw [ltCps_eq] at this
        unfold ltS
        simpa using this
      have h2 := ih x h.2
      refine List.pairwise_cons.mpr ⟨fun z hz => ?_, h2⟩
      rcases List.mem_cons.mp hz with rfl | hz
      · exact h1
      · exact ltS_ok.tr _ _ _ h1 ((List.pairwise_cons.mp h2).1 z hz)
  intro l h
  cases l with
  | nil => exact .nil
  | cons x r => exact key r x h
def srtS : List Str → List Str := srtBy ltS
def srtZ : List Int → List Int := srtBy ltZ
theorem srtS_uniq {ys xs : List Str} (p : ys.Perm xs) (s : sortedS ys = true) : ys = srtS xs := srtBy_uniq ltS_ok p (sortedS_pw s)
theorem srtZ_uniq {ys xs : List Int} (p : ys.Perm xs) (s : ys.Pairwise (· ≤ ·)) : ys = srtZ xs := srtBy_uniq ltZ_ok p (s.imp fun {a b} h => by simp only [ltZ, decide_eq_false_iff_not]; omega)
/-- sorted(xs): a list of texts or of ints -/
def sortedD : D → M D
  | .lst xs => match strsD xs with
    | some ys => if ys.length < 64 then pure (.lst ((srtS ys).map .str)) else no
    | none => match intsD xs with
      | some ns => if ns.length < 64 then pure (.lst ((srtZ ns).map .int)) else no
      | none => no
  | _ => no
theorem den_strs {K : PySem.W.Frag} {G : ClsAt} {As : List Addr} {F : Hp} : ∀ ys : List Str, DenL K G As F (ys.map D.str) (ys.map V.str)
  | [] => .nil
  | _ :: r => .cons .str (den_strs r)
section
variable {X : Cx} {G : ClsAt} {W : WX} {RP : RPT} {T : NT}
theorem h_sorted {P : Cf → Hp → Cf → Hp → D → V → Prop} (hP : ∀ {c : Cf} {H : Hp} {E : XK} {Q : VK} {d : D} {p : Addr} {u : HO}, Post X.K G (P c H) E c H (.ok d c.st) Q → CfOk X.K G c H → H p = none → OwnAt X.K G c.As c.F (upd H p u) p d → Q (.ref p) (upd H p u)) :
    Op1 X G (fun xs H Q => rSortedS X.K xs H Q ∨ rSorted X.K xs H Q) P sortedD := by
  intro c H x v E Q o t p
  unfold sortedD at p
  cases x with
  | lst xs =>
    obtain ⟨a, vs, rfl, ha, la⟩ := t.lst o
    simp only at p
    cases e : strsD xs with
    | some ys =>
      simp only [e] at p
      obtain ⟨hz, p⟩ := post_if p
      exact .inl ⟨a, ys, rfl, strs_den e la ▸ ha, hz, fun ys' q hp hs hq => by
        rw [srtS_uniq hp hs]
        exact hP p o hq ⟨_, upd_same, den_strs _⟩⟩
    | none =>
      simp only [e] at p
      cases e2 : intsD xs with
      | none => simp only [e2] at p; exact p.elim
      | some ns =>
        simp only [e2] at p
        obtain ⟨hz, p⟩ := post_if p
        exact .inr ⟨a, ns, rfl, ints_den e2 la ▸ ha, hz, fun ns' q hp hs hq => by
          rw [srtZ_uniq hp hs]
          exact hP p o hq ⟨_, upd_same, den_ints _⟩⟩
  | _ => exact p.elim
theorem vn_b1 {e : Expr} {f : Env → M D} {x : Str} {id : String} {r : List V → Hp → VK → Prop} {F1 : D → M D} {p pos : Pos} (hc : CallR X (.builtin id) r) (h1 : Op1 X G r (fun _ H => POwn X.K G H) F1) (hm : X.mg x = none) (hv : bootBuiltins x = some (.builtin id)) (he : VR G X W e f)
    (hg : Gl X x := by rfl) (hn : x ≠ "__name__" := by decide) (hdb : (x == ("__debug__" : Str)) = false := by decide) (hst : starEach [e] X.env = [(false, eval e X.env)] := by rfl) (hpl : (backTo pos (starEach ([] : List Expr) X.env)).any (·.1) = false := by rfl) : VN G X W (.Call (.Name x p) [e] [] pos) (fun ρ => do let x ← f ρ; F1 x) :=
  PE.imp (pe_callB hc hg hm hv (va1 he hst) hn hdb hst hpl) fun σ H Q ⟨H0, ρ, c, o, sl, p⟩ => tR_step rfl o sl p fun x v c1 H1 x1 o1 sl1 t1 p1 => h1 _ _ _ _ _ _ o1 t1
    (p1.imp (P' := POwn X.K G H1) (fun c' H' d v _ _ ⟨a, e1, e2, e3⟩ => ⟨a, e1, x1.none e2, e3⟩) (fun _ _ q => q) fun _ _ _ q => q)
theorem vn_sorted {e : Expr} {f : Env → M D} {p pos : Pos} (hm : X.mg "sorted" = none) (he : VR G X W e f) (hg : Gl X "sorted" := by rfl) (hst : starEach [e] X.env = [(false, eval e X.env)] := by rfl) : VN G X W (.Call (.Name "sorted" p) [e] [] pos) (fun ρ => do let x ← f ρ; sortedD x) :=
  vn_b1 (cr_sortedS.or cr_sorted) (h_sorted fun p o hp w => p.newOwn o hp w) hm (by decide +kernel) he hg (hst := hst)
/-! f-strings -/
abbrev fstD (fs : List (Env → M Str)) : Env → M D := fun ρ => do let z ← catM ρ fs Str.empty; pure (.str z)
theorem vj_run {H0 : Hp} {ρ : Env} {σ : L2.St} {Q : Str → Hp → Prop} : ∀ {es : List Expr} {fs : List (Env → M Str)} {ts : List TE}, VJ X G W es fs ts → ∀ (acc : Str) (c : Cf) (H : Hp), CfOk X.K G c H → Slots X.K G H0 c H ρ σ →
    Post X.K G (fun _ _ a v => a = v) (fun cls dx H' => W cls dx σ H') c H (catM ρ fs acc c.st) Q → tJs ts acc σ H Q := by
  intro es fs ts h
  induction h with
  | nil => intro acc c H o sl p; exact p acc c.F c.As H (Ext.refl _ _) o rfl
  | @cons e f es fs ts h r ih =>
    intro acc c H o sl p
    refine ⟨H0, ρ, c, o, sl, ?_⟩
    refine (Post.bind (P := fun _ _ a v => v = V.str a) p).imp (fun _ _ _ _ _ _ q => q) (fun v H1 ⟨z, c1, x1, o1, e, p1⟩ => ?_) fun _ _ _ q => q
    obtain ⟨hz, p1⟩ := post_if p1
    exact ⟨z, e, sz hz, ih _ c1 H1 o1 (sl.ext x1) p1⟩
theorem ve_fst {v1 v2 : Expr} {rest : List Expr} {fs : List (Env → M Str)} {ts : List TE} {pos : Pos} (h : VJ X G W (v1 :: v2 :: rest) fs ts) : VE G X W (.JoinedStr (v1 :: v2 :: rest) pos) (fstD fs) :=
  PE.imp (pe_joined (VJ.pj h)) fun σ H Q ⟨H0, ρ, c, o, sl, p⟩ => vj_run h _ c H o sl
    ((Post.bind (P := fun _ _ a v => a = v) p).imp (fun _ _ _ _ _ _ q => q) (fun v H1 ⟨z, c1, x1, o1, e, p1⟩ => by
      cases e
      exact p1.here o1 (fun _ _ h => h) .str) fun _ _ _ q => q)
/-! d.get -/
def getGD : D → D → M D
  | .dic ks, x => match x.key with
    | some k => pure ((getK ks k).getD .non)
    | none => no
  | _, _ => no
def getGD2 : D → D → D → M D
  | .dic ks, x, z => match x.key with
    | some k => pure ((getK ks k).getD z)
    | none => no
  | _, _, _ => no
def isDic : D → Bool
  | .dic _ => true
  | _ => false
def dicQ (x : D) : M D := if isDic x then pure x else no
theorem getK_rd {K : PySem.W.Frag} {As : List Addr} {F H : Hp} {ks : List (Key × D)} {ws : List (Key × V)} {a : Addr} {k : Key} (l : DenK K G As F ks ws) (h : Rd H a (.dK ws)) : DGet H a (kV k) (valV ws k) := .inl ⟨ws, k, h, rfl, rfl⟩
/-- d.get(x, z) -/
theorem ve_get2 {o e f : Expr} {fo fe ff : Env → M D} {apos cpos : Pos} (hu : X.A.units + 1 < cLine) (ho : VE G X W o fo) (he : VE G X W e fe) (hf : VE G X W f ff)
    (hb : attributeBase o "get" X.env (eval o X.env) = eval o X.env := by rfl) (hfew : ((backTo cpos (starEach [e, f] X.env)).all (fun x => !x.1) && (backToKw cpos (keywordEach [] X.env)).all (fun x => x.1.isSome)
    && decide (([e, f] : List Expr).length + ([] : List Keyword).length + (if ([] : List Keyword).isEmpty then 0 else 1) < 30)) = true := by rfl) (hl : (apos.endLine == cpos.line) = true := by rfl) (ht : backTo cpos (starEach [e, f] X.env) = [(false, eval e X.env), (false, eval f X.env)] := by rfl) :
    VE G X W (.Call (.Attribute o "get" apos) [e, f] [] cpos) (fun ρ => do let x ← fo ρ; let x ← dicQ x; let y ← fe ρ; let z ← ff ρ; getGD2 x y z) :=
  PE.imp (pe_dget2 hu ho he hf ⟨hb, hfew, hl, ht⟩) fun σ H Q ⟨H0, ρ, c, o, sl, p⟩ => tV_step rfl o sl p fun x v c1 H1 x1 o1 sl1 t1 p1 => by
    cases x with
    | dic ks =>
      have t1' := t1
      obtain ⟨a, ws, rfl, ha, la⟩ := (show DenT X.K G c1 H1 _ _ from .inl t1).dic o1
      refine ⟨a, rfl, .inl ⟨ws, ha⟩, tV_step rfl o1 sl1 (show Post X.K G (PDen X.K G) _ c1 H1 ((fe ρ >>= fun y => ff ρ >>= fun z => getGD2 (.dic ks) y z) c1.st) Q from p1) fun y w c2 H2 x2 o2 sl2 t2 p2 => tV_step rfl o2 sl2 p2 fun z u c3 H3 x3 o3 sl3 t3 p3 => ?_⟩
      have t4 := t1'.mono (Sub.trans x2.sub x3.sub) (x2.pre.trans x3.pre)
      have t2' := t2.mono x3.sub x3.pre
      obtain ⟨a', ws', ea, ha', la'⟩ := (show DenT X.K G c3 H3 _ _ from .inl t4).dic o3
      cases ea
      unfold getGD2 at p3
      cases ek : y.key with
      | none => simp only [ek] at p3; exact p3.elim
      | some k =>
        simp only [ek] at p3
        refine ⟨valV ws' k, key_den ek t2' ▸ getK_rd la' ha', ?_⟩
        have g := getK_den (k := k) la'
        cases eg : getK ks k with
        | none => rw [eg] at g; rw [g]; exact p3.here o3 (fun _ _ h => h) (by rw [eg]; exact t3)
        | some d =>
          rw [eg] at g
          obtain ⟨v, e1, e2⟩ := g
          rw [e1]; exact p3.here o3 (fun _ _ h => h) (by rw [eg]; exact e2)
    | _ => exact p1.elim
end
end PV
end

section
/-! dicts made -/
namespace PV
open PySem PySem.Spec L2
open PyProof.Rows hiding St
def mergeD (ks more : List (Key × D)) : List (Key × D) := more.foldl (fun acc p => putD acc p.1 p.2) ks
theorem length_putD (ks : List (Key × D)) (k : Key) (v : D) : (putD ks k v).length ≤ ks.length + 1 := by
  unfold putD
  split
  · rw [List.length_map]; omega
  · rw [List.length_append, List.length_singleton]; exact Nat.le_refl _
theorem mergeD_den {K : PySem.W.Frag} {G : ClsAt} {As : List Addr} {F : Hp} : ∀ {ms : List (Key × D)} {mv : List (Key × V)} {ks : List (Key × D)} {ws : List (Key × V)}, DenK K G As F ms mv → DenK K G As F ks ws → DenK K G As F (mergeD ks ms) (mergeK ws mv)
  | _, _, _, _, .nil, l => l
  | (k, d) :: ms, (_, v) :: mv, ks, ws, .cons t m, l => by
    show DenK K G As F (mergeD (putD ks k d) ms) (mergeK (putK ws k v) mv)
    exact mergeD_den m (putD_den l t)
def pairsOf : List D → Option (List (Key × D))
  | [] => some []
  | .tup [x, y] :: r => match x.key with
    | some k => match pairsOf r with
      | some ks => some ((k, y) :: ks)
      | none => none
    | none => none
  | _ => none
theorem pairsOf_cons {y : D} {r : List D} {ks : List (Key × D)} (h : pairsOf (y :: r) = some ks) : ∃ x z k rk, y = .tup [x, z] ∧ x.key = some k ∧ pairsOf r = some rk ∧ ks = (k, z) :: rk := by
  unfold pairsOf at h
  split at h
  · rename_i heq; cases heq
  · rename_i x z r' heq
    cases heq
    cases ek : x.key with
    | none => simp only [ek] at h; cases h
    | some k =>
      simp only [ek] at h
      cases er : pairsOf r with
      | none => simp only [er] at h; cases h
      | some rk => simp only [er] at h; cases h; exact ⟨x, z, k, rk, rfl, ek, rfl, rfl⟩
  · cases h
def pr (k v : Env → M D) : Env → M D := fun ρ => do let x ← k ρ; let y ← v ρ; pure (.tup [x, y])
/-- {k: v for target in iter if ..} -/
def dcD (f : Env → M (List D)) (g : D → Env → Option Env) (t : Env → M Bool) (k v : Env → M D) (vs : List Nat) : Env → M D := fun ρ => do
  let ds ← f ρ
  if ds.length < SIZE then do
    let ys ← lcM g t (pr k v) (wipeE ρ vs) ds
    match pairsOf ys with
    | some ks => pure (.dic (mergeD [] ks))
    | none => no
  else no
section
variable {X : Cx} {G : ClsAt} {W : WX} {RP : RPT} {T : NT}
theorem dc_core {K : PySem.W.Frag} {g : D → Env → Option Env} {t : Env → M Bool} {k v : Env → M D} {vs : List Nat} {H0 H1 : Hp} {c1 : Cf} {ρ : Env} {σ : L2.St} {ds ys : List D} {ks : List (Key × D)} {s' : Stt} {J : It} {Gd : Hp → Prop} (it : ItOk K G c1 Gd ds J) (hG : ∀ c H, Ext c1 H1 c H → Gd H)
    (o : CfOk K G c1 H1) (sl : Slots K G H0 c1 H1 ρ σ) (hz : ds.length < SIZE) (h : lcM g t (pr k v) (wipeE ρ vs) ds c1.st = .ok ys s') (hp : pairsOf ys = some ks) {Q : VK} (fin : ∀ v F' As' H', Ext c1 H1 ⟨F', As', s'⟩ H' → CfOk K G ⟨F', As', s'⟩ H' → POwn K G H1 ⟨F', As', s'⟩ H' (.dic (mergeD [] ks)) v → Q v H') (D : Addr) (hD : H1 D = none) :
    ∃ Wf : Nat → Nat → Hp → Prop, (∃ m, Wf 0 m (upd H1 D (.dK []))) ∧ ∀ i m H, Wf i m H →
      (J.stop i H ∧ Q (.ref D) H) ∨ (J.go i H ∧ ∃ Nx : Hp → Prop, (∀ H', Nx H' → ∃ m', m' < m ∧ Wf (i + 1) m' H') ∧ ∀ x H', J.yld i H x H' → tG K G vs g x (L2.wipe σ vs) H' fun σ2 H2 => L2.wipe σ2 vs = L2.wipe σ vs ∧ tT K G W0 t σ2 H2 fun b H3 =>
        if b = true then tV K G W0 k σ2 H3 fun y H4 => tV K G W0 v σ2 H4 fun z H5 => ∃ kvs k, y = kV k ∧ H5 D = some (.dK kvs) ∧ kvs.length < sizeLine ∧ Nx (upd H5 D (.dK (putK kvs k z))) else Nx H3) := by
  let Pv : Nat → Hp → Prop := fun i H => ∃ (c : Cf) (cur : List (Key × PV.D)) (vk : List (Key × V)) (ys' : List PV.D) (rk : List (Key × PV.D)), Ext c1 H1 c H ∧ CfOk K G c H ∧ D ∉ c.As ∧ c.F D = none ∧ H D = some (.dK vk) ∧ DenK K G c.As c.F cur vk ∧ cur.length ≤ i ∧ lcM g t (pr k v) (wipeE ρ vs) (ds.drop i) c.st = .ok ys' s' ∧ pairsOf ys' = some rk ∧ mergeD cur rk = mergeD [] ks
  have f1 : c1.F D = none := o.le.none hD
  have n1 : D ∉ c1.As := fun z => by
    obtain ⟨_, u, q⟩ := o.mem z
    rw [hD] at q; cases q
  refine ⟨fun i m H => m = ds.length - i ∧ i ≤ ds.length ∧ Pv i H, ⟨ds.length, by simp, Nat.zero_le _, c1, [], [], ys, ks, ext_updNew (Ext.refl _ _) hD, o.updFree n1 f1, n1, f1, upd_same, .nil, Nat.le_refl _, h, hp, rfl⟩, ?_⟩
  rintro i m H ⟨rfl, hi, c, cur, vk, ys', rk, x, o, nD, fD, hDv, l, hl, hm, hrk, he⟩
  by_cases hlt : i < ds.length
  · refine .inr ⟨it.go c H i x.sub x.pre o (hG c H x) hlt, Pv (i + 1), fun H' q => ⟨ds.length - (i + 1), by omega, rfl, hlt, q⟩, fun v1 H' y => ?_⟩
    have ei : ds[i]? = some ds[i] := List.getElem?_eq_getElem hlt
    obtain ⟨F', x2, o2, h2⟩ := it.yld c H i v1 H' ds[i] x.sub x.pre o (hG c H x) ei y
    rw [List.drop_eq_getElem_cons hlt] at hm
    obtain ⟨ρ', eg, b, s1, et, alt⟩ := lcM_cons hm
    have xx := x.trans x2
    refine ⟨H0, _, _, ds[i], ρ', o2, (sl.ext xx).wipe vs, h2, eg, fun σ2 sl2 w2 => ⟨w2.trans wipe_idem, H0, ρ', _, o2, sl2, ?_⟩⟩
    have stay : ∀ {cc : Cf} {HH : Hp}, Ext c H cc HH → HH D = some (.dK vk) ∧ D ∉ cc.As ∧ cc.F D = none := fun {cc HH} xx => by
      refine ⟨xx.keepO hDv nD fD, fun z => ?_, ?_⟩
      · rcases xx.anew D z with z | z
        · exact nD z
        · rw [hDv] at z; cases z
      · cases q : cc.F D with
        | none => rfl
        | some u =>
          rcases xx.new D u q with z | z
          · rw [fD] at z; cases z
          · rw [hDv] at z; cases z
    show Post K G PBl _ ⟨F', c.As, c.st⟩ H' (t ρ' c.st) _
    rw [et]
    intro b' F3 As3 H3 x3 o3 eb
    cases (show b = b' from eb)
    have x23 := x2.trans x3
    rcases alt with ⟨rfl, y, s2, ys2, ey, hr, rfl⟩ | ⟨rfl, hr⟩
    · rw [if_pos rfl]
      obtain ⟨xd, s1', ex, ey⟩ := bind_ok ey
      obtain ⟨zd, s2', ez, ey⟩ := bind_ok ey
      cases ey
      obtain ⟨x', z', kk, rk2, e1, ek, erk, rfl⟩ := pairsOf_cons hrk
      cases e1
      refine ⟨H0, ρ', _, o3, sl2.ext x3, ?_⟩
      show Post K G (PDen K G) _ _ H3 (k ρ' s1) _
      rw [ex]
      intro w F4 As4 H4 x4 o4 tw
      refine ⟨H0, ρ', _, o4, (sl2.ext x3).ext x4, ?_⟩
      show Post K G (PDen K G) _ _ H4 (v ρ' s1') _
      rw [ez]
      intro w5 F5 As5 H5 x5 o5 tw5
      have x25 := (x23.trans x4).trans x5
      obtain ⟨k1, k2, k3⟩ := stay x25
      refine ⟨vk, kk, key_den ek (tw.mono x5.sub x5.pre), k1, ?_, ⟨F5, As5, s2⟩, putD cur kk zd, putK vk kk w5, ys2, rk2, ext_updNew (x.trans x25) hD, o5.updFree k2 k3, k2, k3, upd_same, putD_den (l.mono x25.sub x25.pre) tw5, ?_, hr, erk, he⟩
      · have := l.length
        have hs := SIZE_le
        omega
      · have := length_putD cur kk zd
        omega
    · rw [if_neg Bool.false_ne_true]
      obtain ⟨k1, k2, k3⟩ := stay x23
      exact ⟨⟨F3, As3, s1⟩, cur, vk, ys', rk, x.trans x23, o3, k2, k3, k1, l.mono x23.sub x23.pre, by omega, hr, hrk, he⟩
  · have ei : i = ds.length := by omega
    subst ei
    rw [List.drop_length] at hm
    cases hm
    cases hrk
    have he : cur = mergeD [] ks := he
    subst he
    exact .inl ⟨it.stop c H x.sub x.pre o (hG c H x), fin _ c.F c.As H x o ⟨D, rfl, hD, nD, fD, vk, hDv, l⟩⟩
theorem dc_tr {K : PySem.W.Frag} {f : Env → M (List D)} {g : D → Env → Option Env} {t : Env → M Bool} {k v : Env → M D} {vs : List Nat} {σ : L2.St} {H : Hp} {Q : VK} (h : tN K G W (dcD f g t k v vs) σ H Q) : tDc (tI K G W f) (tG K G vs g) (tT K G W0 t) (tV K G W0 k) (tV K G W0 v) vs σ H Q := by
  obtain ⟨H0, ρ, c, o, sl, p⟩ := h
  refine ⟨H0, ρ, c, o, sl, ?_⟩
  have p : Post K G (POwn K G H) _ c H (M.bind (f ρ) (fun ds => if ds.length < SIZE then (do
    let ys ← lcM g t (pr k v) (wipeE ρ vs) ds
    match pairsOf ys with
    | some ks => pure (.dic (mergeD [] ks))
    | none => no : M PV.D) else no) c.st) Q := p
  have p := Post.bind (P := PIt K G) p
  refine p.imp (fun _ _ _ _ _ _ q => q) (fun J H1 ⟨ds, c1, x, o1, it, p1⟩ D hD => ?_) fun _ _ _ q => q
  by_cases hz : ds.length < SIZE
  · rw [if_pos hz] at p1
    cases em : lcM g t (pr k v) (wipeE ρ vs) ds c1.st with
    | no =>
      have q : (lcM g t (pr k v) (wipeE ρ vs) ds >>= fun ys => (match pairsOf ys with
        | some ks => pure (.dic (mergeD [] ks))
        | none => no : M PV.D)) c1.st = .no := by
        show M.bind _ _ _ = _
        unfold M.bind
        rw [em]
      rw [q] at p1; exact p1.elim
    | err x s' => exact absurd em lcM_err
    | ok ys s' =>
      rw [bind_eq em] at p1
      cases ep : pairsOf ys with
      | none => rw [ep] at p1; exact p1.elim
      | some ks =>
        rw [ep] at p1
        have fin : ∀ v F' As' H', Ext c1 H1 ⟨F', As', s'⟩ H' → CfOk K G ⟨F', As', s'⟩ H' → POwn K G H1 ⟨F', As', s'⟩ H' (.dic (mergeD [] ks)) v → Q v H' := fun v F' As' H' x' o' q => p1 v F' As' H' x' o' (let ⟨a, e1, e2, e3⟩ := q; ⟨a, e1, x.none e2, e3⟩)
        rcases it with it | ⟨d, od, ws, f1, h1, it⟩
        · exact dc_core it (fun _ _ _ => trivial) o1 (sl.ext x) hz em ep fin D hD
        · exact dc_core it (fun _ _ y => y.frz f1 h1 o1) o1 (sl.ext x) hz em ep fin D hD
  · rw [if_neg hz] at p1; exact p1.elim
theorem vn_dc {kx vx tg iter : Expr} {ifs : List Expr} {scope : Scope} {own : List (Str × Nat)} {vs : List Nat} {pos : Pos} {f : Env → M (List D)} {g : D → Env → Option Env} {t : Env → M Bool} {k v : Env → M D} (on : On X T) (hi : VI G X W tg iter f) (ok : BlkOk X.N X.env.scope scope own) (hv : own.map (·.2) = vs)
    (hg : ∀ (s : Shared) (H : Hp) (C : Addr) (cl : List (Str × Addr)) (fp : List Addr), VG G (X.blk s H scope (compEnvC scope cl C X.env) fp) tg vs g) (ht : ∀ (s : Shared) (H : Hp) (C : Addr) (cl : List (Str × Addr)) (fp : List Addr), VTs G (X.blk s H scope (compEnvC scope cl C X.env) fp) W0 ifs t)
    (hk : ∀ (s : Shared) (H : Hp) (C : Addr) (cl : List (Str × Addr)) (fp : List Addr), VE G (X.blk s H scope (compEnvC scope cl C X.env) fp) W0 kx k)
    (he : ∀ (s : Shared) (H : Hp) (C : Addr) (cl : List (Str × Addr)) (fp : List Addr), VE G (X.blk s H scope (compEnvC scope cl C X.env) fp) W0 vx v) (hs : ∀ x, foldedSetIterable iter X.env x = pure x := by intro _; rfl) :
    VN G X W (.DictComp kx vx [⟨tg, iter, ifs, 0⟩] scope pos) (dcD f g t k v vs) := by
  subst hv
  exact PE.imp (pe_dc on.calm on.nd hi ok hg ht hk he hs) fun σ H Q h => dc_tr h
/-! displays -/
theorem vn_dnew {pos : Pos} : VN G X W (.Dict [] [] pos) (fun _ => pure (.dic [])) :=
  PE.imp pe_dnewK fun σ H Q ⟨H0, ρ, c, o, sl, p⟩ q hq => Post.newOwn (d := .dic []) p o hq ⟨[], upd_same, .nil⟩
def prsM (ρ : Env) : List ((Env → M D) × (Env → M D)) → M (List (Key × D))
  | [] => pure []
  | (f, g) :: r => do
    let x ← f ρ
    let y ← g ρ
    match x.key with
    | some k => do let ks ← prsM ρ r; pure ((k, y) :: ks)
    | none => no
inductive VP2 (X : Cx) (G : ClsAt) (W : WX) : List (Option Expr) → List Expr → List ((Env → M D) × (Env → M D)) → List (TE × TE) → Prop where
  | nil : VP2 X G W [] [] [] []
  | cons {k v : Expr} {f g : Env → M D} {ks : List (Option Expr)} {vs : List Expr} {fs : List ((Env → M D) × (Env → M D))} {ts : List (TE × TE)} (h1 : VE G X W k f) (h2 : VE G X W v g) (r : VP2 X G W ks vs fs ts) : VP2 X G W (some k :: ks) (v :: vs) ((f, g) :: fs) ((tV X.K G W f, tV X.K G W g) :: ts)
theorem VP2.pps {pos : Pos} : ∀ {ks : List (Option Expr)} {vs : List Expr} {fs : List ((Env → M D) × (Env → M D))} {ts : List (TE × TE)}, VP2 X G W ks vs fs ts → PPs X pos ks vs ts
  | _, _, _, _, .nil => pps_nil
  | _, _, _, _, .cons h1 h2 r => pps_cons h1 h2 (VP2.pps r)
theorem prs_run {H0 : Hp} {ρ : Env} {σ : L2.St} : ∀ {ks : List (Option Expr)} {vs : List Expr} {fs : List ((Env → M D) × (Env → M D))} {ts : List (TE × TE)}, VP2 X G W ks vs fs ts → ∀ {Q : List (V × V) → Hp → Prop} (c : Cf) (H : Hp), CfOk X.K G c H → Slots X.K G H0 c H ρ σ →
    Post X.K G (fun c' _ a ps => ∃ kvs : List (Key × V), ps = kvs.map (fun kv => (kV kv.1, kv.2)) ∧ DenK X.K G c'.As c'.F a kvs) (fun cls dx H' => W cls dx σ H') c H (prsM ρ fs c.st) Q → tPairs ts σ H Q := by
  intro ks vs fs ts h
  induction h with
  | nil => intro Q c H o sl p; exact p [] c.F c.As H (Ext.refl _ _) o ⟨[], rfl, .nil⟩
  | @cons k v f g ks vs fs ts h1 h2 r ih =>
    intro Q c H o sl p
    refine tV_step rfl o sl p fun x u c1 H1 x1 o1 sl1 t1 p1 => tV_step rfl o1 sl1 p1 fun y w c2 H2 x2 o2 sl2 t2 p2 => ?_
    cases ek : x.key with
    | none => simp only [ek] at p2; exact p2.elim
    | some kk =>
      simp only [ek] at p2
      refine ih c2 H2 o2 sl2 ((Post.bind (P := fun c' _ a ps => ∃ kvs : List (Key × V), ps = kvs.map (fun kv => (kV kv.1, kv.2)) ∧ DenK X.K G c'.As c'.F a kvs) p2).imp (fun _ _ _ _ _ _ q => q) (fun ps H3 ⟨a, c3, x3, o3, ⟨kvs, e1, l3⟩, p3⟩ => ?_) fun _ _ _ q => q)
      exact p3 _ c3.F c3.As H3 (Ext.refl _ _) o3 ⟨(kk, w) :: kvs, by rw [e1, key_den ek t1]; rfl, .cons (t2.mono x3.sub x3.pre) l3⟩
def dspD (fs : List ((Env → M D) × (Env → M D))) : Env → M D := fun ρ => do let ks ← prsM ρ fs; if ks.length ≤ 15 then pure (.dic (mergeD [] ks)) else no
theorem vn_dsp {keys : List (Option Expr)} {values : List Expr} {fs : List ((Env → M D) × (Env → M D))} {ts : List (TE × TE)} {pos : Pos} (h : VP2 X G W keys values fs ts) (hall : keys.all (·.isSome) = true := by rfl) (hl : keys.length = values.length := by rfl) (h0 : keys ≠ [] := by exact fun h => nomatch h)
    (h15 : keys.length ≤ 15 := by decide) : VN G X W (.Dict keys values pos) (dspD fs) :=
  PE.imp (pe_disp (VP2.pps h) hall hl h0 h15) fun σ H Q ⟨H0, ρ, c, o, sl, p⟩ q hq => by
    have f1 : c.F q = none := o.le.none hq
    have n1 : q ∉ c.As := fun z => by
      obtain ⟨_, u, q⟩ := o.mem z
      rw [hq] at q; cases q
    have x0 : Ext c H c (upd H q (.dK [])) := ext_updNew (Ext.refl _ _) hq
    have o0 : CfOk X.K G c (upd H q (.dK [])) := o.updFree n1 f1
    refine prs_run h c _ o0 (sl.ext x0) ?_
    have p : Post X.K G (POwn X.K G H) (fun cls dx H' => W cls dx σ H') c H (M.bind (prsM ρ fs) (fun ks => if ks.length ≤ 15 then pure (.dic (mergeD [] ks)) else no) c.st) Q := p
    unfold M.bind at p
    cases e : prsM ρ fs c.st with
    | no => rw [e] at p; exact p.elim
    | err e' s' => rw [e] at p; exact fun F' As' H' cls dx x o' => p F' As' H' cls dx (x0.trans x) o'
    | ok ks s' =>
      rw [e] at p
      intro ps F' As' H' x o' ⟨kvs, e1, l⟩
      obtain ⟨hz, p3⟩ := post_if (x := (pure (.dic (mergeD [] ks)) : M D)) (s := s') p
      have nq : q ∉ As' := fun z => by
        rcases x.anew q z with z | z
        · exact n1 z
        · rw [upd_same] at z; cases z
      have fq : F' q = none := by
        cases e : F' q with
        | none => rfl
        | some u =>
          rcases x.new q u e with z | z
          · rw [f1] at z; cases z
          · rw [upd_same] at z; cases z
      exact ⟨x.keepO upd_same n1 f1, kvs, e1, by rw [← l.length]; exact hz, p3 (.ref q) F' As' _ (ext_updNew (x0.trans x) hq) (o'.updFree nq fq) ⟨q, rfl, hq, nq, fq, _, upd_same, mergeD_den l .nil⟩⟩
end
end PV
end

section
/-! dicts compared, copied; texts cut -/
namespace PV
open PySem PySem.Spec L2
open PyProof.Rows hiding St
def flatEq (x y : D) : Option Bool := match D.flat x, D.flat y with
  | some v, some w => some (eqV v w)
  | _, _ => none
def hitsD (ls : List (Key × D)) : List (Key × D) → Option Bool
  | [] => some true
  | (k, v) :: r => match getK ls k with
    | none => some false
    | some y => match flatEq v y, hitsD ls r with
      | some e, some b => some (e && b)
      | _, _ => none
def eqDic (ks ls : List (Key × D)) : Option Bool := if ks.length = ls.length then hitsD ls ks else some false
def optM {α : Type} : Option α → M α
  | some a => pure a
  | none => no
def eqD2 (x y : D) : M D := match x, y with
  | .dic ks, .dic ls => do let b ← optM (eqDic ks ls); pure (.bl b)
  | x, y => eqD x y
def neD2 (x y : D) : M D := match x, y with
  | .dic ks, .dic ls => do let b ← optM (eqDic ks ls); pure (.bl !b)
  | x, y => neD x y
/-- how the entries of a dict compare with another's -/
inductive HitV (ls : List (Key × V)) : List (Key × V) → Bool → Prop
  | nil : HitV ls [] true
  | miss {k : Key} {v : V} {r : List (Key × V)} : valV ls k = none → HitV ls ((k, v) :: r) false
  | hit {k : Key} {v y : V} {r : List (Key × V)} {b : Bool} : valV ls k = some y → flatV v = true → flatV y = true → HitV ls r b → HitV ls ((k, v) :: r) (eqV v y && b)
theorem hit_keq {A : Around} {s : Shared} {ls : List (Key × V)} {vb : List (Key × Value)} (rb : KV ls vb) : ∀ {ks : List (Key × V)} {va : List (Key × Value)} {r : Bool}, KV ks va → HitV ls ks r → PySem.W.KeqHits A s vb va r := by
  intro ks va r ra
  unfold KV at ra
  induction ra generalizing r with
  | nil => intro h; cases h; exact .nil
  | @cons p q ps qs h t ih =>
    intro hh
    obtain ⟨h1, h2⟩ := h
    obtain ⟨k, v⟩ := q
    obtain ⟨k', v'⟩ := p
    have h1' : k' = k := h1
    subst h1'
    cases hh with
    | miss e =>
      have rr : RelO (valV ls k') (valueAt vb k') := rb.val k'
      rw [e] at rr
      refine .miss ?_
      cases q : valueAt vb k' with
      | none => rfl
      | some z => rw [q] at rr; exact rr.elim
    | hit e f1 f2 hr =>
      have rr : RelO (valV ls k') (valueAt vb k') := rb.val k'
      rw [e] at rr
      obtain ⟨y, hy, ry⟩ := rr.some_of
      exact .hit hy (eqAt_V h2 ry f1 f2) (ih hr)
def rEqDV : R2 := fun x y H Q => ∃ a b ks ls r, x = .ref a ∧ y = .ref b ∧ Rd H a (.dK ks) ∧ Rd H b (.dK ls) ∧ (ks.length = ls.length → HitV ls ks r) ∧ Q (.bl (ks.length == ls.length && r)) H
def rNeDV : R2 := fun x y H Q => ∃ a b ks ls r, x = .ref a ∧ y = .ref b ∧ Rd H a (.dK ks) ∧ Rd H b (.dK ls) ∧ (ks.length = ls.length → HitV ls ks r) ∧ Q (.bl (!(ks.length == ls.length && r))) H
section
variable {X : Cx} {G : ClsAt} {W : WX} {RP : RPT} {T : NT}
theorem op_eq_dV (hu : X.A.units < cLine) : OpR X (compareOp .Eq) rEqDV := by
  intro pins s σ H x y v u Q I rx ry h
  obtain ⟨a, b, ks, ls, r, rfl, rfl, ea, eb, hp, q⟩ := h
  obtain rfl : v = Value.ref a := rx
  obtain rfl : u = Value.ref b := ry
  obtain ⟨_, ya, va, ra, da⟩ := dk_rd I.hok ea
  obtain ⟨_, yb, vb, rb, db⟩ := dk_rd I.hok eb
  have la := ra.length
  have lb := rb.length
  exact PySem.W.keq_eq (knd := mixKind X.prog X.w) (r := r) ya yb da db hu (fun e => hit_keq rb ra (hp (by rw [la, lb]; exact e))) (by rw [← la, ← lb]; exact ⟨.bl _, H, I, rfl, q⟩)
theorem op_ne_dV (hu : X.A.units < cLine) : OpR X (compareOp .NotEq) rNeDV := by
  intro pins s σ H x y v u Q I rx ry h
  obtain ⟨a, b, ks, ls, r, rfl, rfl, ea, eb, hp, q⟩ := h
  obtain rfl : v = Value.ref a := rx
  obtain rfl : u = Value.ref b := ry
  obtain ⟨_, ya, va, ra, da⟩ := dk_rd I.hok ea
  obtain ⟨_, yb, vb, rb, db⟩ := dk_rd I.hok eb
  have la := ra.length
  have lb := rb.length
  exact PySem.W.keq_ne (knd := mixKind X.prog X.w) (r := r) ya yb da db hu (fun e => hit_keq rb ra (hp (by rw [la, lb]; exact e))) (by rw [← la, ← lb]; exact ⟨.bl _, H, I, rfl, q⟩)
theorem hits_den {K : PySem.W.Frag} {As : List Addr} {F : Hp} {ls : List (Key × D)} {wl : List (Key × V)} (ll : DenK K G As F ls wl) : ∀ {ks : List (Key × D)} {wk : List (Key × V)} {b : Bool}, DenK K G As F ks wk → hitsD ls ks = some b → HitV wl wk b
  | [], _, _, .nil, h => by cases h; exact .nil
  | (k, d) :: r, (_, v) :: rw_, b, .cons t l, h => by
    unfold hitsD at h
    have g := getK_den (k := k) ll
    cases e : getK ls k with
    | none => rw [e] at g; simp only [e] at h; cases h; exact .miss g
    | some y =>
      rw [e] at g
      obtain ⟨w, e1, tw⟩ := g
      simp only [e] at h
      cases e2 : flatEq d y with
      | none => simp only [e2] at h; cases h
      | some bb =>
        cases e3 : hitsD ls r with
        | none => simp only [e2, e3] at h; cases h
        | some b2 =>
          simp only [e2, e3] at h
          cases h
          unfold flatEq at e2
          cases f1 : D.flat d with
          | none => simp only [f1] at e2; cases e2
          | some v1 =>
            cases f2 : D.flat y with
            | none => simp only [f1, f2] at e2; cases e2
            | some v2 =>
              simp only [f1, f2] at e2
              cases e2
              obtain ⟨rfl, g1⟩ := flat_den f1 t
              obtain ⟨rfl, g2⟩ := flat_den f2 tw
              exact .hit e1 g1 g2 (hits_den ll l e3)
theorem eqDic_den {K : PySem.W.Frag} {As : List Addr} {F : Hp} {ks ls : List (Key × D)} {wk wl : List (Key × V)} {b : Bool} (lk : DenK K G As F ks wk) (ll : DenK K G As F ls wl) (h : eqDic ks ls = some b) : ∃ r, (wk.length = wl.length → HitV wl wk r) ∧ b = (wk.length == wl.length && r) := by
  unfold eqDic at h
  have e1 := lk.length
  have e2 := ll.length
  by_cases e : ks.length = ls.length
  · rw [if_pos e] at h
    refine ⟨b, fun _ => hits_den ll lk h, ?_⟩
    rw [← e1, ← e2, e]; simp
  · rw [if_neg e] at h
    cases h
    refine ⟨true, fun z => absurd (by rw [e1, e2]; exact z) e, ?_⟩
    rw [← e1, ← e2]
    simp [e]
def rEqX (K : PySem.W.Frag) : R2 := fun x y H Q => rEqA K x y H Q ∨ rEqDV x y H Q
def rNeX (K : PySem.W.Frag) : R2 := fun x y H Q => rNeA K x y H Q ∨ rNeDV x y H Q
theorem op_eqX (hu : X.A.units + 64 < cLine) : OpR X (compareOp .Eq) (rEqX X.K) := (op_eqA hu).or (op_eq_dV (by omega))
theorem op_neX (hu : X.A.units + 64 < cLine) : OpR X (compareOp .NotEq) (rNeX X.K) := (op_neA hu).or (op_ne_dV (by omega))
theorem h_eqX : Op2 X G (rEqX X.K) (P0 X G) eqD2 := by
  intro c H x y v w E Q o tx ty p
  unfold eqD2 at p
  split at p
  · rename_i ks ls
    obtain ⟨a, wk, rfl, ha, la⟩ := tx.dic o
    obtain ⟨b, wl, rfl, hb, lb⟩ := ty.dic o
    cases e : eqDic ks ls with
    | none => rw [e] at p; exact p.elim
    | some r =>
      rw [e] at p
      obtain ⟨r', h1, rfl⟩ := eqDic_den la lb e
      exact .inr ⟨a, b, wk, wl, r', rfl, rfl, ha, hb, h1, Post.here (a := D.bl _) p o (fun _ _ h => h) .bl⟩
  · exact .inl (h_eq c H _ _ v w E Q o tx ty p)
theorem h_neX : Op2 X G (rNeX X.K) (P0 X G) neD2 := by
  intro c H x y v w E Q o tx ty p
  unfold neD2 at p
  split at p
  · rename_i ks ls
    obtain ⟨a, wk, rfl, ha, la⟩ := tx.dic o
    obtain ⟨b, wl, rfl, hb, lb⟩ := ty.dic o
    cases e : eqDic ks ls with
    | none => rw [e] at p; exact p.elim
    | some r =>
      rw [e] at p
      obtain ⟨r', h1, rfl⟩ := eqDic_den la lb e
      exact .inr ⟨a, b, wk, wl, r', rfl, rfl, ha, hb, h1, Post.here (a := D.bl _) p o (fun _ _ h => h) .bl⟩
  · exact .inl (h_ne c H _ _ v w E Q o tx ty p)
/-! dict(pairs), dict(d) -/
def dictD : D → M D
  | .lst xs => match pairsOf xs with
    | some ks => pure (.dic (mergeD [] ks))
    | none => no
  | .dic ks => pure (.dic ks)
  | _ => no
theorem pairs_den {K : PySem.W.Frag} {c : Cf} {H : Hp} (o : CfOk K G c H) : ∀ {xs : List D} {vs : List V} {ks : List (Key × D)}, DenL K G c.As c.F xs vs → pairsOf xs = some ks → ∃ (ps : List Addr) (kvs : List (Key × V)), vs = ps.map V.ref ∧ Paired (fun p kv => SqT K H p [kV kv.1, kv.2]) ps kvs ∧ DenK K G c.As c.F ks kvs
  | [], _, _, .nil, h => by cases h; exact ⟨[], [], rfl, .nil, .nil⟩
  | d :: r, v :: rv, ks, .cons t l, h => by
    obtain ⟨x, z, k, rk, rfl, ek, er, rfl⟩ := pairsOf_cons h
    obtain ⟨ps, kvs, e1, pr, lk⟩ := pairs_den o l er
    obtain ⟨a, ws, rfl, ha, la⟩ := (show DenT K G c H _ _ from .inl t).tup o
    cases la with
    | cons tx la =>
      cases la with
      | cons tz la =>
        cases la
        rename_i vx vz
        refine ⟨a :: ps, (k, vz) :: kvs, by rw [e1]; rfl, .cons ?_ pr, .cons tz lk⟩
        show SqT K H a [kV k, vz]
        rw [← key_den ek tx]; exact ha
theorem h_dict {P : Cf → Hp → Cf → Hp → D → V → Prop} (hP : ∀ {c : Cf} {H : Hp} {E : XK} {Q : VK} {d : D} {p : Addr} {u : HO}, Post X.K G (P c H) E c H (.ok d c.st) Q → CfOk X.K G c H → H p = none → OwnAt X.K G c.As c.F (upd H p u) p d → Q (.ref p) (upd H p u)) :
    Op1 X G (fun xs H Q => (∃ (a : Addr) (ps : List Addr) (kvs : List (Key × V)), xs = [.ref a] ∧ SqL X.K H a (ps.map V.ref) ∧ Paired (fun p kv => SqT X.K H p [kV kv.1, kv.2]) ps kvs ∧ ∀ p, H p = none → Q (.ref p) (upd H p (.dK (mergeK [] kvs)))) ∨
      ∃ (a : Addr) (kvs : List (Key × V)), xs = [.ref a] ∧ Rd H a (.dK kvs) ∧ ∀ p, H p = none → Q (.ref p) (upd H p (.dK kvs))) P dictD := by
  intro c H x v E Q o t p
  unfold dictD at p
  cases x with
  | lst xs =>
    obtain ⟨a, vs, rfl, ha, la⟩ := t.lst o
    simp only at p
    cases e : pairsOf xs with
    | none => simp only [e] at p; exact p.elim
    | some ks =>
      simp only [e] at p
      obtain ⟨ps, kvs, rfl, pr, lk⟩ := pairs_den o la e
      exact .inl ⟨a, ps, kvs, rfl, ha, pr, fun q hq => hP p o hq ⟨_, upd_same, mergeD_den lk .nil⟩⟩
  | dic ks =>
    obtain ⟨a, ws, rfl, ha, la⟩ := t.dic o
    exact .inr ⟨a, ws, rfl, ha, fun q hq => hP p o hq ⟨_, upd_same, la⟩⟩
  | _ => exact p.elim
theorem vn_dict {e : Expr} {f : Env → M D} {p pos : Pos} (hc : X.calm = true) (hm : X.mg "dict" = none) (he : VR G X W e f) (hg : Gl X "dict" := by rfl) (hst : starEach [e] X.env = [(false, eval e X.env)] := by rfl) : VN G X W (.Call (.Name "dict" p) [e] [] pos) (fun ρ => do let x ← f ρ; dictD x) :=
  vn_t1 ((call_dictP hc).or call_dictD) (h_dict fun p o hp w => p.newOwn o hp w) hm (by decide +kernel) he hg (hst := hst)
/-! s.split(t), s.index(t) -/
def splitD (a : Str) : D → M D
  | .str b => if (b.length == 0) = false ∧ a.length + 2 ≤ SIZE then pure (.lst ((Txt.split a b).map .str)) else no
  | _ => no
theorem vn_split {o e : Expr} {f g : Env → M D} {apos pos : Pos} (ho : VR G X W o f) (he : VR G X W e g) (hs : starEach [e] X.env = [(false, eval e X.env)] := by rfl) (hbase : attributeBase o "split" X.env (eval o X.env) = eval o X.env := by rfl) (hline : (apos.endLine == pos.line) = true := by rfl) :
    VN G X W (.Call (.Attribute o "split" apos) [e] [] pos) (fun ρ => do let x ← f ρ; let a ← asS x; let y ← g ρ; splitD a y) :=
  PE.imp (pe_split ho he hs hbase hline) fun σ H Q ⟨H0, ρ, c, o, sl, p⟩ => tR_step rfl o sl p fun x v c1 H1 x1 o1 sl1 t1 p1 => by
    obtain ⟨a, rfl, p1⟩ := asS_step t1 p1
    refine ⟨⟨a, rfl⟩, tR_step rfl o1 sl1 p1 fun y w c2 H2 x2 o2 sl2 t2 p2 => ?_⟩
    cases y with
    | str b =>
      obtain ⟨hz, p2⟩ := post_if (x := (pure (.lst ((Txt.split a b).map .str)) : M D)) (s := c2.st) p2
      have p3 := p2.imp (P' := POwn X.K G H2) (fun c' H' d v _ _ ⟨a, e1, e2, e3⟩ => ⟨a, e1, (x1.trans x2).none e2, e3⟩) (fun _ _ q => q) fun _ _ _ q => q
      exact ⟨a, b, rfl, by rw [t2.str], hz.1, sz hz.2, fun q hq => p3.newOwn o2 hq ⟨_, upd_same, den_strs _⟩⟩
    | _ => exact p2.elim
def indexD (a : Str) : D → M D
  | .str b => match Txt.index0 a b with
    | some k => pure (.int (k : Nat))
    | none => no
  | _ => no
theorem mt_index1 : MtR X "str.index" (fun x xs H Q => ∃ (a b : Str) (k : Nat), x = .str a ∧ xs = [.str b] ∧ Txt.index0 a b = some k ∧ Q (.int (k : Nat)) H) := by
  intro pins s σ H x xs v us Q I rx rs h
  obtain ⟨a, b, k, rfl, rfl, hy, w⟩ := h
  obtain ⟨t, rfl⟩ := rx
  cases rs with
  | cons r1 rs =>
    cases rs
    obtain ⟨u, rfl⟩ := r1
    cases q : Builtin.Str.occurrences a b 0 a.length 1 with
    | nil => unfold Txt.index0 at hy; rw [q] at hy; cases hy
    | cons k' rest =>
      unfold Txt.index0 at hy; rw [q] at hy; cases hy
      exact PySem.SC.index q ⟨.int (k : Nat), H, I.tok _, ⟨_, rfl⟩, w⟩
theorem ve_index {o e : Expr} {f g : Env → M D} {apos pos : Pos} (ho : VR G X W o f) (he : VR G X W e g) (hs : starEach [e] X.env = [(false, eval e X.env)] := by rfl) (hbase : attributeBase o "index" X.env (eval o X.env) = eval o X.env := by rfl) (hline : (apos.endLine == pos.line) = true := by rfl) :
    VE G X W (.Call (.Attribute o "index" apos) [e] [] pos) (fun ρ => do let x ← f ρ; let a ← asS x; let y ← g ρ; indexD a y) :=
  PE.imp (pe_m1 F.slot_str_index F.type_str_index mt_index1 ho he hs hbase hline) fun σ H Q ⟨H0, ρ, c, o, sl, p⟩ => tR_step rfl o sl p fun x v c1 H1 x1 o1 sl1 t1 p1 => by
    obtain ⟨a, rfl, p1⟩ := asS_step t1 p1
    refine ⟨⟨a, rfl⟩, tR_step rfl o1 sl1 p1 fun y w c2 H2 x2 o2 sl2 t2 p2 => ?_⟩
    cases y with
    | str b =>
      have p2 : Post X.K G (PDen X.K G) _ c2 H2 ((match Txt.index0 a b with | some k => pure (.int (k : Nat)) | none => no : M D) c2.st) Q := p2
      cases e : Txt.index0 a b with
      | none => rw [e] at p2; exact p2.elim
      | some k => rw [e] at p2; exact ⟨a, b, k, rfl, by rw [t2.str], e, p2.here o2 (fun _ _ h => h) .int⟩
    | _ => exact p2.elim
end
end PV
end

section
/-! own operators, static methods, defaults, what is never raised -/
namespace PV
open PySem PySem.Spec L2
open PyProof.Rows hiding St
/-- an own operator's entry: the method; whether the other side may be an int -/
structure OpT where
  m : List D → M D
  i : Bool
def dunOp (tb : List (Str × OpT)) (F2 : D → D → M D) (x y : D) : M D := fun s => match insAt s x with
  | some (c, _) => match tb.lookup c with
    | some e => match y with
      | .int j => if e.i = true then e.m [x, .int j] s else .no
      | y => match insAt s y with
        | some (c', _) => if c' = c then e.m [x, y] s else .no
        | none => .no
    | none => .no
  | none => F2 x y s
/-- what the class must have for its operator nm: ahead of others; ints decline -/
structure BinF (K : PySem.W.Frag) (C : Addr) : Prop where
  sf : PySem.W.selfFirst K C = true
structure BinI (K : PySem.W.Frag) (C : Addr) (nm : String) : Prop where
  rc : ∃ rc, PySem.W.findIn K (.ref C) (dunderR nm) = some rc ∧ (rc = none ∨ ∃ g : Addr, rc = some (.ref g))
  fo : ∃ fo, PySem.W.findIn K (.type "int") (PySem.dunder nm) = some fo
  ro : ∃ ro, PySem.W.findIn K (.type "int") (dunderR nm) = some ro
  sb : PySem.W.subIn K (.type "int") (.ref C) = some false
section
variable {X : Cx} {G : ClsAt} {W : WX} {RP : RPT} {T : NT}
theorem OpD.own {tb : List (Str × OpT)} {F2 : D → D → M D} {op : Operator} {j : Nat} (h2 : OpD X G W (binaryOp op) F2) (hr : Room j X.A) (tk : Takes X W)
    (ht : ∀ c e, tb.lookup c = some e → DunOk X.prog X.w X.K X.mg X.base G j c (PySem.dunder op.info.2) 2 e.m ∧ BinF X.K (G c) ∧ (e.i = true → BinI X.K (G c) op.info.2)) : OpD X G W (binaryOp op) (dunOp tb F2) := by
  intro pins s σ H x y v w vv uu Q c I r1 r2 o t1 t2 p
  unfold dunOp at p
  cases q : insAt c.st x with
  | none => rw [q] at p; exact h2 pins s σ H x y v w vv uu Q c I r1 r2 o t1 t2 p
  | some kf =>
    obtain ⟨k, fs⟩ := kf
    rw [q] at p
    simp only at p
    obtain ⟨a, dx, ws, rfl, ha, la⟩ := DenT.insAt o (.inl t1) q
    cases q2 : tb.lookup k with
    | none => rw [q2] at p; exact p.elim
    | some e =>
      rw [q2] at p
      simp only at p
      obtain ⟨dn, bf, bi⟩ := ht k e q2
      obtain ⟨f, fd, ps, hs, hf, hfn, hnp, F, B⟩ := dn.ex
      obtain rfl : vv = Value.ref a := r1
      obtain ⟨ox, od, J⟩ := ins_look I ha
      obtain ⟨m0, Fr0⟩ := I.fr
      have run : ∀ {y' : D}, Den X.K G c.As c.F y' w → Post X.K G (PDen X.K G) (fun cls dx H' => W cls dx σ H') c H (e.m [x, y'] c.st) Q → wpAny (model X.prog X.w) X.A (call (.ref f) [.ref a, uu]) (PySem.W.CmpBack (EP X pins σ Q)) X.xe s := fun t2 p =>
        wpAny_mono (run_dun (A' := X.A) (us := [.ref a, uu]) F B hr I.env0 tk I (.cons (show RelV (V.ref a) (Value.ref a) from rfl) (.cons r2 .nil)) o (.cons t1 (.cons t2 .nil)) (by rw [hnp]; rfl) p) (fun u s' ⟨z, H', I', rz, qz⟩ => SlX.cmpback rz ⟨z, H', I', rz, qz⟩) fun _ _ z => z
      have own : ∀ {y' : D}, Den X.K G c.As c.F y' w → Post X.K G (PDen X.K G) (fun cls dx H' => W cls dx σ H') c H ((match insAt c.st y' with | some (c', _) => if c' = k then e.m [x, y'] c.st else .no | none => (.no : R D))) Q → wpAny (model X.prog X.w) X.A (binaryOp op (.ref a) uu) (EP X pins σ Q) X.xe s := fun {y'} t2 p9 => by
        clear p
        cases q3 : insAt c.st y' with
        | none => rw [q3] at p9; exact p9.elim
        | some kf' =>
          obtain ⟨k', fs'⟩ := kf'
          rw [q3] at p9
          simp only at p9
          by_cases hk : k' = k
          · rw [if_pos hk] at p9
            subst hk
            obtain ⟨b, dx', ws', rfl, hb, lb⟩ := DenT.insAt o (.inl t2) q3
            obtain rfl : uu = Value.ref b := r2
            obtain ⟨ox', od', J'⟩ := ins_look I hb
            exact PySem.W.binop_K Fr0 I.ok.mod.kin J J'.type bf.sf hs hf (run t2 p9)
          · rw [if_neg hk] at p9; exact p9.elim
      cases y with
      | int i =>
        simp only at p
        by_cases hi : e.i = true
        · rw [if_pos hi] at p
          obtain ⟨⟨rc, hrc, hp⟩, ⟨fo, hfo⟩, ⟨ro, hro⟩, sb⟩ := bi hi
          have hb : typeOf uu = pure (.type "int") := by
            cases t2
            obtain ⟨t, rfl⟩ := r2
            rfl
          exact PySem.W.ksp_binT Fr0 I.ok.mod.kin J hb bf.sf hs hf hrc hp hfo hro sb (run t2 p)
        · rw [if_neg hi] at p; exact p.elim
      | _ => exact own t2 p
/-! static methods -/
theorem Post.up {α β : Type} {K : PySem.W.Frag} {P : Cf → Hp → α → β → Prop} {E : XK} {c c' : Cf} {H H' : Hp} {r : R α} {Q : β → Hp → Prop} (x : Ext c H c' H') (p : Post K G P E c H r Q) : Post K G P E c' H' r Q := by
  cases r with
  | no => exact p
  | err e s => exact fun F' As' H2 cls dx y => p F' As' H2 cls dx (x.trans y)
  | ok a s => exact fun v F' As' H2 y => p v F' As' H2 (x.trans y)
structure SmOk (P : Program) (w : World) (K : PySem.W.Frag) (mg : Str → Option Value) (base : Heap) (G : ClsAt) (k : Nat) (c nm : Str) (fs : List Form) (np : Nat) (m : List D → M D) : Prop where
  ex : ∃ mc p f fd ps rest, PySem.W.readsIn K (G c) mc = true ∧ PySem.W.specialIn K (.ref (G c)) "__getattribute__" = some (some (.builtin "type.__getattribute__")) ∧ PySem.W.findCls K (.ref (G c)) mc nm = some (.get (.builtin "staticmethod.__get__") (.ref p) .none (.ref (G c))) ∧
    PySem.W.recIn K p "staticmethod" = some (.ref f :: rest) ∧ PySem.W.keepIn K (.ref f) = true ∧ ps.length = np ∧ FnOk P w K mg base (L2.CX P w) k f fd ps (spPV K G (rDen K G) ps.length m) ∧ ∀ e ∈ fs, Bnd K G fd ps e.1 e.2.1 e.2.2
  mg : mg c = some (.ref (G c))
theorem getsm_ok {pins : List (Addr × Obj)} {σ : L2.St} {H : Hp} {s : Shared} {C p f : Addr} {mc : Value} {nm : Str} {rest : List Value} {pl : Sem Bool} {A : Around} {E : Value → Shared → Prop} {Q : Value × List Value → Shared → Prop} (I : Inv X pins σ H s) (hr : PySem.W.readsIn X.K C mc = true)
    (hg : PySem.W.specialIn X.K (.ref C) "__getattribute__" = some (some (.builtin "type.__getattribute__"))) (e : PySem.W.findCls X.K (.ref C) mc nm = some (.get (.builtin "staticmethod.__get__") (.ref p) .none (.ref C))) (hp : PySem.W.recIn X.K p "staticmethod" = some (.ref f :: rest))
    (h : ∀ s', Inv X pins σ H s' → Q (.ref f, []) s') : wpAny (model X.prog X.w) A (getMethod (.ref C) nm pl) Q E s := by
  refine PySem.W.method_cls I.kIn hg (PySem.W.cls_bind I.kIn hr e (wpAny_call (PySem.W.sm_get (s := { s with toks := s.toks + 1 }) I.kIn hp (PySem.W.handed_on rfl ?_))))
  exact h _ (I.tok _)
abbrev eSm (n nk np : Nat) (gD : List D → List D → List D) (m : List D → M D) (fa fk : Env → M (List D)) : Env → M D := fun ρ => do let ds ← fa ρ; let dk ← fk ρ; callM n nk np gD m ds dk
abbrev eSm0 (nk np : Nat) (gD : List D → List D → List D) (m : List D → M D) (fk : Env → M (List D)) : Env → M D := fun ρ => do let dk ← fk ρ; callM 0 nk np gD m [] dk
variable {P : Program} {w : World} {K : PySem.W.Frag} {mg : Str → Option Value} {base : Heap} {N : List Str} {sc : Scope} {j k n np i : Nat} {ks : List Str} {fs : List Form} {gD : List D → List D → List D} {m : List D → M D} {C : Str}
theorem ve_sm {nm : Str} {e : Expr} {es : List Expr} {kws : List Keyword} {fa fk : Env → M (List D)} {p apos pos : Pos} {pl : Sem Bool} (c : Ct P w K mg base N sc T j X W) (Sm : SmOk P w K mg base G k C nm fs np m) (hkj : k ≤ j) (tj : Nat) (hf : (n, ks, gD) ∈ fs) (ha : VA G X W (e :: es) fa) (hkw : VK2 G X W kws fk) (h : T[tj]? = some (C, .globalImplicit, i) := by rfl)
    (hst : starEach (e :: es) X.env = (false, eval e X.env) :: starEach es X.env := by rfl) (hall : (backToKw pos (keywordEach kws X.env)).all (·.1.isSome) = true := by rfl) (hks : (backToKw pos (keywordEach kws X.env)).filterMap (·.1) = ks := by rfl)
    (hpl : ((backTo pos (starEach (e :: es) X.env)).any (·.1) || (backToKw pos (keywordEach kws X.env)).any (·.1.isNone)) = false := by rfl)
    (hte : eval (.Call (.Attribute (.Name C p) nm apos) (e :: es) kws pos) X.env = (do
      let ov ← eval (.Name C p) X.env
      standAt apos.atName
      let (f, first) ← holding [ov] (getMethod ov nm pl)
      callWith pos f first (backTo pos (starEach (e :: es) X.env)) (backToKw pos (keywordEach kws X.env))) := by rfl) :
    VE G X W (.Call (.Attribute (.Name C p) nm apos) (e :: es) kws pos) (eSm n ks.length np gD m fa fk) := by
  obtain ⟨⟨hP, hw, hK, hmg, hb⟩, on, hN, hs, nd, kd, hr, tk⟩ := c
  subst hP hw hK hmg hb
  obtain ⟨mc, pp, f, fd, ps, rest, r1, r2, r3, r4, kp, hnp, F, B⟩ := Sm.ex
  have cls : VE G X W (.Name C p) (fun _ => pure (.cls C)) := ve_gcls Sm.mg (on.gl h) (on.dbg h)
  refine ⟨fun pins s σ H Q I hh => ?_⟩
  obtain ⟨H0, ρ, c, o, sl, p⟩ := hh
  have st : tV X.K G W (fun _ => pure (.cls C)) σ H fun v H1 => v = .ref (G C) ∧ tL X.K G W fa σ H1 fun vs H2 => tL X.K G W fk σ H2 fun zs H3 => tCalE X.K G W (rDen X.K G) n ks.length ps.length gD m σ vs zs H3 Q := by
    refine ⟨H0, ρ, c, o, sl, fun v F' As' H' x o' t => ⟨by cases t; rfl, ?_⟩⟩
    refine tL_step rfl o' (sl.ext x) (Post.up x p) fun ds vs c2 H2 x2 o2 sl2 t2 p2 => tL_step rfl o2 sl2 p2 fun dk zs c3 H3 x3 o3 sl3 t3 p3 => ?_
    have p3 : Post X.K G (PDen X.K G) _ c3 H3 ((if ds.length = n ∧ dk.length = ks.length ∧ (gD ds dk).length = np then m (gD ds dk) else no) c3.st) Q := p3
    by_cases hc : ds.length = n ∧ dk.length = ks.length ∧ (gD ds dk).length = np
    · rw [if_pos hc] at p3
      exact ⟨c3, ds, dk, o3, t2.mono x3.sub x3.pre, t3, hc.1, hc.2.1, by rw [hnp]; exact hc.2.2, p3⟩
    · rw [if_neg hc] at p3; exact p3.elim
  refine PySem.W.methodCall_KW (pl := pl) (thn (cls.run pins s σ H _ I st) fun u s1 ⟨x, H1, I1, rx, ex, q⟩ => ?_) hte
  subst ex
  obtain rfl : u = Value.ref (G C) := rx
  refine getsm_ok I1 r1 r2 r3 r4 fun s2 I2 => ?_
  refine PySem.W.callWith_KW (first := []) (h₀ := X.base) I.ok.mod.kin kp hall (thn (ha.run pos pins s2 σ H1 _ I2 q) fun us s3 ⟨vs, H2, I3, r, q2⟩ => ?_) hpl hst
  refine thn (hkw.run pos pins s3 σ H2 _ I3 q2) fun ws s4 ⟨zs, H3, I4, rz, c, ds, dk, o, l, lk, h1, h2, hl, p⟩ => ⟨I4.kIn, ?_⟩
  rw [hks]
  exact run_cal F (B _ hf) (hr.mono hkj) tk I4 r rz o l lk h1 h2 p hl
theorem ve_sm0 {nm : Str} {kws : List Keyword} {fk : Env → M (List D)} {p apos pos : Pos} {pl : Sem Bool} (c : Ct P w K mg base N sc T j X W) (Sm : SmOk P w K mg base G k C nm fs np m) (hkj : k ≤ j) (tj : Nat) (hf : (0, ks, gD) ∈ fs) (hkw : VK2 G X W kws fk) (h : T[tj]? = some (C, .globalImplicit, i) := by rfl)
    (hall : (backToKw pos (keywordEach kws X.env)).all (·.1.isSome) = true := by rfl) (hks : (backToKw pos (keywordEach kws X.env)).filterMap (·.1) = ks := by rfl)
    (hpl : ((backTo pos (starEach ([] : List Expr) X.env)).any (·.1) || (backToKw pos (keywordEach kws X.env)).any (·.1.isNone)) = false := by rfl)
    (hte : eval (.Call (.Attribute (.Name C p) nm apos) [] kws pos) X.env = (do
      let ov ← eval (.Name C p) X.env
      standAt apos.atName
      let (f, first) ← holding [ov] (getMethod ov nm pl)
      callWith pos f first (backTo pos (starEach [] X.env)) (backToKw pos (keywordEach kws X.env))) := by rfl) :
    VE G X W (.Call (.Attribute (.Name C p) nm apos) [] kws pos) (eSm0 ks.length np gD m fk) := by
  obtain ⟨⟨hP, hw, hK, hmg, hb⟩, on, hN, hs, nd, kd, hr, tk⟩ := c
  subst hP hw hK hmg hb
  obtain ⟨mc, pp, f, fd, ps, rest, r1, r2, r3, r4, kp, hnp, F, B⟩ := Sm.ex
  have cls : VE G X W (.Name C p) (fun _ => pure (.cls C)) := ve_gcls Sm.mg (on.gl h) (on.dbg h)
  refine ⟨fun pins s σ H Q I hh => ?_⟩
  obtain ⟨H0, ρ, c, o, sl, p⟩ := hh
  have st : tV X.K G W (fun _ => pure (.cls C)) σ H fun v H1 => v = .ref (G C) ∧ tL X.K G W fk σ H1 fun zs H3 => tCalE X.K G W (rDen X.K G) 0 ks.length ps.length gD m σ [] zs H3 Q := by
    refine ⟨H0, ρ, c, o, sl, fun v F' As' H' x o' t => ⟨by cases t; rfl, ?_⟩⟩
    refine tL_step rfl o' (sl.ext x) (Post.up x p) fun dk zs c3 H3 x3 o3 sl3 t3 p3 => ?_
    have p3 : Post X.K G (PDen X.K G) _ c3 H3 ((if ([] : List D).length = 0 ∧ dk.length = ks.length ∧ (gD [] dk).length = np then m (gD [] dk) else no) c3.st) Q := p3
    by_cases hc : ([] : List D).length = 0 ∧ dk.length = ks.length ∧ (gD [] dk).length = np
    · rw [if_pos hc] at p3
      exact ⟨c3, [], dk, o3, .nil, t3, hc.1, hc.2.1, by rw [hnp]; exact hc.2.2, p3⟩
    · rw [if_neg hc] at p3; exact p3.elim
  refine PySem.W.methodCall_KW (pl := pl) (thn (cls.run pins s σ H _ I st) fun u s1 ⟨x, H1, I1, rx, ex, q⟩ => ?_) hte
  subst ex
  obtain rfl : u = Value.ref (G C) := rx
  refine getsm_ok I1 r1 r2 r3 r4 fun s2 I2 => ?_
  refine PySem.W.callWith_KW0 (first := []) (h₀ := X.base) I.ok.mod.kin kp hall ?_ hpl
  refine thn (hkw.run pos pins s2 σ H1 _ I2 q) fun ws s4 ⟨zs, H3, I4, rz, c, ds, dk, o, l, lk, h1, h2, hl, p⟩ => ⟨I4.kIn, ?_⟩
  rw [hks]
  exact run_cal F (B _ hf) (hr.mono hkj) tk I4 .nil rz o l lk h1 h2 p hl
/-! what is never raised -/
def sNo : SM := fun _ _ => .no
theorem vs_no {s : Stmt} : VS G X W RP s sNo := ⟨fun _ _ _ _ _ _ ⟨_, _, _, _, _, _, _, p⟩ => p.elim⟩
theorem vss_no {s : List Stmt} : VSs G X W RP s sNo := ⟨fun _ _ _ _ _ _ ⟨_, _, _, _, _, _, _, p⟩ => p.elim⟩
end
/-! defaults -/
/-- a form of call: the written ones, then the defaults -/
def fmtX (dd : List D) (is : List Nat) : List D → List D → List D := fun ds dk => pk is (ds ++ dk ++ dd)
theorem bndX {K : PySem.W.Frag} {G : ClsAt} {x qual : Str} {params : Arguments} {body : List Stmt} {scope : Scope} {dvs : List V} {kws : List (Str × V)} {f : Addr} {fd : FuncData} {ps : List Str} (F : FunD K x qual params body scope dvs kws f fd) (n : Nat) (ks : List Str) (dd : List D) (is : List Nat) (hd : dvs ≠ []) (hdd : ∀ {As : List Addr} {F : Hp}, DenL K G As F dd dvs)
    (h : ∀ (T : Addr) (kV doc pm : Value) (an : Option Addr) (cdv ct : Value) (us its ws : List Value), us.length = n → its.length = dvs.length → ws.length = ks.length →
      ∃ k, bindArgs (PySem.W.fnOf x qual params body scope (.ref T) kV doc pm an cdv ct) ⟨us, ks.zip ws⟩ = seqItems? (.ref T) >>= k ∧ k (some its.toArray) = pure (ps.zip (pk is (us ++ ws ++ its)))) : Bnd K G fd ps n ks (fmtX dd is) := by
  obtain ⟨its, kb⟩ := FunD.kbindsD F n ks (fun {α} us its ws => pk is (us ++ ws ++ its)) hd (fun r1 r2 r3 => pk_vals (Vals.app (Vals.app r1 r3) r2) is) h
  exact ⟨_, _, kb, fun h1 h2 l1 l2 => pk_den ((l1.app l2).app hdd) is⟩
end PV
end

section
/-! what is seen of the program where it stands -/
namespace PV
open PySem PySem.Spec L2
open PyProof.Rows hiding St
/-- a def wherever it stands -/
structure DP where
  ad : PySem.W.Frag → Addr
  d : He.DefD
def seenF (K : PySem.W.Frag) (a : Addr) : He.FnW := match K.lookup a with
  | some o => match o.data with
    | .func fd => some (fd.name, fd.qualname, fd.params, fd.body, fd.scope, fd.globals, fd.closure, fd.builtins)
    | _ => none
  | none => none
def DP.ok (K : PySem.W.Frag) (p : DP) : Bool := PySem.W.keepIn K (.ref (p.ad K)) && match K.lookup (p.ad K) with
  | some o => match o.data with
    | .func fd => PySem.W.codeIn K fd.code p.d.qual && (He.dflB K fd.defaults (p.d.dvs K) && He.kwdB K fd.kwdefaults (p.d.kws K))
    | _ => false
  | none => false
theorem DP.funD {K : PySem.W.Frag} {p : DP} (e : seenF K (p.ad K) = p.d.val) (c : p.ok K = true) : ∃ fd, FunD K p.d.name p.d.qual p.d.params p.d.body p.d.scope (p.d.dvs K) (p.d.kws K) (p.ad K) fd := by
  obtain ⟨kp, c2⟩ := Bool.and_eq_true_iff.mp c
  unfold seenF at e
  cases q : K.lookup (p.ad K) with
  | none => rw [q] at c2; cases c2
  | some o =>
    rw [q] at c2 e
    obtain ⟨oc, od, dt, osl⟩ := o
    simp only at c2 e
    cases dt with
    | func fd =>
      simp only at c2 e
      obtain ⟨c3, c4⟩ := Bool.and_eq_true_iff.mp c2
      obtain ⟨c5, c6⟩ := Bool.and_eq_true_iff.mp c4
      obtain ⟨n1, n2, n3, n4, n5, n6, n7, n8, n9, n10, n11, n12, n13, n14, n15⟩ := fd
      have e2 := e
      unfold He.DefD.val at e2
      simp only [Option.some.injEq, Prod.mk.injEq] at e2
      obtain ⟨h1, h2, h3, h4, h5, h6, h7, h8⟩ := e2
      subst h1 h2 h3 h4 h5 h6 h7 h8
      exact ⟨_, ⟨oc, od, n8, n9, n10, n11, n12, n13, n14, osl, rfl, q, c3, He.dflB_ok c5, He.kwdB_ok c6⟩, kp⟩
    | _ => cases c2
abbrev FB := PySem.W.Frag → Bool
def obP (fa : List FB) (fn : List DP) (K : PySem.W.Frag) : He.AlD := ((fa.all fun f => f K) && fn.all fun d => d.ok K, fn.map fun d => seenF K (d.ad K))
def vaP (fn : List DP) : He.AlD := (true, fn.map fun d => d.d.val)
def SaysP (fa : List FB) (fn : List DP) (K : PySem.W.Frag) : Prop := obP fa fn K = vaP fn
def obPG (n : Nat) (fa : List FB) (fn : List DP) (g : Addr → Option Obj) : He.AlD := obP fa fn (He.frG g (cStatics :: He.asD g n))
def hkP (n : Nat) (fa : List FB) (fn : List DP) : PySem.W.Hook where
  α := He.AlD
  obs := fun s => obPG n fa fn s.heap.get?
  val := fun _ => vaP fn
  says := fun _ h => ∃ K : PySem.W.Frag, K.In h ∧ SaysP fa fn K
  of := fun _ _ e => ⟨_, He.frG_in, e⟩
  keeps := fun _ _ _ ⟨K, hK, c⟩ k => ⟨K, PySem.W.Frag.In.keeps hK k, c⟩
theorem obPG_eq {n : Nat} {fa : List FB} {fn : List DP} {g : Addr → Option Obj} {s : Shared} (h : ∀ a, g a = s.heap.get? a) : obPG n fa fn g = (hkP n fa fn).obs s := by
  have e : g = s.heap.get? := funext h
  rw [e]; rfl
section
variable {fa : List FB} {fn : List DP} {K : PySem.W.Frag}
theorem SaysP.fact (c : SaysP fa fn K) (i : Nat) {f : FB} (h : fa[i]? = some f := by rfl) : f K = true := by
  have c0 : ((fa.all fun f => f K) && fn.all fun d => d.ok K) = true := congrArg (fun z : He.AlD => z.1) c
  exact List.all_eq_true.mp (Bool.and_eq_true_iff.mp c0).1 f (List.mem_of_getElem? h)
theorem SaysP.def_ (c : SaysP fa fn K) (i : Nat) {d : DP} (h : fn[i]? = some d := by rfl) : ∃ fd, FunD K d.d.name d.d.qual d.d.params d.d.body d.d.scope (d.d.dvs K) (d.d.kws K) (d.ad K) fd := by
  have c0 : ((fa.all fun f => f K) && fn.all fun d => d.ok K) = true := congrArg (fun z : He.AlD => z.1) c
  have e : fn.map (fun d => seenF K (d.ad K)) = fn.map fun d => d.d.val := congrArg (fun z : He.AlD => z.2) c
  have e2 : (fn.map fun d => seenF K (d.ad K))[i]? = (fn.map fun d => d.d.val)[i]? := by rw [e]
  rw [List.getElem?_map, List.getElem?_map, h] at e2
  exact DP.funD (Option.some.inj e2) (List.all_eq_true.mp (Bool.and_eq_true_iff.mp c0).2 d (List.mem_of_getElem? h))
end
/-! addresses -/
abbrev gaA (x : Str) : PySem.W.Frag → Addr := fun K => He.ga K x
abbrev maA (x m : Str) : PySem.W.Frag → Addr := fun K => He.ma K (He.ga K x) m
def recHd (K : PySem.W.Frag) (p : Addr) (T : String) : Addr := match PySem.W.recIn K p T with
  | some (.ref g :: _) => g
  | _ => 0
abbrev prA (x m : Str) : PySem.W.Frag → Addr := fun K => recHd K (maA x m K) "property"
abbrev smA (x m : Str) : PySem.W.Frag → Addr := fun K => recHd K (maA x m K) "staticmethod"
theorem recHd_ok {K : PySem.W.Frag} {p : Addr} {T : String} (h : (match PySem.W.recIn K p T with | some (.ref _ :: _) => true | _ => false) = true) : ∃ rest, PySem.W.recIn K p T = some (.ref (recHd K p T) :: rest) := by
  unfold recHd
  split at h
  · rename_i g rest e; rw [e]; exact ⟨rest, rfl⟩
  · cases h
/-! facts -/
def bFa (f : He.Fa) : FB := fun K => f.ok K
def bDun (x m : Str) : FB := fun K => He.eqO (PySem.W.findIn K (.ref (He.ga K x)) m) (some (some (.ref (maA x m K)))) && (PySem.W.isFn K (.ref (maA x m K)) && PySem.W.fnIn K (maA x m K))
theorem bDun_ok {x m : Str} {K : PySem.W.Frag} (h : bDun x m K = true) : PySem.W.findIn K (.ref (He.ga K x)) m = some (some (.ref (maA x m K))) ∧ PySem.W.isFn K (.ref (maA x m K)) = true ∧ PySem.W.fnIn K (maA x m K) = true := by
  obtain ⟨h1, h2⟩ := Bool.and_eq_true_iff.mp h
  obtain ⟨h3, h4⟩ := Bool.and_eq_true_iff.mp h2
  exact ⟨He.eqO_ok h1, h3, h4⟩
def bPro (x m : Str) : FB := fun K => He.eqO (PySem.W.findIn K (.ref (He.ga K x)) m) (some (some (.ref (maA x m K)))) && (He.eqO (PySem.W.specialIn K (.ref (maA x m K)) "__get__") (some (some (.builtin "property.__get__"))) &&
  (decide (PySem.W.takesIn K (.ref (maA x m K)) = some true) && (match PySem.W.recIn K (maA x m K) "property" with | some (.ref _ :: _) => true | _ => false)))
theorem bPro_ok {x m : Str} {K : PySem.W.Frag} (h : bPro x m K = true) : PropOf K (He.ga K x) m (maA x m K) (prA x m K) := by
  obtain ⟨h1, h2⟩ := Bool.and_eq_true_iff.mp h
  obtain ⟨h3, h4⟩ := Bool.and_eq_true_iff.mp h2
  obtain ⟨h5, h6⟩ := Bool.and_eq_true_iff.mp h4
  exact ⟨He.eqO_ok h1, He.eqO_ok h3, of_decide_eq_true h5, recHd_ok h6⟩
def mcOf (K : PySem.W.Frag) (a : Addr) : Value := match PySem.W.typeIn K (.ref a) with
  | some v => v
  | none => .none
def isSmGet (K : PySem.W.Frag) (C : Addr) (m : Str) (p : Addr) : Bool := match PySem.W.findCls K (.ref C) (mcOf K C) m with
  | some (.get (.builtin i) (.ref q) .none (.ref D)) => decide (i = "staticmethod.__get__") && (decide (q = p) && decide (D = C))
  | _ => false
theorem isSmGet_ok {K : PySem.W.Frag} {C p : Addr} {m : Str} (h : isSmGet K C m p = true) : PySem.W.findCls K (.ref C) (mcOf K C) m = some (.get (.builtin "staticmethod.__get__") (.ref p) .none (.ref C)) := by
  unfold isSmGet at h
  split at h
  · rename_i i q D e
    obtain ⟨h1, h2⟩ := Bool.and_eq_true_iff.mp h
    obtain ⟨h3, h4⟩ := Bool.and_eq_true_iff.mp h2
    rw [e, of_decide_eq_true h1, of_decide_eq_true h3, of_decide_eq_true h4]
  · cases h
def bSm (x m : Str) : FB := fun K => PySem.W.readsIn K (He.ga K x) (mcOf K (He.ga K x)) && (He.eqO (PySem.W.specialIn K (.ref (He.ga K x)) "__getattribute__") (some (some (.builtin "type.__getattribute__"))) && (isSmGet K (He.ga K x) m (maA x m K) &&
  (PySem.W.keepIn K (.ref (smA x m K)) && (match PySem.W.recIn K (maA x m K) "staticmethod" with | some (.ref _ :: _) => true | _ => false))))
theorem bSm_ok {x m : Str} {K : PySem.W.Frag} (h : bSm x m K = true) : ∃ mc p rest, PySem.W.readsIn K (He.ga K x) mc = true ∧ PySem.W.specialIn K (.ref (He.ga K x)) "__getattribute__" = some (some (.builtin "type.__getattribute__")) ∧
    PySem.W.findCls K (.ref (He.ga K x)) mc m = some (.get (.builtin "staticmethod.__get__") (.ref p) .none (.ref (He.ga K x))) ∧ PySem.W.recIn K p "staticmethod" = some (.ref (smA x m K) :: rest) ∧ PySem.W.keepIn K (.ref (smA x m K)) = true := by
  obtain ⟨h1, h2⟩ := Bool.and_eq_true_iff.mp h
  obtain ⟨h3, h4⟩ := Bool.and_eq_true_iff.mp h2
  obtain ⟨h5, h6⟩ := Bool.and_eq_true_iff.mp h4
  obtain ⟨h7, h8⟩ := Bool.and_eq_true_iff.mp h6
  obtain ⟨rest, e⟩ := recHd_ok h8
  exact ⟨_, _, rest, h1, He.eqO_ok h3, isSmGet_ok h5, e, h7⟩
def bSelf (x : Str) : FB := fun K => PySem.W.selfFirst K (He.ga K x)
def isRefO : Option (Option Value) → Bool
  | some none => true
  | some (some (.ref _)) => true
  | _ => false
def bBinI (x : Str) (nm : String) : FB := fun K => isRefO (PySem.W.findIn K (.ref (He.ga K x)) (dunderR nm)) && ((PySem.W.findIn K (.type "int") (PySem.dunder nm)).isSome && ((PySem.W.findIn K (.type "int") (dunderR nm)).isSome && decide (PySem.W.subIn K (.type "int") (.ref (He.ga K x)) = some false)))
theorem bBinI_ok {x : Str} {nm : String} {K : PySem.W.Frag} (h : bBinI x nm K = true) : BinI K (He.ga K x) nm := by
  obtain ⟨h1, h2⟩ := Bool.and_eq_true_iff.mp h
  obtain ⟨h3, h4⟩ := Bool.and_eq_true_iff.mp h2
  obtain ⟨h5, h6⟩ := Bool.and_eq_true_iff.mp h4
  refine ⟨?_, Option.isSome_iff_exists.mp h3, Option.isSome_iff_exists.mp h5, of_decide_eq_true h6⟩
  unfold isRefO at h1
  split at h1
  · rename_i e; exact ⟨none, e, .inl rfl⟩
  · rename_i g e; exact ⟨_, e, .inr ⟨g, rfl⟩⟩
  · cases h1
def inT (l : List Tag) : Tag → Bool := fun t => l.any fun u => decide (u = t)
theorem inT_mem {l : List Tag} {t : Tag} (h : inT l t = true) : t ∈ l := by
  obtain ⟨u, h1, h2⟩ := List.any_eq_true.mp h
  rw [← of_decide_eq_true h2]; exact h1
def bNf (x : Str) (l : List Tag) : FB := fun K => l.all fun t => PySem.W.notFirst K (He.ga K x) (tagV (He.ga K) t)
theorem bNf_ok {x : Str} {l : List Tag} {K : PySem.W.Frag} (h : bNf x l K = true) : NFirst K (He.ga K) x (inT l) := fun t e => List.all_eq_true.mp h t (inT_mem e)
def bClsF (x : Str) : FB := fun K => (He.Fa.cls x).ok K && (He.eqO (PySem.W.findIn K (.ref (He.ga K x)) "__class__") (some (some (.builtin "object.__class__"))) && (He.eqO (PySem.W.specialIn K (.builtin "object.__class__") "__get__") (some (some (.builtin "getset_descriptor.__get__"))) &&
  (decide (PySem.W.takesIn K (.builtin "object.__class__") = some true) && decide (PySem.W.mroIn K (He.ga K x) (.type "object") = some true))))
theorem bClsF_ok {x : Str} {K : PySem.W.Frag} (h : bClsF x K = true) : ClsF K (He.ga K x) := by
  obtain ⟨h1, h2⟩ := Bool.and_eq_true_iff.mp h
  obtain ⟨h3, h4⟩ := Bool.and_eq_true_iff.mp h2
  obtain ⟨h5, h6⟩ := Bool.and_eq_true_iff.mp h4
  obtain ⟨h7, h8⟩ := Bool.and_eq_true_iff.mp h6
  exact ⟨He.cls_ok h1, He.eqO_ok h3, He.eqO_ok h5, of_decide_eq_true h7, of_decide_eq_true h8⟩
def bNe (x : Str) : FB := fun K => decide (PySem.W.mroIn K (He.ga K x) (.type "object") = some true) && He.eqO (PySem.W.findIn K (.ref (He.ga K x)) "__ne__") (some (some (.builtin "object.__ne__")))
theorem bNe_ok {x : Str} {K : PySem.W.Frag} (h : bNe x K = true) : NeF K (He.ga K x) := by
  obtain ⟨h1, h2⟩ := Bool.and_eq_true_iff.mp h
  exact ⟨of_decide_eq_true h1, He.eqO_ok h2⟩
/-- isinstance of an own class, by a table of the types that are asked -/
def sbTab (l : List (Tag × Bool)) : Sub1 := fun t => (l.find? fun p => decide (p.1 = t)).map (·.2)
def bSub (x : Str) (l : List (Tag × Bool)) : FB := fun K => l.all fun p => decide (PySem.W.kitOne K (tagV (He.ga K) p.1) (.ref (He.ga K x)) = some p.2)
theorem sbTab_mem {l : List (Tag × Bool)} {t : Tag} {b : Bool} (h : sbTab l t = some b) : (t, b) ∈ l := by
  unfold sbTab at h
  cases e : l.find? fun p => decide (p.1 = t) with
  | none => rw [e] at h; cases h
  | some p =>
    rw [e] at h
    cases h
    have h1 := List.mem_of_find?_eq_some e
    have h2 : p.1 = t := by simpa using List.find?_some e
    rw [← h2]; exact h1
theorem bSub_ok {x : Str} {l : List (Tag × Bool)} {K : PySem.W.Frag} (h : bSub x l K = true) (ho : ∀ k b, (Sum.inr k, b) ∈ l → ClsF K (He.ga K k)) : SubOk K (He.ga K) (.ref (He.ga K x)) (sbTab l) where
  ok := fun t b e => of_decide_eq_true (List.all_eq_true.mp h (t, b) (sbTab_mem e))
  own := fun k b e => ho k b (sbTab_mem e)
end PV
end

section
/-! more statements, tables -/
namespace PV
open PySem PySem.Spec L2
open PyProof.Rows hiding St
/-! a text, several times -/
theorem rep_size (a : Array Nat) : ∀ (m : Nat) (acc : Array Nat), ((List.replicate m a).foldl (· ++ ·) acc).size = acc.size + m * a.size
  | 0, acc => by simp
  | m + 1, acc => by
    rw [List.replicate_succ, List.foldl_cons, rep_size a m, Array.size_append, Nat.succ_mul]; omega
def repS (s : Str) (n : Nat) : Str := ⟨(List.replicate n s.cps).foldl (· ++ ·) #[]⟩
def mulX (x y : D) : M D := match x, y with
  | .str s, .int k => if 2 ≤ k ∧ k ≤ 1000 ∧ 0 < s.length ∧ s.length ≤ 1000 then pure (.str (repS s k.toNat)) else no
  | x, y => mulD x y
def rMulS : R2 := fun x y H Q => ∃ (s : Str) (k : Int), x = .str s ∧ y = .int k ∧ (2 ≤ k ∧ k ≤ 1000 ∧ 0 < s.length ∧ s.length ≤ 1000) ∧ Q (.str (repS s k.toNat)) H
section
variable {X : Cx} {G : ClsAt} {W : WX} {RP : RPT} {T : NT}
theorem op_mulS : OpR X (binaryOp .Mult) rMulS := by
  intro pins s σ H x y v u Q I rx ry h
  obtain ⟨z, k, rfl, rfl, ⟨h1, h2, h3, h4⟩, q⟩ := h
  obtain ⟨t, rfl⟩ := rx
  obtain ⟨t2, rfl⟩ := ry
  have hk : ¬ k < 1 := by omega
  have e1 : (k == 1 || z.length == 0) = false := by
    have a1 : (k == 1) = false := by simpa using (show ¬ k = 1 by omega)
    have a2 : (z.length == 0) = false := by simpa using (show ¬ z.length = 0 by omega)
    rw [a1, a2]; rfl
  refine PySem.P.mul_str ?_ (fun _ _ => ?_) (fun _ _ => ?_) ?_
  · have g1 : ¬ k < -(2 ^ 63 : Int) := by omega
    have g2 : ¬ k ≥ 2 ^ 63 := by omega
    rw [decide_eq_false g1, decide_eq_false g2]; rfl
  · have : (2 ^ 63 - 1 : Int) / 1000 ≤ (2 ^ 63 - 1) / k := by
      refine Int.le_ediv_of_mul_le (by omega) ?_
      have : (2 ^ 63 - 1 : Int) / 1000 * k ≤ (2 ^ 63 - 1 : Int) / 1000 * 1000 := Int.mul_le_mul_of_nonneg_left h2 (by decide)
      exact Int.le_trans this (by decide)
    have g : ((z.length : Nat) : Int) ≤ 1000 := by omega
    have g2 : (1000 : Int) ≤ (2 ^ 63 - 1 : Int) / 1000 := by decide
    omega
  · have g : z.length * k.toNat ≤ 1000 * 1000 := Nat.mul_le_mul h4 (by omega)
    have : z.length * k.toNat ≤ sizeLine := Nat.le_trans g (by decide)
    show decide (z.length * k.toNat > sizeLine) = false
    exact decide_eq_false (by omega)
  · rw [if_neg hk, e1]
    refine ⟨?_, .str _, H, I.tok _, ⟨_, rfl⟩, q⟩
    have g : z.length * k.toNat ≤ 1000 * 1000 := Nat.mul_le_mul h4 (by omega)
    show (repS z k.toNat).cps.size ≤ sizeLine
    unfold repS
    rw [rep_size]
    refine Nat.le_trans (?_ : _ ≤ 1000 * 1000) (by decide)
    have : (#[] : Array Nat).size = 0 := rfl
    rw [this, Nat.zero_add, Nat.mul_comm]; exact g
def rMulX : R2 := fun x y H Q => (rI CMulW fun i j => .int (i * j)) x y H Q ∨ rMulS x y H Q
theorem op_mulX2 : OpR X (binaryOp .Mult) rMulX := op_mulW.or op_mulS
theorem h_mulX : Op2 X G rMulX (P0 X G) mulX := by
  intro c H x y v w E Q o tx ty p
  unfold mulX at p
  split at p
  · rename_i s k
    obtain ⟨hz, p⟩ := post_if p
    exact .inr ⟨s, k, tx.str, ty.int, hz, p.here o (fun _ _ h => h) .str⟩
  · exact .inl (h_mul c H _ _ v w E Q o tx ty p)
/-! a, b, c = x, y, z -/
def sPar3 (i j l : Nat) (w1 w2 w3 : Bool) (f g h : Env → M D) : SM := fun ρ s => sB (f ρ) ρ (fun d s1 => sB (g ρ) ρ (fun d' s2 => sB (h ρ) ρ (fun d2 s3 => .nx (((ρ.set i (slotOf w1 d)).set j (slotOf w2 d')).set l (slotOf w3 d2)) s3) s2) s1) s
theorem ps_par3V {i j l : Nat} {x y z : Str} {a b c : Expr} {f g h : Env → M D} {w1 w2 w3 : Bool} {px py pz pt pos : Pos} {kt k2 pt2} (on : On X T) (jx jy jz : Nat) (ha : PE X a (tNV X.K G w1 W f)) (hb : PE X b (tNV X.K G w2 W g)) (hc : PE X c (tNV X.K G w3 W h))
    (hx : T[jx]? = some (x, .local, i) := by rfl) (hy : T[jy]? = some (y, .local, j) := by rfl) (hz : T[jz]? = some (z, .local, l) := by rfl) (hij : i ≠ j := by decide) (hil : i ≠ l := by decide) (hjl : j ≠ l := by decide)
    (hst : starEach [a, b, c] X.env = (false, eval a X.env) :: starEach [b, c] X.env := by rfl) (hst2 : starEach [b, c] X.env = (false, eval b X.env) :: starEach [c] X.env := by rfl) (hst3 : starEach [c] X.env = [(false, eval c X.env)] := by rfl)
    (hw : swappedStores [.Tuple [.Name x px, .Name y py, .Name z pz] kt pt] (.Tuple [a, b, c] k2 pt2) X.env = pure (some [x, y, z]))
    (hs : swapsWithSole [.Tuple [.Name x px, .Name y py, .Name z pz] kt pt] (.Tuple [a, b, c] k2 pt2) pos.line X.env = pure false := by rfl) :
    VS G X W RP (.Assign [.Tuple [.Name x px, .Name y py, .Name z pz] kt pt] (.Tuple [a, b, c] k2 pt2) pos) (sPar3 i j l w1 w2 w3 f g h) :=
  PS.imp (ps_par3 on.calm on.nd (on.at hx rfl) (on.at hy rfl) (on.at hz rfl) hij hil hjl (on.kind hx) (on.kind hy) (on.kind hz) (pa_cons ha (pa_cons hb (pa_cons hc pa_nil hst3) hst2) hst) hw hs) fun D σ H ⟨c0, H0, ρ, c, x, o, sl, p⟩ => by
    refine ⟨H0, ρ, c, o, sl, s_step x sl p fun d v c1 H1 x1 x1' o1 sl1 t1 p1 => ⟨H0, ρ, c1, o1, sl1, s_step x1' sl1 p1 fun d' v' c2 H2 x2 x2' o2 sl2 t2 p2 => ⟨H0, ρ, c2, o2, sl2, s_step x2' sl2 p2 fun d3 v3 c3 H3 x3 x3' o3 sl3 t3 p3 => ⟨v, v', v3, rfl, p3 _ c3.F c3.As H3 x3' o3 ?_⟩⟩⟩⟩
    have s1 : Slots X.K G H0 c1 H1 (ρ.set i (slotOf w1 d)) (σ.set i (some v)) := Slots.vn sl sl1 i t1 fun a h => x.none h
    have s2 : Slots X.K G H0 c2 H2 ((ρ.set i (slotOf w1 d)).set j (slotOf w2 d')) ((σ.set i (some v)).set j (some v')) := Slots.vn s1 (s1.ext x2) j t2 fun a h => x1'.none h
    exact Slots.vn s2 (s2.ext x3) l t3 fun a h => x2'.none h
end
/-! tables -/
section
variable {α : Type} {P : Str → α → Prop}
theorem tb_nil : ∀ k e, ([] : List (Str × α)).lookup k = some e → P k e := fun _ _ h => by cases h
theorem tb_cons {c : Str} {e : α} {r : List (Str × α)} (h : P c e) (t : ∀ k e, r.lookup k = some e → P k e) : ∀ k e', ((c, e) :: r).lookup k = some e' → P k e' := fun k e' q => by
  rw [List.lookup_cons] at q
  cases z : (k == c) with
  | true =>
    rw [z] at q
    cases q
    rw [beq_iff_eq.mp z]
    exact h
  | false => rw [z] at q; exact t k e' q
end
section
variable {P : Program} {w : World} {K : PySem.W.Frag} {mg : Str → Option Value} {base : Heap} {G : ClsAt} {j k : Nat} {c nm : Str}
theorem MOk.up {n np : Nat} {ks : List Str} {gD : List D → List D → List D} {m : List D → M D} (h : MOk P w K mg base G k c nm n ks np gD m) (l : k ≤ j) : MOk P w K mg base G j c nm n ks np gD m :=
  ⟨h.cl, let ⟨f, fd, ps, a, b, F, B⟩ := h.ex; ⟨f, fd, ps, a, b, F.mono l, B⟩⟩
theorem DunOk.up {np : Nat} {m : List D → M D} (h : DunOk P w K mg base G k c nm np m) (l : k ≤ j) : DunOk P w K mg base G j c nm np m :=
  ⟨h.cl, let ⟨f, fd, ps, a, b, d, e, F, B⟩ := h.ex; ⟨f, fd, ps, a, b, d, e, F.mono l, B⟩⟩
theorem PropOk.up {m : List D → M D} (h : PropOk P w K mg base G k c nm m) (l : k ≤ j) : PropOk P w K mg base G j c nm m :=
  ⟨h.cl, let ⟨p, g, fd, ps, a, b, F, B⟩ := h.ex; ⟨p, g, fd, ps, a, b, F.mono l, B⟩⟩
end
/-- a callee's binding without defaults, by position -/
theorem binds_of {K : PySem.W.Frag} {G : ClsAt} {fd : FuncData} {ps : List Str} {n : Nat} {gD : List D → List D → List D} (h : Bnd K G fd ps n [] gD) : True := trivial
end PV
end

section
/-! the rules of own classes, at a context -/
namespace PV
open PySem PySem.Spec L2
open PyProof.Rows hiding St
section
variable {P : Program} {w : World} {K : PySem.W.Frag} {mg : Str → Option Value} {base : Heap} {N : List Str} {sc : Scope} {T : NT} {j k : Nat} {X : Cx} {W : WX} {G : ClsAt} {RP : RPT}
theorem ve_binC {tb : List (Str × OpT)} {a b : Expr} {f g : Env → M D} {op : Operator} {r : R2} {F2 : D → D → M D} {pos : Pos} (c : Ct P w K mg base N sc T j X W) (h1 : OpR X (binaryOp op) r) (h2 : Op2 X G r (P0 X G) F2)
    (ht : ∀ c e, tb.lookup c = some e → DunOk P w K mg base G j c (PySem.dunder op.info.2) 2 e.m ∧ BinF K (G c) ∧ (e.i = true → BinI K (G c) op.info.2)) (ha : VE G X W a f) (hb : VE G X W b g) : VE G X W (.BinOp a op b pos) (fun ρ => do let x ← f ρ; let y ← g ρ; dunOp tb F2 x y) := by
  obtain ⟨⟨hP, hw, hK, hmg, hbb⟩, on, hN, hs, nd, kd, hr, tk⟩ := c
  subst hP hw hK hmg hbb
  exact ve_opD (OpD.own (OpD.of h1 h2) hr tk ht) ha hb
abbrev EqTb (P : Program) (w : World) (K : PySem.W.Frag) (mg : Str → Option Value) (base : Heap) (G : ClsAt) (k : Nat) (c : Str) (e : EqT) : Prop := (∀ q, ClsF K (G q) ∨ e.ok (.inr q) = false) ∧ DunOk P w K mg base G k c "__eq__" 2 e.m ∧ NFirst K G c e.ok ∧ NeF K (G c)
theorem ve_eqC {tb : List (Str × EqT)} {a b : Expr} {f g : Env → M D} {r : R2} {F2 : D → D → M D} {pos : Pos} (c : Ct P w K mg base N sc T (j + 1) X W) (h1 : OpR X (compareOp .Eq) r) (h2 : Op2 X G r (P0 X G) F2) (ht : ∀ c e, tb.lookup c = some e → EqTb P w K mg base G j c e)
    (ha : VE G X W a f) (hb : VE G X W b g) : VE G X W (.Compare a [.Eq] [b] pos) (fun ρ => do let x ← f ρ; let y ← g ρ; dunEq tb F2 x y) := by
  obtain ⟨⟨hP, hw, hK, hmg, hbb⟩, on, hN, hs, nd, kd, hr, tk⟩ := c
  subst hP hw hK hmg hbb
  exact ve_cmpD (OpD.eq (OpD.of h1 h2) hr tk (fun c e q => (ht c e q).1) fun c e q => ⟨(ht c e q).2.1, (ht c e q).2.2.1⟩) ha hb
theorem ve_neC {tb : List (Str × EqT)} {a b : Expr} {f g : Env → M D} {r : R2} {F2 : D → D → M D} {pos : Pos} (c : Ct P w K mg base N sc T (j + 1) X W) (h1 : OpR X (compareOp .NotEq) r) (h2 : Op2 X G r (P0 X G) F2) (ht : ∀ c e, tb.lookup c = some e → EqTb P w K mg base G j c e)
    (ha : VE G X W a f) (hb : VE G X W b g) : VE G X W (.Compare a [.NotEq] [b] pos) (fun ρ => do let x ← f ρ; let y ← g ρ; dunNe tb F2 x y) := by
  obtain ⟨⟨hP, hw, hK, hmg, hbb⟩, on, hN, hs, nd, kd, hr, tk⟩ := c
  subst hP hw hK hmg hbb
  exact ve_cmpD (OpD.ne (OpD.of h1 h2) hr tk (fun c e q => (ht c e q).1) fun c e q => (ht c e q).2) ha hb
theorem vt_eqC {tb : List (Str × EqT)} {a b : Expr} {f g : Env → M D} {r : R2} {F2 : D → D → M D} {pos : Pos} (c : Ct P w K mg base N sc T (j + 1) X W) (h1 : OpR X (compareOp .Eq) r) (h2 : Op2 X G r (P0 X G) F2) (ht : ∀ c e, tb.lookup c = some e → EqTb P w K mg base G j c e)
    (ha : VE G X W a f) (hb : VE G X W b g) : VT G X W (.Compare a [.Eq] [b] pos) (fun ρ => do let x ← f ρ; let y ← g ρ; let z ← dunEq tb F2 x y; asB z) := by
  obtain ⟨⟨hP, hw, hK, hmg, hbb⟩, on, hN, hs, nd, kd, hr, tk⟩ := c
  subst hP hw hK hmg hbb
  exact vt_cmpD (OpD.eq (OpD.of h1 h2) hr tk (fun c e q => (ht c e q).1) fun c e q => ⟨(ht c e q).2.1, (ht c e q).2.2.1⟩) ha hb
theorem vt_neC {tb : List (Str × EqT)} {a b : Expr} {f g : Env → M D} {r : R2} {F2 : D → D → M D} {pos : Pos} (c : Ct P w K mg base N sc T (j + 1) X W) (h1 : OpR X (compareOp .NotEq) r) (h2 : Op2 X G r (P0 X G) F2) (ht : ∀ c e, tb.lookup c = some e → EqTb P w K mg base G j c e)
    (ha : VE G X W a f) (hb : VE G X W b g) : VT G X W (.Compare a [.NotEq] [b] pos) (fun ρ => do let x ← f ρ; let y ← g ρ; let z ← dunNe tb F2 x y; asB z) := by
  obtain ⟨⟨hP, hw, hK, hmg, hbb⟩, on, hN, hs, nd, kd, hr, tk⟩ := c
  subst hP hw hK hmg hbb
  exact vt_cmpD (OpD.ne (OpD.of h1 h2) hr tk (fun c e q => (ht c e q).1) fun c e q => (ht c e q).2) ha hb
theorem ve_inC {tb : DTb} {a b : Expr} {f g : Env → M D} {r : R2} {F2 : D → D → M D} {pos : Pos} (c : Ct P w K mg base N sc T j X W) (h1 : OpR X (compareOp .In) r) (h2 : Op2 X G r (P0 X G) F2) (ht : ∀ c m, tb.lookup c = some m → DunOk P w K mg base G j c "__contains__" 2 m)
    (ha : VE G X W a f) (hb : VE G X W b g) (hm : behindInMarks .In b = false := by first | exact nomark _ | rfl) : VE G X W (.Compare a [.In] [b] pos) (fun ρ => do let x ← f ρ; let y ← g ρ; dunIn tb F2 x y) := by
  obtain ⟨⟨hP, hw, hK, hmg, hbb⟩, on, hN, hs, nd, kd, hr, tk⟩ := c
  subst hP hw hK hmg hbb
  exact ve_cmpD (OpD.inn (OpD.of h1 h2) hr tk ht) ha hb hm
theorem ve_notInC {tb : DTb} {a b : Expr} {f g : Env → M D} {r : R2} {F2 : D → D → M D} {pos : Pos} (c : Ct P w K mg base N sc T j X W) (h1 : OpR X (compareOp .NotIn) r) (h2 : Op2 X G r (P0 X G) F2) (ht : ∀ c m, tb.lookup c = some m → DunOk P w K mg base G j c "__contains__" 2 m)
    (ha : VE G X W a f) (hb : VE G X W b g) (hm : behindInMarks .NotIn b = false := by first | exact nomark _ | rfl) : VE G X W (.Compare a [.NotIn] [b] pos) (fun ρ => do let x ← f ρ; let y ← g ρ; dunNotIn tb F2 x y) := by
  obtain ⟨⟨hP, hw, hK, hmg, hbb⟩, on, hN, hs, nd, kd, hr, tk⟩ := c
  subst hP hw hK hmg hbb
  exact ve_cmpD (OpD.notIn (OpD.of h1 h2) hr tk ht) ha hb hm
theorem ve_ixC {tb : DTb} {a b : Expr} {f g : Env → M D} {pos : Pos} (c : Ct P w K mg base N sc T (j + 1) X W) (ht : ∀ c m, tb.lookup c = some m → DunOk P w K mg base G j c "__getitem__" 2 m) (ha : VE G X W a f) (hb : VE G X W b g) (hs : PlainIx b := by exact fun _ _ => rfl) (hsT : ∀ o i, subscripted b true o i = runValue (.builtin "lifetime.subscript" ⟨[o, i], []⟩) := by exact fun _ _ => rfl) :
    VE G X W (.Subscript a b pos) (fun ρ => do let x ← f ρ; let y ← g ρ; dunD tb ixD x y) := by
  have hu := c.hu
  obtain ⟨⟨hP, hw, hK, hmg, hbb⟩, on, hN, hs', nd, kd, hr, tk⟩ := c
  subst hP hw hK hmg hbb
  exact ve_ixD hu hr tk ht ha hb hs hsT
theorem ve_lenC {tb : DTb} {e : Expr} {f : Env → M D} {p pos : Pos} (c : Ct P w K mg base N sc T (j + 1) X W) (ht : ∀ c m, tb.lookup c = some m → DunOk P w K mg base G j c "__len__" 1 m) (hm : X.mg "len" = none) (he : VE G X W e f) (hg : Gl X "len" := by rfl) (hst : starEach [e] X.env = [(false, eval e X.env)] := by rfl) :
    VE G X W (.Call (.Name "len" p) [e] [] pos) (fun ρ => do let x ← f ρ; dun1 tb lenK lenD x) := by
  obtain ⟨⟨hP, hw, hK, hmg, hbb⟩, on, hN, hs', nd, kd, hr, tk⟩ := c
  subst hP hw hK hmg hbb
  exact ve_lenD hr ht hm he hg hst
theorem ve_propC {tb : DTb} {e : Expr} {f : Str} {fe : Env → M D} {pos : Pos} (c : Ct P w K mg base N sc T (j + 1) X W) (ht : ∀ c m, tb.lookup c = some m → PropOk P w K mg base G j c f m) (he : VE G X W e fe) (hab : attributeBase e f X.env (eval e X.env) = eval e X.env := by rfl) :
    VE G X W (.Attribute e f pos) (fun ρ => do let x ← fe ρ; propD tb x) := by
  obtain ⟨⟨hP, hw, hK, hmg, hbb⟩, on, hN, hs', nd, kd, hr, tk⟩ := c
  subst hP hw hK hmg hbb
  exact ve_prop hr ht he hab
end
/-! the types that are asked -/
section
variable {K : PySem.W.Frag} {G : ClsAt}
theorem in_nil {P : Str → Prop} : ∀ q, (Sum.inr q : Tag) ∈ ([] : List Tag) → P q := fun _ h => by cases h
theorem in_ty {P : Str → Prop} {n : String} {l : List Tag} (t : ∀ q, (Sum.inr q : Tag) ∈ l → P q) : ∀ q, (Sum.inr q : Tag) ∈ (Sum.inl n : Tag) :: l → P q := fun q h => by
  rcases List.mem_cons.mp h with z | z
  · cases z
  · exact t q z
theorem in_cl {P : Str → Prop} {c : Str} {l : List Tag} (p : P c) (t : ∀ q, (Sum.inr q : Tag) ∈ l → P q) : ∀ q, (Sum.inr q : Tag) ∈ (Sum.inr c : Tag) :: l → P q := fun q h => by
  rcases List.mem_cons.mp h with z | z
  · cases z; exact p
  · exact t q z
theorem own_of {l : List Tag} (h : ∀ q, (Sum.inr q : Tag) ∈ l → ClsF K (G q)) : ∀ q, ClsF K (G q) ∨ inT l (.inr q) = false := fun q => by
  cases e : inT l (.inr q) with
  | false => exact .inr rfl
  | true => exact .inl (h q (inT_mem e))
theorem inb_of {l : List (Tag × Bool)} {P : Str → Prop} (h : ∀ q, (Sum.inr q : Tag) ∈ l.map (·.1) → P q) : ∀ k b, ((Sum.inr k : Tag), b) ∈ l → P k := fun k b m => h k (List.mem_map.mpr ⟨_, m, rfl⟩)
end
end PV
end

section
/-! short names -/
namespace PV
open PySem PySem.Spec L2
open PyProof.Rows hiding St
abbrev eTx (F : Str → D → M D) (f g : Env → M D) : Env → M D := fun ρ => do let x ← f ρ; let a ← asS x; let y ← g ρ; F a y
abbrev eGet2 (f g h : Env → M D) : Env → M D := fun ρ => do let x ← f ρ; let x ← dicQ x; let y ← g ρ; let z ← h ρ; getGD2 x y z
abbrev kD0 : Env → M D := fun _ => pure (.dic [])
abbrev kF (z : Str) : Env → M Str := fun _ => pure z
abbrev eFm (f : Env → M D) : Env → M Str := fun ρ => do let x ← f ρ; fmtD x
end PV
end

section
/-! plain rules: dicts, own classes, texts -/
namespace PV
open PySem PySem.Spec L2
open PyProof.Rows hiding St
section
variable {α β γ : Type} {s s' s0 : Stt} {Q : D → Stt → Prop} {E : Err → Stt → Prop} {N B C : Env → Stt → Prop} {R : D → Stt → Prop} {ρ : Env} {i j : Int}
theorem s_seqD {ks : List (Key × D)} {Q : List D → Stt → Prop} : EV (seqM (.dic ks)) s Q E ↔ Q (keysD ks) s := Iff.rfl
theorem s_listDc {ks : List (Key × D)} : EV (listD (.dic ks)) s Q E ↔ Q (.lst (keysD ks)) s := Iff.rfl
theorem s_fld1 {c f : Str} {d : D} : EV (fldD [c] f (.ins c [(f, d)])) s Q E ↔ Q d s := by
  unfold EV fldD insAt
  simp [List.lookup, atM]
  exact Iff.rfl
theorem s_ixDc {ks : List (Key × D)} {z : Str} {d : D} (h : getK ks (.inr z) = some d) : EV (ixD (.dic ks) (.str z)) s Q E ↔ Q d s := by
  refine s_okeq ?_
  unfold ixD
  simp only [D.key, h]
  rfl
theorem s_dicQ {ks : List (Key × D)} : EV (dicQ (.dic ks)) s Q E ↔ Q (.dic ks) s := Iff.rfl
theorem s_get2 {ks : List (Key × D)} {z : Str} {d : D} : EV (getGD2 (.dic ks) (.str z) d) s Q E ↔ Q ((getK ks (.inr z)).getD d) s := Iff.rfl
theorem s_methK {c nm f : Str} {d : D} {e : ME} {Q : ME → Stt → Prop} (h : (nm == f) = false) : EV (methK [(c, e)] nm (.ins c [(f, d)])) s Q E ↔ Q e s := by
  refine s_okeq ?_
  unfold methK insAt
  simp [List.lookup, h, atM]
  rfl
theorem s_dun {c f : Str} {d y : D} {m : List D → M D} {F2 : D → D → M D} : EV (dunD [(c, m)] F2 (.ins c [(f, d)]) y) s Q E ↔ EV (m [.ins c [(f, d)], y]) s Q E := by
  unfold EV dunD insAt
  simp [List.lookup]
theorem s_prop {c f : Str} {d : D} {m : List D → M D} : EV (propD [(c, m)] (.ins c [(f, d)])) s Q E ↔ EV (ne (m [.ins c [(f, d)]])) s Q E := by
  unfold EV propD insAt
  simp [List.lookup]
theorem s_ne {x : M α} {Q : α → Stt → Prop} : EV (ne x) s Q E ↔ EV x s Q NoE := by
  unfold EV ne
  cases x s <;> simp [NoE]
theorem s_dunOpI {c f : Str} {d : D} {e : OpT} {F2 : D → D → M D} (h : e.i = true) : EV (dunOp [(c, e)] F2 (.ins c [(f, d)]) (.int i)) s Q E ↔ EV (e.m [.ins c [(f, d)], .int i]) s Q E := by
  unfold EV dunOp insAt
  simp [List.lookup, h]
theorem s_dunOpC {c f f' : Str} {d d' : D} {e : OpT} {F2 : D → D → M D} : EV (dunOp [(c, e)] F2 (.ins c [(f, d)]) (.ins c [(f', d')])) s Q E ↔ EV (e.m [.ins c [(f, d)], .ins c [(f', d')]]) s Q E := by
  unfold EV dunOp insAt
  simp [List.lookup]
theorem s_dunEqC {c f f' : Str} {d d' : D} {e : EqT} {F2 : D → D → M D} (h : e.ok (.inr c) = true) : EV (dunEq [(c, e)] F2 (.ins c [(f, d)]) (.ins c [(f', d')])) s Q E ↔ EV (e.m [.ins c [(f, d)], .ins c [(f', d')]]) s Q E := by
  unfold EV dunEq insAt tagOf
  simp [List.lookup, h]
theorem s_dunNeC {c f f' : Str} {d d' : D} {e : EqT} {F2 : D → D → M D} (h : e.ok (.inr c) = true) : EV (dunNe [(c, e)] F2 (.ins c [(f, d)]) (.ins c [(f', d')])) s Q E ↔ EV (e.m [.ins c [(f, d)], .ins c [(f', d')]]) s (fun z s' => EV (notD z) s' Q E) E := by
  rw [← s_bind]
  unfold EV dunNe insAt tagOf
  simp [List.lookup, h]
theorem s_isiC {l : List (Tag × Bool)} {c : Str} {fs : List (Str × D)} {b : Bool} {Q : Bool → Stt → Prop} (h : sbTab l (.inr c) = some b) : EV (isiD (sbTab l) (.ins c fs)) s Q E ↔ Q b s := s_isi rfl h
theorem s_sortS {xs : List D} {ys : List Str} (h : strsD xs = some ys) (hz : ys.length < 64) : EV (sortedD (.lst xs)) s Q E ↔ Q (.lst ((srtS ys).map .str)) s := by
  refine s_okeq ?_
  unfold sortedD
  simp only [h, if_pos hz]
  rfl
theorem s_fmtS {z : Str} {Q : Str → Stt → Prop} (h : z.length ≤ 1000000) : EV (fmtD (.str z)) s Q E ↔ Q z s := by
  show EV (if z.length ≤ SIZE then pure z else no : M Str) s Q E ↔ _
  rw [if_pos h]; rfl
theorem s_fmtI {Q : Str → Stt → Prop} (h : i.natAbs.log2 < 1920) : EV (fmtD (.int i)) s Q E ↔ Q (toString i) s := by
  show EV (if i.natAbs.log2 < 1920 then pure (toString i) else no : M Str) s Q E ↔ _
  rw [if_pos h]; rfl
theorem s_catN {acc : Str} {Q : Str → Stt → Prop} : EV (catM ρ [] acc) s Q E ↔ Q acc s := Iff.rfl
theorem s_catC {f : Env → M Str} {fs : List (Env → M Str)} {acc : Str} {Q : Str → Stt → Prop} : EV (catM ρ (f :: fs) acc) s Q E ↔ EV (f ρ) s (fun z s' => EV (if (acc ++ z).length ≤ SIZE then catM ρ fs (acc ++ z) else no) s' Q E) E := s_bind
theorem s_strI (h : i.natAbs.log2 < 1920) : EV (strD (.int i)) s Q E ↔ Q (.str (toString i)) s := by
  show EV (if i.natAbs.log2 < 1920 then pure (.str (toString i)) else no : M D) s Q E ↔ _
  rw [if_pos h]; rfl
theorem s_split {a b : Str} (h : (b.length == 0) = false ∧ a.length + 2 ≤ SIZE) : EV (splitD a (.str b)) s Q E ↔ Q (.lst ((Txt.split a b).map .str)) s := by
  show EV (if (b.length == 0) = false ∧ a.length + 2 ≤ SIZE then pure (.lst ((Txt.split a b).map .str)) else no : M D) s Q E ↔ _
  rw [if_pos h]; rfl
theorem s_index {a b : Str} {k : Nat} (h : Txt.index0 a b = some k) : EV (indexD a (.str b)) s Q E ↔ Q (.int (k : Nat)) s := by
  refine s_okeq ?_
  unfold indexD
  simp only [h]
  rfl
theorem s_dictL {xs : List D} {ks : List (Key × D)} (h : pairsOf xs = some ks) : EV (dictD (.lst xs)) s Q E ↔ Q (.dic (mergeD [] ks)) s := by
  refine s_okeq ?_
  unfold dictD
  simp only [h]
  rfl
theorem s_eqDc {ks ls : List (Key × D)} {b : Bool} (h : eqDic ks ls = some b) : EV (eqD2 (.dic ks) (.dic ls)) s Q E ↔ Q (.bl b) s := by
  refine s_okeq ?_
  show (optM (eqDic ks ls) >>= fun b => (pure (.bl b) : M D)) s = _
  rw [h]; rfl
theorem s_eq2I : EV (eqD2 (.int i) (.int j)) s Q E ↔ Q (.bl (decide (i = j))) s := s_eqI
theorem s_ne2I : EV (neD2 (.int i) (.int j)) s Q E ↔ Q (.bl !(decide (i = j))) s := s_neI
theorem w_putO {k : Nat} {fi fe : Env → M D} {ks : List (Key × D)} (h : ρ[k]? = some (.own (.dic ks))) (hz : ks.length < 1000000) (q : EV (fe ρ) s (fun v s1 => EV (fi ρ) s1 (fun ix s2 => ∃ z, ix = .str z ∧ N (ρ.set k (.own (.dic (putD ks (.inr z) v)))) s2) E) E) : WP (sPut k fi fe) ρ s N R B C E := by
  have hl : refAt k ρ = true := by unfold refAt; rw [h]
  refine w_sB (x := fe ρ) (k := fun v s1 => sB (fi ρ) ρ (fun ix s2 => putAt k ρ ix v s2) s1) (by unfold sPut; rw [if_pos hl]) (ev_imp q (fun v s1 q => w_sB rfl (ev_imp q (fun ix s2 ⟨z, e1, q⟩ => ?_) fun _ _ z => z)) fun _ _ z => z)
  subst e1
  unfold WP putAt
  simp only [h, D.key]
  rw [if_pos hz]; exact q
theorem s_putE {k : Nat} {fi fe : Env → M D} {ks : List (Key × D)} {v : D} {z : Str} (h : ρ[k]? = some (.own (.dic ks))) (hz : ks.length < 1000000) (h1 : fe ρ = pure v) (h2 : fi ρ = pure (.str z)) : WP (sPut k fi fe) ρ s N R B C E ↔ N (ρ.set k (.own (.dic (putD ks (.inr z) v)))) s := by
  have hl : refAt k ρ = true := by unfold refAt; rw [h]
  have e : sPut k fi fe ρ s = .nx (ρ.set k (.own (.dic (putD ks (.inr z) v)))) s := by
    unfold sPut
    rw [if_pos hl, h1, h2]
    show putAt k ρ (.str z) v s = _
    unfold putAt
    simp only [h, D.key]
    rw [if_pos hz]
  unfold WP
  rw [e]
theorem s_asg {g : D → Env → Option Env} {f : Env → M D} : WP (sAsg g f) ρ s N R B C E ↔ EV (f ρ) s (fun d s' => ∃ ρ', g d ρ = some ρ' ∧ N ρ' s') E := by
  unfold WP EV sAsg sB
  cases f ρ s with
  | ok d s' =>
    cases e : g d ρ with
    | none => simp only [e]; simp
    | some ρ' => simp only [e]; simp
  | err _ _ => exact Iff.rfl
  | no => exact Iff.rfl
theorem s_par3 {i j l : Nat} {w1 w2 w3 : Bool} {f g h : Env → M D} : WP (sPar3 i j l w1 w2 w3 f g h) ρ s N R B C E ↔ EV (f ρ) s (fun d s1 => EV (g ρ) s1 (fun d' s2 => EV (h ρ) s2 (fun d2 s3 => N (((ρ.set i (slotOf w1 d)).set j (slotOf w2 d')).set l (slotOf w3 d2)) s3) E) E) E := by
  unfold WP EV sPar3 sB
  cases f ρ s with
  | ok d s1 =>
    simp only
    cases g ρ s1 with
    | ok d' s2 =>
      simp only
      cases h ρ s2 <;> exact Iff.rfl
    | err _ _ => exact Iff.rfl
    | no => exact Iff.rfl
  | err _ _ => exact Iff.rfl
  | no => exact Iff.rfl
theorem s_fldS {c f : Str} {fo fe : Env → M D} {v : D} (h1 : EV (fe ρ) s (fun d s' => d = v ∧ s' = s) NoE) (h2 : fo ρ = pure (.obj s0.length)) (hs : s = s0 ++ [.ins c []]) : WP (sFldS [c] f fo fe) ρ s N R B C E ↔ N ρ (s0 ++ [.ins c [(f, v)]]) := by
  obtain ⟨a, s', e1, rfl, rfl⟩ := ev_get h1
  have e : sFldS [c] f fo fe ρ s' = .nx ρ (s0 ++ [.ins c [(f, a)]]) := by
    unfold sFldS sB
    rw [e1]
    simp only
    rw [h2]
    show (match s'[s0.length]? with | some (.ins k fs) => if k ∈ [c] ∧ fs.length < 900 then SR.nx ρ (s'.set s0.length (.ins k (putFD f a fs))) else .no | _ => .no) = _
    subst hs
    simp [putFD]
  unfold WP
  rw [e]
/-- a loop that asks nothing of the store -/
def ForP (g : D → Env → Option Env) (m : SM) (ρ : Env) (N : Env → Stt → Prop) (R : D → Stt → Prop) (E : Err → Stt → Prop) (ds : List D) (s0 : Stt) (_u : U6 g m N R E := ⟨⟩) : Prop := ∃ I : Nat → Env → Prop, I 0 ρ ∧
    (∀ i d ρ, ds[i]? = some d → i < ds.length → I i ρ → ∃ ρ', g d ρ = some ρ' ∧ WP m ρ' s0 (fun ρ s => s = s0 ∧ I (i + 1) ρ) R N (fun ρ s => s = s0 ∧ I (i + 1) ρ) E) ∧ ∀ ρ, I ds.length ρ → N ρ s0
theorem ForP.mk {g : D → Env → Option Env} {m : SM} {N : Env → Stt → Prop} {R : D → Stt → Prop} {ds : List D} (I : Nat → Env → Prop) (h0 : I 0 ρ)
    (hs : ∀ i d ρ, ds[i]? = some d → i < ds.length → I i ρ → ∃ ρ', g d ρ = some ρ' ∧ WP m ρ' s (fun ρ s' => s' = s ∧ I (i + 1) ρ) R N (fun ρ s' => s' = s ∧ I (i + 1) ρ) E) (hd : ∀ ρ, I ds.length ρ → N ρ s) : ForP g m ρ N R E ds s := ⟨I, h0, hs, hd⟩
theorem w_forP {f : Env → M (List D)} {g : D → Env → Option Env} {m : SM} {N B C : Env → Stt → Prop} {R : D → Stt → Prop} (h : EV (f ρ) s (fun ds s0 => ForP g m ρ N R E ds s0) E) : WP (sForM f g m) ρ s N R B C E := by
  refine w_forI (ev_imp h (fun ds s0 ⟨I, h0, hs, hd⟩ => ⟨fun i ρ s => s = s0 ∧ I i ρ, ⟨rfl, h0⟩, ?_, ?_⟩) fun _ _ z => z)
  · rintro i d ρ s e ⟨rfl, hi⟩
    exact hs i d ρ e (List.getElem?_eq_some_iff.mp e).1 hi
  · rintro ρ s ⟨rfl, hi⟩
    exact hd ρ hi
/-- a dict comprehension that asks nothing of the store -/
theorem ev_dcP {f : Env → M (List D)} {g : D → Env → Option Env} {t : Env → M Bool} {k v : Env → M D} {vs : List Nat} {ks : List (Key × D)} (h : EV (lcD f g t (pr k v) vs ρ) s (fun d s' => ∃ ys, d = .lst ys ∧ pairsOf ys = some ks ∧ Q (.dic (mergeD [] ks)) s') E) : EV (dcD f g t k v vs ρ) s Q E := by
  have h := s_bind.mp h
  refine s_bind.mpr (ev_imp h (fun ds s1 q => ?_) fun _ _ z => z)
  by_cases hz : ds.length < SIZE
  · rw [if_pos hz] at q ⊢
    have q := s_bind.mp q
    refine s_bind.mpr (ev_imp q (fun ys s2 ⟨ys', e1, e2, q⟩ => ?_) fun _ _ z => z)
    cases e1
    rw [e2]
    exact q
  · rw [if_neg hz] at q; exact q.elim
/-- a new instance of a class with one field -/
theorem s_mk {c f : Str} {np : Nat} {gD : List D → List D → List D} {m : List D → M D} {ds dk as : List D} {d : D} (h1 : (gD (.obj s.length :: ds) dk) = as) (hl : as.length = np) (hm : m as (s ++ [.ins c []]) = .ok .non (s ++ [.ins c [(f, d)]])) (hf : D.ltL s.length (s ++ [.ins c [(f, d)]]) = true) : EV (mkM c np gD m ds dk) s Q E ↔ Q (.ins c [(f, d)]) s := by
  refine s_okeq ?_
  unfold mkM
  rw [h1, if_pos hl, hm]
  simp [hf]
end
end PV
end

section
/-! dicts of names and numbers -/
namespace PV
open PySem PySem.Spec L2
open PyProof.Rows hiding St
abbrev AL := List (Str × Int)
def dcP (ps : AL) : List (Key × D) := ps.map fun p => ((.inr p.1 : Key), D.int p.2)
def putP (ps : AL) (z : Str) (n : Int) : AL := if (ps.any fun p => decide (p.1 = z)) = true then ps.map (fun p => if p.1 = z then (p.1, n) else p) else ps ++ [(z, n)]
def mrgP (acc ps : AL) : AL := ps.foldl (fun a p => putP a p.1 p.2) acc
def cnt (ps : AL) (z : Str) : Option Int := (ps.find? fun p => decide (p.1 = z)).map (·.2)
theorem inr_eq {a b : Str} : ((.inr a : Key) = .inr b) ↔ a = b := ⟨fun h => by cases h; rfl, fun h => by rw [h]⟩
theorem putD_dcP (ps : AL) (z : Str) (n : Int) : putD (dcP ps) (.inr z) (.int n) = dcP (putP ps z n) := by
  have e : ((dcP ps).any fun p => decide (p.1 = (.inr z : Key))) = (ps.any fun p => decide (p.1 = z)) := by
    unfold dcP
    rw [List.any_map]
    exact congrArg (fun f => ps.any f) (funext fun p => by simp [Function.comp, inr_eq])
  unfold putD putP
  rw [e]
  by_cases h : (ps.any fun p => decide (p.1 = z)) = true
  · rw [if_pos h, if_pos h]
    unfold dcP
    rw [List.map_map, List.map_map]
    refine List.map_congr_left fun p _ => ?_
    by_cases q : p.1 = z
    · simp [Function.comp, q]
    · simp [Function.comp, q, inr_eq]
  · rw [if_neg h, if_neg h]
    unfold dcP
    rw [List.map_append]
    rfl
theorem mergeD_dcP : ∀ (ps acc : AL), mergeD (dcP acc) (dcP ps) = dcP (mrgP acc ps)
  | [], _ => rfl
  | p :: ps, acc => by
    show mergeD (putD (dcP acc) (.inr p.1) (.int p.2)) (dcP ps) = dcP (mrgP (putP acc p.1 p.2) ps)
    rw [putD_dcP]; exact mergeD_dcP ps _
theorem getK_dcP (ps : AL) (z : Str) : getK (dcP ps) (.inr z) = (cnt ps z).map D.int := by
  unfold getK cnt dcP
  rw [List.find?_map]
  have e : ((fun p : Key × D => decide (p.1 = (.inr z : Key))) ∘ fun p : Str × Int => ((.inr p.1 : Key), D.int p.2)) = fun p => decide (p.1 = z) := funext fun p => by simp [Function.comp, inr_eq]
  rw [e, Option.map_map, Option.map_map]
  rfl
theorem keys_dcP (ps : AL) : keysD (dcP ps) = ps.map fun p => D.str p.1 := by
  unfold keysD dcP
  rw [List.map_map]
  rfl
theorem strs_names : ∀ ps : AL, strsD (ps.map fun p => D.str p.1) = some (ps.map (·.1))
  | [] => rfl
  | p :: ps => by
    show (strsD (ps.map fun p => D.str p.1)).map _ = _
    rw [strs_names ps]; rfl
theorem strs_keys (ps : AL) : strsD (keysD (dcP ps)) = some (ps.map (·.1)) := by rw [keys_dcP]; exact strs_names ps
def tupP (ps : AL) : List D := ps.map fun p => D.tup [.str p.1, .int p.2]
theorem pairs_tupP : ∀ ps : AL, pairsOf (tupP ps) = some (dcP ps)
  | [] => rfl
  | p :: ps => by
    show pairsOf (D.tup [.str p.1, .int p.2] :: tupP ps) = _
    unfold pairsOf
    simp only [D.key, pairs_tupP ps]
    rfl
theorem len_dcP (ps : AL) : (dcP ps).length = ps.length := by unfold dcP; rw [List.length_map]
theorem cnt_mem {ps : AL} {z : Str} (h : z ∈ ps.map (·.1)) : ∃ n, cnt ps z = some n ∧ (z, n) ∈ ps := by
  unfold cnt
  cases e : ps.find? fun p => decide (p.1 = z) with
  | none =>
    obtain ⟨p, hp, rfl⟩ := List.mem_map.mp h
    have := List.find?_eq_none.mp e p hp
    simp at this
  | some p =>
    have h1 := List.mem_of_find?_eq_some e
    have h2 : p.1 = z := by simpa using List.find?_some e
    subst h2
    exact ⟨p.2, rfl, h1⟩
/-- what a heap keeps of a dict: in order, above 0 -/
def posP (ps : AL) (z : Str) : Option (Str × Int) := match cnt ps z with
  | some n => if 0 < n then some (z, n) else none
  | none => none
def normP (ps : AL) : AL := mrgP [] ((srtS (ps.map (·.1))).filterMap (posP ps))
/-! lists with different names -/
abbrev DN (ps : AL) : Prop := (ps.map (·.1)).Nodup
theorem any_mem {ps : AL} {z : Str} : (ps.any fun p => decide (p.1 = z)) = true ↔ z ∈ ps.map (·.1) := by
  simp [List.any_eq_true, List.mem_map]
theorem putP_new {ps : AL} {z : Str} {n : Int} (h : z ∉ ps.map (·.1)) : putP ps z n = ps ++ [(z, n)] := by
  unfold putP
  rw [if_neg (fun q => h (any_mem.mp q))]
theorem mrgP_new : ∀ (ps acc : AL), DN (acc ++ ps) → mrgP acc ps = acc ++ ps
  | [], acc, _ => by simp [mrgP]
  | p :: ps, acc, h => by
    have h1 : p.1 ∉ acc.map (·.1) := fun q => by
      unfold DN at h
      rw [List.map_append, List.map_cons, List.nodup_append] at h
      exact h.2.2 _ q _ List.mem_cons_self rfl
    show mrgP (putP acc p.1 p.2) ps = _
    rw [putP_new h1, mrgP_new ps (acc ++ [p]) (by simpa [DN] using h)]
    simp
theorem putP_names {ps : AL} {z : Str} {n : Int} : (putP ps z n).map (·.1) = if z ∈ ps.map (·.1) then ps.map (·.1) else ps.map (·.1) ++ [z] := by
  unfold putP
  by_cases h : (ps.any fun p => decide (p.1 = z)) = true
  · rw [if_pos h, if_pos (any_mem.mp h), List.map_map]
    refine List.map_congr_left fun p _ => ?_
    by_cases q : p.1 = z <;> simp [Function.comp, q]
  · rw [if_neg h, if_neg (fun q => h (any_mem.mpr q)), List.map_append]
    rfl
theorem putP_dn {ps : AL} {z : Str} {n : Int} (h : DN ps) : DN (putP ps z n) := by
  unfold DN at h ⊢
  rw [putP_names]
  split
  · exact h
  · rename_i q
    exact List.nodup_append.mpr ⟨h, by simp, fun a ha b hb => by
      have : b = z := by simpa using hb
      subst this
      exact fun e => q (e ▸ ha)⟩
theorem putP_all {P : Str → Int → Prop} {ps : AL} {z : Str} {n : Int} (h : ∀ p ∈ ps, P p.1 p.2) (hn : P z n) : ∀ p ∈ putP ps z n, P p.1 p.2 := by
  intro p hp
  unfold putP at hp
  split at hp
  · obtain ⟨q, hq, rfl⟩ := List.mem_map.mp hp
    split
    · rename_i e; subst e; exact hn
    · exact h q hq
  · rcases List.mem_append.mp hp with hp | hp
    · exact h p hp
    · have : p = (z, n) := by simpa using hp
      subst this; exact hn
theorem putP_len {ps : AL} {z : Str} {n : Int} : (putP ps z n).length ≤ ps.length + 1 := by
  unfold putP
  split
  · rw [List.length_map]; omega
  · rw [List.length_append, List.length_singleton]; exact Nat.le_refl _
theorem cnt_of {ps : AL} (h : DN ps) {p : Str × Int} (hp : p ∈ ps) : cnt ps p.1 = some p.2 := by
  induction ps with
  | nil => cases hp
  | cons q r ih =>
    unfold DN at h
    rw [List.map_cons, List.nodup_cons] at h
    unfold cnt
    rw [List.find?_cons]
    rcases List.mem_cons.mp hp with rfl | hp
    · simp
    · have : ¬ q.1 = p.1 := fun e => h.1 (e ▸ List.mem_map_of_mem hp)
      simp only [this, decide_false]
      exact ih h.2 hp
/-- in order, above 0 -/
structure OkP (ps : AL) : Prop where
  st : (ps.map (·.1)).Pairwise (fun a b => ltS a b = true)
  pos : ∀ p ∈ ps, 0 < p.2
theorem ltS_ne {a b : Str} (h : ltS a b = true) : a ≠ b := fun e => by rw [e, ltS_ok.irr] at h; cases h
theorem OkP.dn {ps : AL} (h : OkP ps) : DN ps := h.st.imp fun h => ltS_ne h
theorem OkP.fm {ps : AL} (h : OkP ps) : ∀ {l : List Str}, (∀ z ∈ l, z ∈ ps.map (·.1)) → (l.filterMap (posP ps)).map (·.1) = l
  | [], _ => rfl
  | z :: l, hl => by
    obtain ⟨n, e, hm⟩ := cnt_mem (hl z List.mem_cons_self)
    have hp := h.pos _ hm
    have e2 : posP ps z = some (z, n) := by unfold posP; rw [e]; simp only; rw [if_pos hp]
    rw [List.filterMap_cons_some e2, List.map_cons, OkP.fm h fun y hy => hl y (List.mem_cons_of_mem _ hy)]
theorem srtS_of {l : List Str} (h : l.Pairwise (fun a b => ltS a b = true)) : srtS l = l :=
  (srtBy_uniq ltS_ok (List.Perm.refl l) (h.imp fun h => ltS_ok.tot _ _ h)).symm
theorem OkP.norm {ps : AL} (h : OkP ps) : normP ps = ps := by
  unfold normP
  rw [srtS_of h.st]
  have e : ∀ {l : AL}, (∀ p ∈ l, p ∈ ps) → (l.map (·.1)).filterMap (posP ps) = l := by
    intro l
    induction l with
    | nil => intro _; rfl
    | cons p r ih =>
      intro hl
      have e2 : posP ps p.1 = some p := by
        unfold posP
        rw [cnt_of h.dn (hl p List.mem_cons_self)]
        simp only
        rw [if_pos (h.pos p (hl p List.mem_cons_self))]
      rw [List.map_cons, List.filterMap_cons_some e2, ih fun q hq => hl q (List.mem_cons_of_mem _ hq)]
  rw [e fun p hp => hp]
  exact mrgP_new ps [] h.dn
/-- a dict's heap is in order -/
theorem fm_sub {ps : AL} : ∀ {l : List Str}, ((l.filterMap (posP ps)).map (·.1)).Sublist l
  | [] => List.Sublist.refl _
  | z :: l => by
    cases e : posP ps z with
    | none => rw [List.filterMap_cons_none e]; exact (fm_sub (l := l)).cons z
    | some q =>
      have : q.1 = z := by
        unfold posP at e
        split at e
        · split at e
          · cases e; rfl
          · cases e
        · cases e
      rw [List.filterMap_cons_some e, List.map_cons, this]
      exact (fm_sub (l := l)).cons₂ z
theorem srt_strict {l : List Str} (h : l.Nodup) : (srtS l).Pairwise (fun a b => ltS a b = true) := by
  have h1 := srtBy_sorted ltS_ok l
  have h2 : (srtS l).Nodup := (srtBy_perm ltS l).nodup_iff.mpr h
  refine (List.Pairwise.and h1 h2).imp fun {a b} ⟨p, q⟩ => ?_
  cases e : ltS a b with
  | true => rfl
  | false => exact absurd (ltS_ok.anti a b e p) q
theorem norm_eq {ps : AL} (h : DN ps) : normP ps = (srtS (ps.map (·.1))).filterMap (posP ps) := by
  unfold normP
  have := mrgP_new ((srtS (ps.map (·.1))).filterMap (posP ps)) [] (by
    rw [List.nil_append]
    have h2 : (srtS (ps.map (·.1))).Nodup := (srtBy_perm ltS _).nodup_iff.mpr h
    exact List.Nodup.sublist fm_sub h2)
  rwa [List.nil_append] at this
theorem norm_ok {ps : AL} (h : DN ps) : OkP (normP ps) := by
  rw [norm_eq h]
  refine ⟨(srt_strict h).sublist fm_sub, fun p hp => ?_⟩
  obtain ⟨z, _, e⟩ := List.mem_filterMap.mp hp
  unfold posP at e
  split at e
  · split at e
    · rename_i n _ hn; cases e; exact hn
    · cases e
  · cases e
theorem norm_mem {ps : AL} (h : DN ps) {p : Str × Int} (hp : p ∈ normP ps) : p ∈ ps := by
  rw [norm_eq h] at hp
  obtain ⟨z, hz, e⟩ := List.mem_filterMap.mp hp
  have hz' : z ∈ ps.map (·.1) := (srtBy_perm ltS _).mem_iff.mp hz
  obtain ⟨n, e1, e2⟩ := cnt_mem hz'
  unfold posP at e
  rw [e1] at e
  simp only at e
  split at e
  · cases e; exact e2
  · cases e
theorem norm_len {ps : AL} (h : DN ps) : (normP ps).length ≤ ps.length := by
  rw [norm_eq h]
  refine Nat.le_trans (List.length_filterMap_le _ _) ?_
  have e : (srtS (ps.map (·.1))).length = (ps.map (·.1)).length := (srtBy_perm ltS _).length_eq
  rw [e, List.length_map]
  exact Nat.le_refl _
/-! the store that a law keeps -/
abbrev PSt (s : Stt) : Prop := ∀ n, D.ltL n s = true
theorem ltL_app {n : Nat} : ∀ {a b : List D}, D.ltL n (a ++ b) = (D.ltL n a && D.ltL n b)
  | [], _ => by rw [List.nil_append, D.ltL, Bool.true_and]
  | x :: a, b => by rw [List.cons_append, D.ltL, D.ltL, ltL_app, Bool.and_assoc]
theorem ltK_dcP {n : Nat} : ∀ ps : AL, D.ltK n (dcP ps) = true
  | [] => by rw [show dcP [] = [] from rfl, D.ltK]
  | p :: ps => by
    show D.ltK n ((.inr p.1, .int p.2) :: dcP ps) = true
    rw [D.ltK, ltK_dcP ps, D.lt]; rfl
theorem ltL_ints {n : Nat} : ∀ ns : List Int, D.ltL n (ns.map D.int) = true
  | [] => by rw [List.map_nil, D.ltL]
  | i :: ns => by rw [List.map_cons, D.ltL, ltL_ints ns, D.lt]; rfl
theorem Bg.pst {c : Nat} {s : Stt} (h : Bg c [] s) : PSt s := fun n => by
  obtain ⟨B, _, rfl⟩ := h
  unfold Bag.d
  simp only [D.ltL, D.lt, ltL_ints, Bool.and_self]
theorem s_chk {α : Type} {s : Stt} {Q : α → Stt → Prop} {E : Err → Stt → Prop} {b : Bool} {x : M α} (h : b = true) : EV (chkM b x) s Q E ↔ EV x s Q E := by unfold chkM; rw [if_pos h]
theorem flatEq_int {i j : Int} : flatEq (.int i) (.int j) = some (decide (i = j)) := rfl
theorem hits_dcP {b : AL} : ∀ {a : AL}, ∃ r, hitsD (dcP b) (dcP a) = some r ∧ (r = true ↔ ∀ p ∈ a, cnt b p.1 = some p.2)
  | [] => ⟨true, rfl, by simp⟩
  | p :: a => by
    obtain ⟨r, e1, e2⟩ := hits_dcP (b := b) (a := a)
    show ∃ r, hitsD (dcP b) ((.inr p.1, .int p.2) :: dcP a) = some r ∧ _
    unfold hitsD
    rw [getK_dcP]
    cases e : cnt b p.1 with
    | none => exact ⟨false, rfl, by simp [e]⟩
    | some n =>
      simp only [Option.map_some, flatEq_int, e1]
      refine ⟨_, rfl, ?_⟩
      rw [Bool.and_eq_true, e2]
      simp only [List.forall_mem_cons, e, Option.some.injEq, decide_eq_true_eq]
      exact and_congr_left fun _ => eq_comm
/-- two lists in order hold the same as dicts exactly if they are the same -/
theorem okP_sub : ∀ {a b : AL}, (a.map (·.1)).Pairwise (fun x y => ltS x y = true) → (b.map (·.1)).Pairwise (fun x y => ltS x y = true) → a.length = b.length → (∀ p ∈ a, p ∈ b) → a = b
  | [], [], _, _, _, _ => rfl
  | [], _ :: _, _, _, h, _ => by simp at h
  | _ :: _, [], _, _, h, _ => by simp at h
  | p :: a, q :: b, ha, hb, hl, h => by
    rw [List.map_cons, List.pairwise_cons] at ha hb
    have hpq : p = q := by
      rcases List.mem_cons.mp (h p List.mem_cons_self) with e | e
      · exact e
      · -- then all of a lies behind q, too: one too many
        exfalso
        have hq : ∀ r ∈ a, r ∈ b := fun r hr => by
          rcases List.mem_cons.mp (h r (List.mem_cons_of_mem _ hr)) with e2 | e2
          · subst e2
            have h1 := ha.1 r.1 (List.mem_map_of_mem hr)
            have h2 := hb.1 p.1 (List.mem_map_of_mem e)
            rw [ltS_ok.tot _ _ h1] at h2; cases h2
          · exact e2
        have hn : (p :: a).Nodup := by
          have h0 : ((p :: a).map (·.1)).Pairwise (fun x y => ltS x y = true) := by rw [List.map_cons, List.pairwise_cons]; exact ha
          exact (List.pairwise_map.mp h0).imp fun {x y} h e => by rw [e, ltS_ok.irr] at h; cases h
        have := List.Nodup.length_le_of_subset hn (fun r hr => by
          rcases List.mem_cons.mp hr with e2 | e2
          · subst e2; exact e
          · exact hq r e2 : (p :: a) ⊆ b)
        simp only [List.length_cons] at this hl
        omega
    subst hpq
    rw [okP_sub ha.2 hb.2 (by simpa using hl) fun r hr => ?_]
    rcases List.mem_cons.mp (h r (List.mem_cons_of_mem _ hr)) with e | e
    · subst e
      have := ha.1 _ (List.mem_map_of_mem hr)
      rw [ltS_ok.irr] at this; cases this
    · exact e
theorem cnt_in {ps : AL} {z : Str} {n : Int} (h : cnt ps z = some n) : (z, n) ∈ ps := by
  unfold cnt at h
  cases e : ps.find? fun p => decide (p.1 = z) with
  | none => rw [e] at h; cases h
  | some p =>
    rw [e] at h
    cases h
    have h1 := List.mem_of_find?_eq_some e
    have h2 : p.1 = z := by simpa using List.find?_some e
    subst h2; exact h1
theorem eqDic_ok {a b : AL} (ha : OkP a) (hb : OkP b) : eqDic (dcP a) (dcP b) = some (decide (a = b)) := by
  unfold eqDic
  rw [len_dcP, len_dcP]
  by_cases hl : a.length = b.length
  · rw [if_pos hl]
    obtain ⟨r, e1, e2⟩ := hits_dcP (a := a) (b := b)
    rw [e1]
    congr 1
    by_cases e : a = b
    · rw [decide_eq_true e, e2]
      subst e
      exact fun p hp => cnt_of ha.dn hp
    · rw [decide_eq_false e]
      cases hr : r with
      | false => rfl
      | true => exact absurd (okP_sub ha.st hb.st hl fun p hp => cnt_in (e2.mp hr p hp)) e
  · rw [if_neg hl, decide_eq_false fun e => hl (by rw [e])]
/-! texts -/
theorem s_cat1 {ρ : Env} {f : Env → M Str} {fs : List (Env → M Str)} {acc z : Str} {s : Stt} {Q : Str → Stt → Prop} {E : Err → Stt → Prop} (h : EV (f ρ) s (fun z' s' => z' = z ∧ s' = s) NoE) (hz : (acc ++ z).length ≤ 1000000) : EV (catM ρ (f :: fs) acc) s Q E ↔ EV (catM ρ fs (acc ++ z)) s Q E := by
  rw [s_catC]
  obtain ⟨a, s', e1, rfl, rfl⟩ := ev_get h
  rw [s_okeq e1, if_pos hz]
abbrev numS (i : Int) : Str := Str.ofString (toString i)
theorem numS_len {i : Int} (h0 : 0 ≤ i) (h : i.natAbs.log2 < 1000) : (numS i).length ≤ 400 := by
  obtain ⟨n, rfl⟩ := Int.eq_ofNat_of_zero_le h0
  rw [TL.len_tl]
  show (TL.tl (Str.ofString (toString ((n : Nat) : Int)))).length ≤ 400
  rw [TL.tl_num]
  have h2 : n < 2 ^ 1000 := by
    have : n.log2 < 1000 := h
    by_cases hz : n = 0
    · subst hz; exact Nat.two_pow_pos _
    · exact (Nat.log2_lt hz).mp this
  have h3 : (2 : Nat) ^ 1000 ≤ 10 ^ 400 := Nat.le_of_ble_eq_true rfl
  exact TL.numL_len (by decide) (Nat.lt_of_lt_of_le h2 h3)
def rowP (p : Str × Int) : Str := numS p.2 ++ Str.ofString " " ++ p.1
theorem empty_app (x : Str) : Str.empty ++ x = x := TL.ext_tl (by rw [TL.tl_append]; rfl)
theorem sp_len : (Str.ofString " ").length = 1 := by decide +kernel
theorem pl_len : (Str.ofString " + ").length = 3 := by decide +kernel
theorem row_len {p : Str × Int} (h0 : 0 ≤ p.2) (h : p.2.natAbs.log2 < 1000) (hn : p.1.length ≤ 6) : (rowP p).length ≤ 407 := by
  unfold rowP
  rw [Str.length_append, Str.length_append, sp_len]
  have := numS_len h0 h
  omega
def txtP (ps : AL) : Str := if ps = [] then Str.ofString "0" else Txt.join (Str.ofString " + ") (ps.map rowP)
theorem strs_str : ∀ zs : List Str, strsD (zs.map D.str) = some zs
  | [] => rfl
  | z :: zs => by
    show (strsD (zs.map D.str)).map _ = _
    rw [strs_str zs]; rfl
theorem s_joinS {a : Str} {zs : List Str} {s : Stt} {Q : D → Stt → Prop} {E : Err → Stt → Prop} (h : (zs.map (·.length)).sum + zs.length * a.length ≤ 1000000) : EV (joinD a (.lst (zs.map D.str))) s Q E ↔ Q (.str (Txt.join a zs)) s := by
  refine s_okeq ?_
  unfold joinD
  simp only [strs_str]
  rw [if_pos h]; rfl
theorem sum_le {α : Type} {f : α → Nat} {k : Nat} : ∀ {l : List α}, (∀ x ∈ l, f x ≤ k) → (l.map f).sum ≤ l.length * k
  | [], _ => by simp
  | x :: l, h => by
    have h1 := h x List.mem_cons_self
    have h2 := sum_le (f := f) (k := k) (l := l) fun y hy => h y (List.mem_cons_of_mem _ hy)
    rw [List.map_cons, List.sum_cons, List.length_cons, Nat.succ_mul]
    omega
theorem s_catK {ρ : Env} {fs : List (Env → M Str)} {acc z : Str} {s : Stt} {Q : Str → Stt → Prop} {E : Err → Stt → Prop} (hz : (acc ++ z).length ≤ 1000000) : EV (catM ρ (kF z :: fs) acc) s Q E ↔ EV (catM ρ fs (acc ++ z)) s Q E := s_cat1 ⟨rfl, rfl⟩ hz
end PV
end

section
/-! texts of heaps, split -/
namespace PV
open PySem PySem.Spec L2
open PyProof.Rows hiding St
theorem nopl {p t : List Nat} (h : 43 ∉ p) (ht : ∀ r, t ≠ 43 :: r) {i : Nat} (hi : i < p.length) : TL.pre [32, 43, 32] ((p ++ t).drop i) = false := by
  obtain ⟨c, hc⟩ := TL.getElem_drop_cons hi
  rw [List.drop_append_of_le_length (Nat.le_of_lt hi), hc]
  cases e : TL.pre [32, 43, 32] (c :: p.drop (i + 1) ++ t) with
  | false => rfl
  | true =>
    exfalso
    unfold TL.pre at e
    have e := beq_iff_eq.mp e
    cases q : p.drop (i + 1) with
    | nil =>
      rw [q] at e
      cases t with
      | nil => simp at e
      | cons x t =>
        simp at e
        exact ht t (by rw [e.2.1])
    | cons x q' =>
      rw [q] at e
      simp at e
      have hx : x ∈ p := by
        have : x ∈ p.drop (i + 1) := by rw [q]; exact List.mem_cons_self
        exact List.mem_of_mem_drop this
      rw [e.2.1] at hx
      exact h hx
theorem spl3 : ∀ {parts : List (List Nat)}, parts ≠ [] → (∀ p ∈ parts, 43 ∉ p) → TL.spl [32, 43, 32] 0 [] (TL.joinL [32, 43, 32] parts) = parts
  | [], h, _ => absurd rfl h
  | [p], _, hp => by
    show TL.spl [32, 43, 32] 0 [] p = [p]
    rw [TL.spl_last fun i hi => ?_, List.nil_append]
    have := nopl (t := []) (hp p List.mem_cons_self) (fun r => by simp) hi
    rwa [List.append_nil] at this
  | p :: q :: r, _, hp => by
    show TL.spl [32, 43, 32] 0 [] (p ++ ([32, 43, 32] ++ TL.joinL [32, 43, 32] (q :: r))) = p :: q :: r
    rw [TL.spl_part (by simp) fun i hi => nopl (hp p List.mem_cons_self) (fun r => by simp) hi, List.nil_append, spl3 (by simp) fun z hz => hp z (List.mem_cons_of_mem _ hz)]
theorem tl_pl : TL.tl (Str.ofString " + ") = [32, 43, 32] := by decide +kernel
theorem tl_sp : TL.tl (Str.ofString " ") = [32] := by decide +kernel
theorem split3 {parts : List Str} (hne : parts ≠ []) (hp : ∀ p ∈ parts, 43 ∉ TL.tl p) : Txt.split (Txt.join (Str.ofString " + ") parts) (Str.ofString " + ") = parts := by
  refine TL.map_tl_inj ?_
  rw [TL.split_spl _ _ (by rw [tl_pl]; simp) (TL.kind_ok (by decide +kernel)), TL.join_eq, TL.tl_join, tl_pl]
  exact spl3 (fun e => hne (List.map_eq_nil_iff.mp e)) fun p h => by
    obtain ⟨z, hz, rfl⟩ := List.mem_map.mp h
    exact hp z hz
theorem split2 {a b : Str} (ha : 32 ∉ TL.tl a) (hb : 32 ∉ TL.tl b) : Txt.split (a ++ Str.ofString " " ++ b) (Str.ofString " ") = [a, b] := by
  have h := TL.split_join (y := Str.ofString " ") (s := 32) (S := []) tl_sp (by decide +kernel) (parts := [a, b]) (by simp) (fun p hp => by
    rcases List.mem_cons.mp hp with rfl | hp
    · exact ha
    · have : p = b := by simpa using hp
      subst this; exact hb)
  rw [TL.join_eq] at h
  exact h
theorem tl_numS (n : Nat) : TL.tl (numS (n : Int)) = TL.numL n := TL.tl_num n
theorem numL_head : ∀ {n : Nat}, 0 < n → ∃ c r, TL.numL n = c :: r ∧ c ≠ 48 := by
  intro n
  induction n using Nat.strongRecOn with
  | _ n ih =>
    intro h
    by_cases hn : n < 10
    · exact ⟨48 + n, [], TL.numL_lt hn, by omega⟩
    · obtain ⟨c, r, e, hc⟩ := ih (n / 10) (by omega) (by omega)
      exact ⟨c, r ++ [48 + n % 10], by rw [TL.numL_step (by omega), e]; rfl, hc⟩
theorem numS_int {n : Nat} (h : n < 10 ^ 60) : PySem.intText? (numS (n : Int)) = some (n : Int) ∧ (numS (n : Int)).length ≤ 60 := by
  have hl : (TL.numL n).length ≤ 60 := TL.numL_len (by decide) h
  refine ⟨TL.int_num (by omega), ?_⟩
  rw [TL.len_tl, tl_numS]
  exact hl
theorem numS_digits {n : Nat} : ∀ c ∈ (numS (n : Int)).cps.toList, 48 ≤ c ∧ c ≤ 57 := fun c hc => by
  have h := TL.numL_digits n
  have hc : c ∈ TL.numL n := by rw [← tl_numS]; exact hc
  exact h c hc
theorem numS_pos {n : Nat} (h : 0 < n) : ∃ c r, (numS (n : Int)).cps.toList = c :: r ∧ c ≠ 48 := by
  obtain ⟨c, r, e, hc⟩ := numL_head h
  exact ⟨c, r, by rw [← e, ← tl_numS], hc⟩
theorem s_ix0 {a : D} {r : List D} {s : Stt} {Q : D → Stt → Prop} {E : Err → Stt → Prop} : EV (ixD (.lst (a :: r)) (.int 0)) s Q E ↔ Q a s := s_ixL (k := 0) (xs := a :: r) (by simp)
theorem s_ix1 {a b : D} {r : List D} {s : Stt} {Q : D → Stt → Prop} {E : Err → Stt → Prop} : EV (ixD (.lst (a :: b :: r)) (.int 1)) s Q E ↔ Q b s := s_ixL (k := 1) (xs := a :: b :: r) (by simp)
theorem cast2 : decide (((2 : Nat) : Int) = 2) = true := rfl
theorem len2 (a b : D) : decide ((([a, b] : List D).length : Int) = 2) = true := rfl
theorem s_intS {z : Str} {n : Int} {s : Stt} {Q : D → Stt → Prop} {E : Err → Stt → Prop} (h : PySem.intText? z = some n) (hl : z.length ≤ 640) : EV (intD (.str z)) s Q E ↔ Q (.int n) s := by
  refine s_okeq ?_
  unfold intD
  simp only [h]
  rw [if_pos hl]; rfl
abbrev SOk (zs : List Str) : Prop := ∀ z ∈ zs, PyData.strOk z = true
theorem py_strs : ∀ zs : List Str, SOk zs → (zs.map D.str).mapM (D.py 7) = some (zs.map PyData.str)
  | [], _ => rfl
  | z :: zs, h => by
    rw [List.map_cons, List.mapM_cons, py_strs zs fun y hy => h y (List.mem_cons_of_mem _ hy)]
    have e : D.py 7 (.str z) = some (.str z) := by
      show (if PyData.strOk z = true then some (PyData.str z) else none) = _
      rw [if_pos (h z List.mem_cons_self)]
    rw [e]
    rfl
theorem eqvAll_strs : ∀ xs ys : List Str, PyData.eqvAll (xs.map PyData.str) (ys.map PyData.str) = decide (xs = ys)
  | [], [] => by simp [PyData.eqvAll]
  | [], _ :: _ => by simp [PyData.eqvAll]
  | _ :: _, [] => by simp [PyData.eqvAll]
  | x :: xs, y :: ys => by
    rw [List.map_cons, List.map_cons, PyData.eqvAll, eqvAll_strs xs ys, PyData.eqv]
    by_cases h : x = y <;> simp [h]
theorem eqB_strs {xs ys : List Str} (hx : SOk xs) (hy : SOk ys) (s : Stt) : eqB (.lst (xs.map D.str)) (.lst (ys.map D.str)) s = .ok (decide (xs = ys)) s := by
  have h1 : D.py 8 (.lst (xs.map D.str)) = some (.list (xs.map PyData.str)) := by
    show ((xs.map D.str).mapM (D.py 7)).map PyData.list = _
    rw [py_strs _ hx]; rfl
  have h2 : D.py 8 (.lst (ys.map D.str)) = some (.list (ys.map PyData.str)) := by
    show ((ys.map D.str).mapM (D.py 7)).map PyData.list = _
    rw [py_strs _ hy]; rfl
  unfold eqB
  simp only [h1, h2]
  show R.ok (PyData.eqv _ _) s = _
  rw [PyData.eqv, eqvAll_strs]
theorem s_neLs {xs ys : List Str} {s : Stt} {Q : D → Stt → Prop} {E : Err → Stt → Prop} (hx : SOk xs) (hy : SOk ys) : EV (neD (.lst (xs.map D.str)) (.lst (ys.map D.str))) s Q E ↔ Q (.bl !(decide (xs = ys))) s := by
  refine s_okeq ?_
  show M.bind _ _ _ = _
  unfold M.bind
  rw [eqB_strs hx hy]
  rfl
theorem dat_tupP {n : Nat} (ps : AL) (h : ps.length < 1000) : D.dat (n + 3) (.lst (tupP ps)) = true := by
  show (decide ((tupP ps).length < SIZE) && (tupP ps).all (D.dat (n + 2))) = true
  rw [Bool.and_eq_true]
  refine ⟨decide_eq_true (by unfold tupP; rw [List.length_map]; show _ < 1000000; omega), List.all_eq_true.mpr fun d hd => ?_⟩
  obtain ⟨p, _, rfl⟩ := List.mem_map.mp hd
  rfl
end PV
end

section
/-! one's own handed back; own `in` as a test -/
namespace PV
open PySem PySem.Spec L2
open PyProof.Rows hiding St
def sRetV (i : Nat) : SM := fun ρ s => match ρ[i]? with
  | some (.own d) => .rt d s
  | _ => .no
section
variable {X : Cx} {G : ClsAt} {W : WX} {RP : RPT} {T : NT} {x : Str} {k : NameKind} {i : Nat}
theorem vs_retOv {p1 pos : Pos} (on : On X T) (j : Nat) (h : T[j]? = some (x, k, i) := by rfl) (hv : visK k = true := by rfl) : VS G X W (rOwn X.K G) (.Return (some (.Name x p1)) pos) (sRetV i) :=
  PS.imp (ps_ret (pe_var (i := i) (on.at h hv) (on.vis h hv) (on.dbg h) (on.cd h))) fun D σ H ⟨c0, H0, ρ, c, xx, o, sl, p⟩ => by
    unfold sRetV at p
    split at p
    · rename_i d e
      have hl : i < σ.length := by rw [← sl.len]; exact (List.getElem?_eq_some_iff.mp e).1
      obtain ⟨a, e2, f, n, w⟩ := sl.ok i _ _ e (List.getElem?_eq_getElem hl)
      have e3 : σ[i]? = some (some (.ref a)) := by rw [List.getElem?_eq_getElem hl, e2]
      exact ⟨.ref a, e3, p (.ref a) c.F c.As H xx o ⟨a, rfl, sl.mine i d a e e3, n, f, w⟩⟩
    · exact p.elim
variable {P : Program} {w : World} {K : PySem.W.Frag} {mg : Str → Option Value} {base : Heap} {N : List Str} {sc : Scope} {j : Nat}
theorem vt_inC {tb : DTb} {a b : Expr} {f g : Env → M D} {r : R2} {F2 : D → D → M D} {pos : Pos} (c : Ct P w K mg base N sc T j X W) (h1 : OpR X (compareOp .In) r) (h2 : Op2 X G r (P0 X G) F2) (ht : ∀ c m, tb.lookup c = some m → DunOk P w K mg base G j c "__contains__" 2 m)
    (ha : VE G X W a f) (hb : VE G X W b g) (hm : behindInMarks .In b = false := by first | exact nomark _ | rfl) : VT G X W (.Compare a [.In] [b] pos) (fun ρ => do let x ← f ρ; let y ← g ρ; let z ← dunIn tb F2 x y; asB z) := by
  obtain ⟨⟨hP, hw, hK, hmg, hbb⟩, on, hN, hs, nd, kd, hr, tk⟩ := c
  subst hP hw hK hmg hbb
  exact vt_cmpD (OpD.inn (OpD.of h1 h2) hr tk ht) ha hb hm
theorem vt_notInC {tb : DTb} {a b : Expr} {f g : Env → M D} {r : R2} {F2 : D → D → M D} {pos : Pos} (c : Ct P w K mg base N sc T j X W) (h1 : OpR X (compareOp .NotIn) r) (h2 : Op2 X G r (P0 X G) F2) (ht : ∀ c m, tb.lookup c = some m → DunOk P w K mg base G j c "__contains__" 2 m)
    (ha : VE G X W a f) (hb : VE G X W b g) (hm : behindInMarks .NotIn b = false := by first | exact nomark _ | rfl) : VT G X W (.Compare a [.NotIn] [b] pos) (fun ρ => do let x ← f ρ; let y ← g ρ; let z ← dunNotIn tb F2 x y; asB z) := by
  obtain ⟨⟨hP, hw, hK, hmg, hbb⟩, on, hN, hs, nd, kd, hr, tk⟩ := c
  subst hP hw hK hmg hbb
  exact vt_cmpD (OpD.notIn (OpD.of h1 h2) hr tk ht) ha hb hm
end
end PV
end

section
/-! x = ys.pop() -/
namespace PV
open PySem PySem.Spec L2
open PyProof.Rows hiding St
def sPop (j i : Nat) : SM := fun ρ s => match ρ[i]? with
  | some (.own (.lst xs)) => match xs[xs.length - 1]? with
    | some d => .nx ((ρ.set i (.own (.lst xs.dropLast))).set j (.val d)) s
    | none => .no
  | _ => .no
theorem DenL.dropLast {K : PySem.W.Frag} {G : ClsAt} {As : List Addr} {F : Hp} {ds : List D} {vs : List V} (l : DenL K G As F ds vs) : DenL K G As F ds.dropLast vs.dropLast := by
  rw [List.dropLast_eq_take, List.dropLast_eq_take, l.length]
  exact DenL.take _ l
section
variable {X : Cx} {G : ClsAt} {W : WX} {RP : RPT} {T : NT} {x y : Str} {k k2 : NameKind} {i j : Nat}
theorem vs_pop {xp py apos cpos pos : Pos} (on : On X T) (jx jy : Nat) (h : T[jx]? = some (x, k, i) := by rfl) (hv : visK k = true := by rfl) (hy : T[jy]? = some (y, k2, j) := by rfl) (hk : k2 = .local ∨ k2 = .cell := by first | exact .inl rfl | exact .inr rfl) (hf : X.fn y = true ∨ k2 = .local := by first | exact .inr rfl | assumption)
    (hbase : attributeBase (.Name x xp) "pop" X.env (eval (.Name x xp) X.env) = eval (.Name x xp) X.env := by rfl) (hline : (apos.endLine == cpos.line) = true := by rfl) (hs : swapsWith (.Call (.Attribute (.Name x xp) "pop" apos) [] [] cpos) (some (.Name y py)) pos.line X.env = pure false := by rfl) :
    VS G X W RP (.Assign [.Name y py] (.Call (.Attribute (.Name x xp) "pop" apos) [] [] cpos) pos) (sPop j i) :=
  PS.imp (ps_set on.nd (on.at hy (by rcases hk with rfl | rfl <;> rfl)) (on.loc hy hk) (pe_bm0 (T := "list") (id := "list.pop") F.plainAttrs_list F.slot_list_pop F.type_list_pop mt_pop (pe_var (i := i) (on.at h hv) (on.vis h hv) (on.dbg h) (on.cd h)) hbase hline) hs (hf.elim .inl fun z => .inr (by rw [on.kind hy, z]))) fun D σ H ⟨c0, H0, ρ, c, xx, o, sl, p⟩ => by
    unfold sPop at p
    split at p
    · rename_i xs e
      split at p
      · rename_i d ed
        obtain ⟨b, eb, ⟨vs, hv', l⟩, wr⟩ := own_write (d' := .lst xs.dropLast) xx o sl e
        obtain ⟨w, ew, hd⟩ := l.getD ed
        rw [l.length] at ew
        obtain ⟨x2, o2, sl2⟩ := wr (.lst vs.dropLast) ⟨_, upd_same, l.dropLast⟩
        exact ⟨.ref b, eb, .inl ⟨rfl, vs, SqL.of hv'⟩, b, vs, w, rfl, rfl, hv', ew, p _ c.F c.As _ x2 o2 (sl2.val j hd)⟩
      · exact p.elim
    · exact p.elim
end
end PV
end

section
/-! xs[::-1] -/
namespace PV
open PySem PySem.Spec L2
open PyProof.Rows hiding St
def revD : D → M D
  | .lst xs => pure (.lst xs.reverse)
  | _ => no
theorem DenL.reverse {K : PySem.W.Frag} {G : ClsAt} {As : List Addr} {F : Hp} : ∀ {ds : List D} {vs : List V}, DenL K G As F ds vs → DenL K G As F ds.reverse vs.reverse
  | _, _, .nil => .nil
  | _, _, .cons t l => by
    rw [List.reverse_cons, List.reverse_cons]
    exact (DenL.reverse l).app (.cons t .nil)
section
variable {X : Cx} {G : ClsAt} {W : WX} {RP : RPT} {T : NT}
theorem vn_rev {e : Expr} {f : Env → M D} {k : Nat} {p1 p2 p3 pos : Pos} (he : VR G X W e f) : VN G X W (.Subscript e (.Slice none none (some (.UnaryOp .USub (.Constant (.int 1) k p1) p2)) p3) pos) (fun ρ => do let x ← f ρ; revD x) :=
  PE.imp (pe_revL he) fun σ H Q ⟨H0, ρ, c, o, sl, p⟩ => tR_step rfl o sl p fun x v c1 H1 x1 o1 sl1 t1 p1 => by
    cases x with
    | lst xs =>
      obtain ⟨a, vs, rfl, ha, la⟩ := t1.lst o1
      have p2 : Post X.K G (POwn X.K G H) (fun cls dx H' => W cls dx σ H') c1 H1 (.ok (.lst xs.reverse) c1.st) Q := p1
      have p3 := p2.imp (P' := POwn X.K G H1) (fun c' H' d v _ _ ⟨a, e1, e2, e3⟩ => ⟨a, e1, x1.none e2, e3⟩) (fun _ _ q => q) fun _ _ _ q => q
      exact ⟨a, vs, rfl, ha, fun q hq => p3.newOwn o1 hq ⟨_, upd_same, la.reverse⟩⟩
    | _ => exact p1.elim
end
end PV
end

section
/-! a, b = x, y where a name is a cell: by way of a tuple -/
namespace PV
open PySem PySem.Spec L2
open PyProof.Rows hiding St
section
variable {X : Cx} {G : ClsAt} {W : WX} {RP : RPT} {T : NT}
theorem vs_parC {i j : Nat} {x y : Str} {ki kj : NameKind} {a b : Expr} {f g : Env → M D} {w1 w2 : Bool} {px py pt pos : Pos} {kt k2 pt2} (on : On X T) (jx jy : Nat) (ha : PE X a (tNV X.K G w1 W f)) (hb : PE X b (tNV X.K G w2 W g)) (hx : T[jx]? = some (x, ki, i) := by rfl) (hy : T[jy]? = some (y, kj, j) := by rfl)
    (hki : ki = .local ∨ ki = .cell := by first | exact .inl rfl | exact .inr rfl) (hkj : kj = .local ∨ kj = .cell := by first | exact .inl rfl | exact .inr rfl) (hfi : X.fn x = true ∨ ki = .local := by first | exact .inr rfl | assumption) (hfj : X.fn y = true ∨ kj = .local := by first | exact .inr rfl | assumption)
    (hst : starEach [a, b] X.env = (false, eval a X.env) :: starEach [b] X.env := by rfl) (hst2 : starEach [b] X.env = [(false, eval b X.env)] := by rfl)
    (hw : swappedStores [.Tuple [.Name x px, .Name y py] kt pt] (.Tuple [a, b] k2 pt2) X.env = pure none)
    (hs : swapsWithSole [.Tuple [.Name x px, .Name y py] kt pt] (.Tuple [a, b] k2 pt2) pos.line X.env = pure false := by rfl) :
    VS G X W RP (.Assign [.Tuple [.Name x px, .Name y py] kt pt] (.Tuple [a, b] k2 pt2) pos) (sPar i j w1 w2 f g) := by
  have gx : PG X (.Name x px) (gName i) := pg_name on.nd (on.at hx (by rcases hki with rfl | rfl <;> rfl)) (on.loc hx hki) (hfi.elim .inl fun z => .inr (by rw [on.kind hx, z]))
  have gy : PG X (.Name y py) (gName j) := pg_name on.nd (on.at hy (by rcases hkj with rfl | rfl <;> rfl)) (on.loc hy hkj) (hfj.elim .inl fun z => .inr (by rw [on.kind hy, z]))
  have gt : PG X (.Tuple [.Name x px, .Name y py] kt pt) (gTup X.K 2 (gCons (gName i) (gCons (gName j) gNil))) := pg_tup on.calm (pgs_cons gx (pgs_cons gy pgs_nil))
  refine PS.imp (ps_asg (pe_tup (pa_cons ha (pa_cons hb pa_nil hst2) hst)) gt hs hw rfl) fun D σ H ⟨c0, H0, ρ, c, x, o, sl, p⟩ => ?_
  refine ⟨H0, ρ, c, o, sl, s_step x sl p fun d v c1 H1 x1 x1' o1 sl1 t1 p1 => ⟨H0, ρ, c1, o1, sl1, s_step x1' sl1 p1 fun d' v' c2 H2 x2 x2' o2 sl2 t2 p2 => ⟨(by decide : 2 ≤ sizeLine), fun q hq => ⟨q, [v, v'], rfl, SqT.of upd_same, rfl, v, [v'], rfl, v', [], rfl, rfl, ?_⟩⟩⟩⟩
  have x3 : Ext c2 H2 c2 (upd H2 q (.tup [v, v'])) := Ext.heap (upd_keep hq)
  refine p2 _ c2.F c2.As _ (x2'.trans x3) (o2.grow (upd_keep hq)) ?_
  have s1 : Slots X.K G H0 c1 H1 (ρ.set i (slotOf w1 d)) (σ.set i (some v)) := Slots.vn sl sl1 i t1 fun a h => x.none h
  exact Slots.vn s1 (s1.ext (x2.trans x3)) j (PVN.ext x3 t2) fun a h => x1'.none h
end
end PV
end

section
/-! static methods with *args -/
namespace PV
open PySem PySem.Spec L2
open PyProof.Rows hiding St
/-- what is left over becomes a tuple -/
def varD (q : Nat) (ds : List D) : List D := ds.take q ++ [.tup (ds.drop q)]
def spVar (K : PySem.W.Frag) (G : ClsAt) (q : Nat) (m : List D → M D) : Sp := fun vs H Q E => q ≤ vs.length ∧ vs.length ≤ 1000 ∧ ∃ c ds, CfOk K G c H ∧ DenL K G c.As c.F ds vs ∧ Post K G (PDen K G) E c H (m (varD q ds) c.st) Q
theorem DenL.takeD {K : PySem.W.Frag} {G : ClsAt} {As : List Addr} {F : Hp} : ∀ (q : Nat) {ds : List D} {vs : List V}, DenL K G As F ds vs → DenL K G As F (ds.take q) (vs.take q)
  | 0, _, _, _ => .nil
  | _ + 1, _, _, .nil => .nil
  | q + 1, _, _, .cons h l => .cons h (DenL.takeD q l)
theorem DenL.dropD {K : PySem.W.Frag} {G : ClsAt} {As : List Addr} {F : Hp} : ∀ (q : Nat) {ds : List D} {vs : List V}, DenL K G As F ds vs → DenL K G As F (ds.drop q) (vs.drop q)
  | 0, _, _, h => h
  | _ + 1, _, _, .nil => .nil
  | q + 1, _, _, .cons _ l => DenL.dropD q l
section
variable {P : Program} {w : World} {K : PySem.W.Frag} {mg : Str → Option Value} {base : Heap} {G : ClsAt}
theorem spVar_imp {q : Nat} {m : List D → M D} : ∀ vs H Q E, spVar K G q m vs H Q E → ∃ ws rest, vs = ws ++ rest ∧ ws.length = q ∧ rest.length ≤ sizeLine ∧ ∀ p, H p = none → spPV K G (rDen K G) (q + 1) m (ws ++ [V.ref p]) (upd H p (.tup rest)) Q E := by
  intro vs H Q E ⟨h1, h2, c, ds, o, l, p⟩
  refine ⟨vs.take q, vs.drop q, (List.take_append_drop q vs).symm, by rw [List.length_take]; omega, by rw [List.length_drop, sizeLine_eq]; omega, fun a ha => ⟨by simp [List.length_take]; omega, ?_⟩⟩
  have na : a ∉ c.As := fun z => by
    obtain ⟨_, u, hu⟩ := o.mem z
    rw [ha] at hu; cases hu
  have fa : c.F a = none := o.le.none ha
  have g : ∀ b u, H b = some u → upd H a (.tup (vs.drop q)) b = some u := fun b u e => by rw [upd_ne (ne_of_none e ha)]; exact e
  have o1 : CfOk K G c (upd H a (.tup (vs.drop q))) := o.grow g
  have o2 := o1.share (upd_same) na fa
  have x : Ext c H { c with F := upd c.F a (.tup (vs.drop q)) } (upd H a (.tup (vs.drop q))) := {
    keep := fun b u e _ => .inl (g b u e)
    there := fun b u e => ⟨u, g b u e⟩
    sub := sub_upd fa
    new := fun b u e => by
      by_cases z : b = a
      · rw [z]; exact .inr ha
      · have e' : upd c.F a (.tup (vs.drop q)) b = some u := e
        rw [upd_ne z] at e'; exact .inl e'
    pre := List.prefix_rfl
    anew := fun b h => .inl h }
  refine ⟨{ c with F := upd c.F a (.tup (vs.drop q)) }, varD q ds, o2, ?_, Post.up x p⟩
  refine DenL.app (DenL.mono x.sub x.pre (l.takeD q)) (.cons (.tup (.inl (.inl upd_same)) (DenL.mono x.sub x.pre (l.dropD q))) .nil)
theorem fn_bodyR {Ns ps : List Str} {pv : Str} {N k : Nat} {f : Addr} {m : SM} {mm : List D → M D} {x qual : Str} {params : Arguments} {body : List Stmt} {scope : Scope} {fd : FuncData} (F : FunD K x qual params body scope [] [] f fd) (S : FnScope Ns (ps ++ [pv]) scope)
    (hbd : ∀ (kV doc pm cdv ct : Value) (an : Option Addr) (us rest : List Value), us.length = ps.length → bindArgs (PySem.W.fnOf x qual params body scope .none kV doc pm an cdv ct) ⟨us ++ rest, []⟩ = (newTuple rest >>= fun t => pure (ps.zip us ++ [(pv, t)])))
    (hN : Ns.length = N)
    (hm : ∀ ds s, (match mm ds s with
      | .ok d s' => m (ds.map .val ++ List.replicate (N - ds.length) .no) s = .rt d s' ∨ ((∃ ρ, m (ds.map .val ++ List.replicate (N - ds.length) .no) s = .nx ρ s') ∧ d = .non ∧ ∀ H0 c H, rDen K G H0 c H .non .non)
      | .err e s' => ∃ ρ, m (ds.map .val ++ List.replicate (N - ds.length) .no) s = .err e ρ s'
      | .no => True))
    (hb : ∀ (X : Cx) (E : XK), X.prog = P → X.w = w → X.K = K → X.mg = mg → X.base = base → X.calm = true → X.N = Ns → X.env.scope = scope → (∀ x, X.fn x = true) → Room k X.A → Takes X (WE0 E) → (X.stack = X.env :: X.outer ∧ X.env.frame = some X.env.locals) → PassesOwn (model X.prog X.w) X.A X.env X.xe → VSs G X (WE0 E) (rDen K G) body m) :
    FnR P w K mg base (L2.CX P w) (k + 1) f (spVar K G ps.length mm) := by
  obtain ⟨oc, od, dV, kV, doc, pm, an, cdv, ct, osl, rfl, lk, hcd, hD, _⟩ := F.ex
  obtain rfl : dV = .none := by
    rcases hD with ⟨_, rfl⟩ | ⟨e, _⟩
    · rfl
    · exact absurd rfl e
  refine FnR.imp (StX.fn_star (sp := spPV K G (rDen K G) (ps.length + 1) mm) lk hcd S StX.cxUp (hbd kV doc pm cdv ct an) ?_) spVar_imp
  intro A outer s H vs Q E hr h
  obtain ⟨hl, c, ds, o, l, p⟩ := h
  refine ⟨_, hb (cxOf (L2.CX P w) P w K mg base Ns qual scope f cdv A outer s H E) E rfl rfl rfl rfl rfl rfl rfl rfl (fun _ => rfl) hr (takes_of rfl rfl rfl rfl) ⟨rfl, rfl⟩ PassesOwn.leaving, ?_⟩
  refine ⟨c, H, _, c, Ext.refl c H, o, slots_start hN l, ?_⟩
  have q := hm ds c.st
  cases e : mm ds c.st with
  | no => rw [e] at p; exact p.elim
  | err e' s' =>
    rw [e] at p q
    obtain ⟨ρ, q⟩ := q
    rw [q]
    exact fun σ' F' As' H' cls dx x o _ z => p F' As' H' cls dx x o z
  | ok d s' =>
    rw [e] at p q
    rcases q with q | ⟨⟨ρ, q⟩, rfl, z⟩
    · rw [q]; exact fun v F' As' H' x o r => p v F' As' H' x o r
    · rw [q]; exact fun σ' F' As' H' x o _ => p .non F' As' H' x o (z _ _ _)
end
/-- the callee runs, wherever its values lie -/
theorem run_calR {X : Cx} {G : ClsAt} {W : WX} {k q : Nat} {f : Addr} {m : List D → M D} (F : FnR X.prog X.w X.K X.mg X.base (L2.CX X.prog X.w) k f (spVar X.K G q m)) (hr : Room k X.A) (tk : Takes X W)
    {pins : List (Addr × Obj)} {σ : L2.St} {H : Hp} {s : Shared} {Q : VK} {c : Cf} {ds : List D} {us : List Value} {vs : List V} (I : Inv X pins σ H s) (r : Vals vs us) (o : CfOk X.K G c H) (l : DenL X.K G c.As c.F ds vs) (h1 : q ≤ ds.length) (h2 : ds.length ≤ 1000)
    (p : Post X.K G (PDen X.K G) (fun cls dx H' => W cls dx σ H') c H (m (varD q ds) c.st) Q) : wpAny (model X.prog X.w) X.A (call (.ref f) us) (EP X pins σ Q) X.xe s := by
  refine wpAny_call (codeAny_mono (F X.A X.stack s H us vs Q (WE W σ) hr I.env0 r ⟨by rw [← l.length]; exact h1, by rw [← l.length]; exact h2, c, ds, o, l, p⟩) fun r s' hq => ?_)
  cases r with
  | error e => exact passAt tk σ pins H s e s' I hq
  | ok fl =>
    cases fl with
    | ret u => exact I.after hq
    | next => exact False.elim hq
    | brk => exact False.elim hq
    | cont => exact False.elim hq
section
variable {X : Cx} {G : ClsAt} {W : WX} {T : NT}
structure SmOkR (P : Program) (w : World) (K : PySem.W.Frag) (mg : Str → Option Value) (base : Heap) (G : ClsAt) (k : Nat) (c nm : Str) (q : Nat) (m : List D → M D) : Prop where
  ex : ∃ mc p f rest, PySem.W.readsIn K (G c) mc = true ∧ PySem.W.specialIn K (.ref (G c)) "__getattribute__" = some (some (.builtin "type.__getattribute__")) ∧ PySem.W.findCls K (.ref (G c)) mc nm = some (.get (.builtin "staticmethod.__get__") (.ref p) .none (.ref (G c))) ∧
    PySem.W.recIn K p "staticmethod" = some (.ref f :: rest) ∧ PySem.W.keepIn K (.ref f) = true ∧ FnR P w K mg base (L2.CX P w) k f (spVar K G q m)
  mg : mg c = some (.ref (G c))
def callR (n q : Nat) (m : List D → M D) (ds : List D) : M D := if ds.length = n ∧ q ≤ ds.length ∧ ds.length ≤ 1000 then m (varD q ds) else no
abbrev eSmR (n q : Nat) (m : List D → M D) (fa : Env → M (List D)) : Env → M D := fun ρ => do let ds ← fa ρ; callR n q m ds
variable {P : Program} {w : World} {K : PySem.W.Frag} {mg : Str → Option Value} {base : Heap} {N : List Str} {sc : Scope} {j k n q i : Nat} {m : List D → M D} {C : Str}
theorem ve_smR {nm : Str} {e : Expr} {es : List Expr} {fa : Env → M (List D)} {p apos pos : Pos} {pl : Sem Bool} (c : Ct P w K mg base N sc T j X W) (Sm : SmOkR P w K mg base G k C nm q m) (hkj : k ≤ j) (tj n : Nat) (ha : VA G X W (e :: es) fa) (h : T[tj]? = some (C, .globalImplicit, i) := by rfl)
    (hst : starEach (e :: es) X.env = (false, eval e X.env) :: starEach es X.env := by rfl)
    (hpl : (backTo pos (starEach es X.env)).any (·.1) = false := by rfl)
    (hte : eval (.Call (.Attribute (.Name C p) nm apos) (e :: es) [] pos) X.env = (do
      let ov ← eval (.Name C p) X.env
      standAt apos.atName
      let (f, first) ← holding [ov] (getMethod ov nm pl)
      callWith pos f first (backTo pos (starEach (e :: es) X.env)) (backToKw pos (keywordEach [] X.env))) := by rfl) :
    VE G X W (.Call (.Attribute (.Name C p) nm apos) (e :: es) [] pos) (eSmR n q m fa) := by
  obtain ⟨⟨hP, hw, hK, hmg, hb⟩, on, hN, hs, nd, kd, hr, tk⟩ := c
  subst hP hw hK hmg hb
  obtain ⟨mc, pp, f, rest, r1, r2, r3, r4, kp, F⟩ := Sm.ex
  have cls : VE G X W (.Name C p) (fun _ => pure (.cls C)) := ve_gcls Sm.mg (on.gl h) (on.dbg h)
  refine ⟨fun pins s σ H Q I hh => ?_⟩
  obtain ⟨H0, ρ, c, o, sl, p⟩ := hh
  have st : tV X.K G W (fun _ => pure (.cls C)) σ H fun v H1 => v = .ref (G C) ∧ tL X.K G W fa σ H1 fun vs H2 => ∃ c ds, CfOk X.K G c H2 ∧ DenL X.K G c.As c.F ds vs ∧ q ≤ ds.length ∧ ds.length ≤ 1000 ∧ Post X.K G (PDen X.K G) (fun cls dx H' => W cls dx σ H') c H2 (m (varD q ds) c.st) Q := by
    refine ⟨H0, ρ, c, o, sl, fun v F' As' H' x o' t => ⟨by cases t; rfl, ?_⟩⟩
    refine tL_step rfl o' (sl.ext x) (Post.up x p) fun ds vs c2 H2 x2 o2 sl2 t2 p2 => ?_
    have p2 : Post X.K G (PDen X.K G) _ c2 H2 ((if ds.length = n ∧ q ≤ ds.length ∧ ds.length ≤ 1000 then m (varD q ds) else no) c2.st) Q := p2
    by_cases hc : ds.length = n ∧ q ≤ ds.length ∧ ds.length ≤ 1000
    · rw [if_pos hc] at p2
      exact ⟨c2, ds, o2, t2, hc.2.1, hc.2.2, p2⟩
    · rw [if_neg hc] at p2; exact p2.elim
  refine PySem.W.methodCall_KW (pl := pl) (thn (cls.run pins s σ H _ I st) fun u s1 ⟨x, H1, I1, rx, ex, qq⟩ => ?_) hte
  subst ex
  obtain rfl : u = Value.ref (G C) := rx
  refine getsm_ok I1 r1 r2 r3 r4 fun s2 I2 => ?_
  refine PySem.W.callWith_K (first := []) (h₀ := X.base) I.ok.mod.kin kp (thn (ha.run pos pins s2 σ H1 _ I2 qq) fun us s3 ⟨vs, H2, I3, r, c, ds, o, l, h1, h2, p⟩ => ⟨I3.kIn, ?_⟩) hst hpl
  exact run_calR F (hr.mono hkj) tk I3 r o l h1 h2 p
end
end PV
end

section
/-! d[k] += e, x += e -/
namespace PV
open PySem PySem.Spec L2
open PyProof.Rows hiding St
section
variable {X : Cx} {G : ClsAt} {W : WX} {RP : RPT} {T : NT}
/-- what the dict behind slot i has at a key -/
def itemAt (i : Nat) (ρ : Env) (ix : D) (s : Stt) : Option D := match ρ[i]? with
  | some (.own (.dic ks)) => match ix.key with
    | some k => getK ks k
    | none => none
  | some (.val (.obj n)) => match s[n]? with
    | some (.dic ks) => match ix.key with
      | some k => getK ks k
      | none => none
    | _ => none
  | _ => none
def sAug (i : Nat) (fi fe : Env → M D) : SM := fun ρ s => if refAt i ρ then sB (fi ρ) ρ (fun ix s1 => match itemAt i ρ ix s1 with
  | some (.int a) => sB (fe ρ) ρ (fun v s2 => match v with
    | .int b => match itemAt i ρ ix s2 with
      | some _ => putAt i ρ ix (.int (a + b)) s2
      | none => .no
    | _ => .no) s1
  | _ => .no) s else .no
theorem item_dk {K : PySem.W.Frag} {c : Cf} {H0 H : Hp} {ρ : Env} {σ : L2.St} {i : Nat} {ix d : D} {a : Addr} (o : CfOk K G c H) (sl : Slots K G H0 c H ρ σ) (ea : σ[i]? = some (some (.ref a)))
    (h : itemAt i ρ ix c.st = some d) : ∃ ks ws k, H a = some (.dK ws) ∧ DenK K G c.As c.F ks ws ∧ ix.key = some k ∧ getK ks k = some d := by
  unfold itemAt at h
  split at h
  · rename_i ks e
    split at h
    · rename_i k ek
      have hl : i < σ.length := by rw [← sl.len]; exact (List.getElem?_eq_some_iff.mp e).1
      obtain ⟨b, e2, f, nn, vs, hv, l⟩ := sl.ok i _ _ e (List.getElem?_eq_getElem hl)
      rw [List.getElem?_eq_getElem hl] at ea
      rw [e2] at ea
      cases ea
      exact ⟨_, _, _, hv, l, ek, h⟩
    · cases h
  · rename_i m e
    split at h
    · rename_i ks e2
      split at h
      · rename_i k ek
        obtain ⟨v', e3, t'⟩ := sl.at e
        rw [ea] at e3; cases e3
        cases t' with
        | obj e4 =>
          obtain ⟨_, vs, hv, l⟩ := o.obj m _ _ e4 e2
          exact ⟨_, _, _, hv, l, ek, h⟩
      · cases h
    · cases h
  · cases h
theorem item_at {K : PySem.W.Frag} {c : Cf} {H0 H : Hp} {ρ : Env} {σ : L2.St} {i : Nat} {ix : D} {y : V} {a : Addr} {n : Int} (o : CfOk K G c H) (sl : Slots K G H0 c H ρ σ) (ti : DenT K G c H ix y) (ea : σ[i]? = some (some (.ref a)))
    (h : itemAt i ρ ix c.st = some (.int n)) : DGet H a y (some (.int n)) := by
  obtain ⟨ks, ws, k, hv, l, ek, hg⟩ := item_dk o sl ea h
  have := key_denT ek ti
  subst this
  have g := getK_den (k := k) l
  rw [hg] at g
  obtain ⟨v, e1, t⟩ := g
  cases t
  rw [← e1]
  exact DGet.k hv
theorem put_atD {RP : RPT} {K : PySem.W.Frag} {c0 c : Cf} {H0 H : Hp} {ρ : Env} {σ : L2.St} {i : Nat} {v ix : D} {w y : V} {D : Ends} {a : Addr} {ws : List (Key × V)} (x : Ext c0 H0 c H) (o : CfOk K G c H) (sl : Slots K G H0 c H ρ σ) (t : Den K G c.As c.F v w) (ti : DenT K G c H ix y)
    (ea : σ[i]? = some (some (.ref a))) (hd : H a = some (.dK ws)) (p : SPost K G RP W c0 H0 (putAt i ρ ix v c.st) D) : ∃ H', DPut H a y w H' ∧ D.nx σ H' := by
  obtain ⟨b, eb, q⟩ := put_at x o sl t ti p
  rw [ea] at eb; cases eb
  rcases q with ⟨b, vs, k, j, e1, e2, hv, _, _⟩ | ⟨b, H', e1, h1, h2⟩
  · cases e1
    rw [hd] at hv; cases hv
  · cases e1
    exact ⟨H', h1, h2⟩
theorem vs_aug {x : Str} {k : NameKind} {i : Nat} {ie e : Expr} {fi fe : Env → M D} {xp tp pos : Pos} (on : On X T) (j : Nat) (hu : X.A.units + 1 < cLine) (hi : VR G X W ie fi) (he : VE G X W e fe) (h : T[j]? = some (x, k, i) := by rfl) (hv : visK k = true := by rfl)
    (ha : ∀ ov iv new, augStore ie ov iv new = (do holding [new, ov, iv] (setItem ov iv new); release [new, ov, iv] []; pure .next) := by intros; rfl) :
    VS G X W RP (.AugAssign (.Subscript (.Name x xp) ie tp) .Add e pos) (sAug i fi fe) :=
  PS.imp (ps_daug hu (pe_var (i := i) (on.at h hv) (on.vis h hv) (on.dbg h) (on.cd h)) hi he in_add ha) fun D σ H ⟨c0, H0, ρ, c, x, o, sl, p⟩ => by
    by_cases hr : refAt i ρ = true
    · unfold sAug at p
      rw [if_pos hr] at p
      obtain ⟨a, ea⟩ := refAt_at sl hr
      refine ⟨.ref a, ea, H0, ρ, c, o, sl, s_step x sl p fun ix y c1 H1 x1 x1' o1 sl1 ti p1 => ?_⟩
      cases ei : itemAt i ρ ix c1.st with
      | none => rw [ei] at p1; exact p1.elim
      | some d =>
        cases d with
        | int n =>
          rw [ei] at p1
          have g := item_at o1 sl1 ti ea ei
          refine ⟨a, .int n, rfl, g, H0, ρ, c1, o1, sl1, s_step x1' sl1 p1 fun v w c2 H2 x2 x2' o2 sl2 t2 p2 => ?_⟩
          cases v with
          | int b =>
            cases t2
            refine ⟨n, b, rfl, rfl, ?_⟩
            cases e9 : itemAt i ρ ix c2.st with
            | none =>
              simp only at p2
              rw [e9] at p2; exact p2.elim
            | some d9 =>
              simp only at p2
              rw [e9] at p2
              obtain ⟨ks, ws, k, hd, _, _, _⟩ := item_dk o2 sl2 ea e9
              exact put_atD x2' o2 sl2 .int (ti.ext x2) ea hd p2
          | _ => exact p2.elim
        | _ => rw [ei] at p1; exact p1.elim
    · unfold sAug at p
      rw [if_neg hr] at p; exact p.elim
end
end PV
end

section
/-! try: .. except X: .. where nothing is raised; class methods; cls(..); str.partition -/
namespace PV
open PySem PySem.Spec L2
open PyProof.Rows hiding St
/-- a try of which no exception is seen -/
def sTry0 (m : SM) : SM := fun ρ s => match m ρ s with
  | .err _ _ _ => .no
  | r => r
section
variable {P : Program} {w : World} {K : PySem.W.Frag} {mg : Str → Option Value} {base : Heap} {N : List Str} {sc : Scope} {T : NT} {X : Cx} {G : ClsAt} {W : WX} {RP : RPT} {x : Str} {i k j n np : Nat} {m : SM}
theorem Ct.tr (c : Ct P w K mg base N sc T k X W) {W2 : WX} {pn : List (Addr × Obj)} {xe : Value → Shared → Prop} (tk : Takes (X.tr pn xe) W2) : Ct P w K mg base N sc T k (X.tr pn xe) W2 :=
  ⟨⟨c.inn.p, c.inn.w, c.inn.K, c.inn.mg, c.inn.b⟩, ⟨c.on.calm, c.on.nd, c.on.ok⟩, c.n, c.s, c.nd, c.kd, c.room, tk⟩
theorem pss_never {l : List Stmt} : PSs X l (fun _ _ _ => False) := ⟨fun _ _ _ _ _ _ z => z.elim⟩
theorem vs_try0 {C : Addr} {body suite : List Stmt} {b₀ : Stmt} {np pos pos' : Pos} (c : Ct P w K mg base N sc T k X W) (hst : X.stack = X.env :: X.outer ∧ X.env.frame = some X.env.locals) (hm : mg x = some (.ref C)) (tj : Nat)
    (hb : ∀ (W2 : WX) (pn : List (Addr × Obj)) (xe : Value → Shared → Prop), Takes (X.tr pn xe) W2 → PassesOwn (model X.prog X.w) X.A X.env xe → VSs G (X.tr pn xe) W2 RP body m) (h : T[tj]? = some (x, .globalImplicit, i) := by rfl) :
    VS G X W RP (.Try body [.ExceptHandler (some (.Name x np)) none (b₀ :: suite) pos'] [] [] pos) (sTry0 m) :=
  PS.imp (ps_try_only (tb := fun W2 => tS X.K G RP W2 m) (ts := fun _ _ _ _ _ _ => False) (Wout := W) hst.1 hst.2 (c := .ref C) ⟨c.on.gl h, c.on.dbg h, .inl (c.mg' hm)⟩ c.tk hb (fun _ _ _ _ _ _ _ => pss_never)) fun D σ H ⟨c0, H0, ρ, c, x, o, sl, p⟩ => by
    refine ⟨c0, H0, ρ, c, x, o, sl, ?_⟩
    unfold sTry0 at p
    cases e : m ρ c.st with
    | err _ _ _ => rw [e] at p; exact p.elim
    | no => rw [e] at p; exact p.elim
    | _ => rw [e] at p; exact p
end
/-! str.partition -/
def partD (a : Str) : D → M D
  | .str b => if (b.length == 0) = false ∧ a.length ≤ SIZE then pure (.tup [.str (Txt.partition a b).1, .str (Txt.partition a b).2.1, .str (Txt.partition a b).2.2]) else no
  | _ => no
section
variable {X : Cx} {G : ClsAt} {W : WX}
theorem ve_part {o e : Expr} {f g : Env → M D} {apos pos : Pos} (ho : VR G X W o f) (he : VR G X W e g) (hs : starEach [e] X.env = [(false, eval e X.env)] := by rfl) (hbase : attributeBase o "partition" X.env (eval o X.env) = eval o X.env := by rfl) (hline : (apos.endLine == pos.line) = true := by rfl) :
    VE G X W (.Call (.Attribute o "partition" apos) [e] [] pos) (fun ρ => do let x ← f ρ; let a ← asS x; let y ← g ρ; partD a y) :=
  PE.imp (pe_partition ho he hs hbase hline) fun σ H Q ⟨H0, ρ, c, o, sl, p⟩ => tR_step rfl o sl p fun x v c1 H1 x1 o1 sl1 t1 p1 => by
    obtain ⟨a, rfl, p1⟩ := asS_step t1 p1
    refine ⟨⟨a, rfl⟩, tR_step rfl o1 sl1 p1 fun y w c2 H2 x2 o2 sl2 t2 p2 => ?_⟩
    cases y with
    | str b =>
      obtain ⟨hz, p2⟩ := post_if (x := (pure (.tup [.str (Txt.partition a b).1, .str (Txt.partition a b).2.1, .str (Txt.partition a b).2.2]) : M D)) (s := c2.st) p2
      exact ⟨a, b, rfl, by rw [t2.str], hz.1, sz hz.2, fun q hq => p2.newTup o2 hq (.cons .str (.cons .str (.cons .str .nil)))⟩
    | _ => exact p2.elim
end
/-! class methods -/
section
variable {X : Cx} {G : ClsAt} {W : WX} {T : NT}
structure CmOk (P : Program) (w : World) (K : PySem.W.Frag) (mg : Str → Option Value) (base : Heap) (G : ClsAt) (k : Nat) (c nm : Str) (np : Nat) (m : List D → M D) : Prop where
  ex : ∃ mc p f fd ps, ClX.CRead K (G c) mc ∧ ClX.CMet K (G c) mc nm p f ∧ ps.length = np ∧ FnOk P w K mg base (L2.CX P w) k f fd ps (spPV K G (rDen K G) ps.length m) ∧ Binds K fd ps []
  mg : mg c = some (.ref (G c))
theorem code_cal {k : Nat} {f : Addr} {fd : FuncData} {ps : List Str} {m : List D → M D} (F : FnOk X.prog X.w X.K X.mg X.base (L2.CX X.prog X.w) k f fd ps (spPV X.K G (rDen X.K G) ps.length m)) (B : Binds X.K fd ps []) (hr : Room k X.A) (tk : Takes X W)
    {pins : List (Addr × Obj)} {σ : L2.St} {H : Hp} {s : Shared} {Q : VK} {c : Cf} {ds : List D} {us : List Value} {vs : List V} (I : Inv X pins σ H s) (r : Vals vs us) (o : CfOk X.K G c H) (l : DenL X.K G c.As c.F ds vs) (hl : ds.length = ps.length)
    (p : Post X.K G (PDen X.K G) (fun cls dx H' => W cls dx σ H') c H (m ds c.st) Q) :
    codeAny (model X.prog X.w) X.A (.call (.ref f) ⟨us, []⟩) (fun r s' => match r with | .ok (.ret v) => EP X pins σ Q v s' | .ok _ => False | .error e => X.xe e s') s := by
  have hl2 : us.length = ps.length := by rw [← r.length, ← l.length]; exact hl
  have b := B s us I.kIn (by rw [List.append_nil]; exact hl2)
  rw [List.append_nil] at b
  refine codeAny_mono (F.run X.A X.stack s H ⟨us, []⟩ us vs Q (WE W σ) hr I.env0 b r ⟨by rw [← l.length]; exact hl, c, ds, o, l, p⟩) fun r s' hq => ?_
  cases r with
  | error e => exact passAt tk σ pins H s e s' I hq
  | ok fl =>
    cases fl with
    | ret u => exact I.after hq
    | next => exact False.elim hq
    | brk => exact False.elim hq
    | cont => exact False.elim hq
def callC (n np : Nat) (C : Str) (m : List D → M D) (ds : List D) : M D := if ds.length = n ∧ n + 1 = np then m (.cls C :: ds) else no
abbrev eCm (n np : Nat) (C : Str) (m : List D → M D) (fa : Env → M (List D)) : Env → M D := fun ρ => do let ds ← fa ρ; callC n np C m ds
variable {P : Program} {w : World} {K : PySem.W.Frag} {mg : Str → Option Value} {base : Heap} {N : List Str} {sc : Scope} {j k n np i : Nat} {m : List D → M D} {C : Str}
theorem ve_cm {nm : Str} {e : Expr} {es : List Expr} {fa : Env → M (List D)} {p apos pos : Pos} {pl : Sem Bool} (c : Ct P w K mg base N sc T j X W) (Cm : CmOk P w K mg base G k C nm np m) (hkj : k ≤ j) (tj n : Nat) (ha : VA G X W (e :: es) fa) (h : T[tj]? = some (C, .globalImplicit, i) := by rfl)
    (hst : starEach (e :: es) X.env = (false, eval e X.env) :: starEach es X.env := by rfl)
    (hpl : (backTo pos (starEach es X.env)).any (·.1) = false := by rfl)
    (hte : eval (.Call (.Attribute (.Name C p) nm apos) (e :: es) [] pos) X.env = (do
      let ov ← eval (.Name C p) X.env
      standAt apos.atName
      let (f, first) ← holding [ov] (getMethod ov nm pl)
      callWith pos f first (backTo pos (starEach (e :: es) X.env)) (backToKw pos (keywordEach [] X.env))) := by rfl) :
    VE G X W (.Call (.Attribute (.Name C p) nm apos) (e :: es) [] pos) (eCm n np C m fa) := by
  obtain ⟨⟨hP, hw, hK, hmg, hb⟩, on, hN, hs, nd, kd, hr, tk⟩ := c
  subst hP hw hK hmg hb
  obtain ⟨mc, pp, f, fd, ps, rd, cmt, hnp, F, B⟩ := Cm.ex
  have cls : VE G X W (.Name C p) (fun _ => pure (.cls C)) := ve_gcls Cm.mg (on.gl h) (on.dbg h)
  refine ⟨fun pins s σ H Q I hh => ?_⟩
  obtain ⟨H0, ρ, c, o, sl, p⟩ := hh
  have st : tV X.K G W (fun _ => pure (.cls C)) σ H fun v H1 => v = .ref (G C) ∧ tL X.K G W fa σ H1 fun vs H2 => ∃ c ds, CfOk X.K G c H2 ∧ DenL X.K G c.As c.F ds vs ∧ ds.length + 1 = ps.length ∧ Post X.K G (PDen X.K G) (fun cls dx H' => W cls dx σ H') c H2 (m (.cls C :: ds) c.st) Q := by
    refine ⟨H0, ρ, c, o, sl, fun v F' As' H' x o' t => ⟨by cases t; rfl, ?_⟩⟩
    refine tL_step rfl o' (sl.ext x) (Post.up x p) fun ds vs c2 H2 x2 o2 sl2 t2 p2 => ?_
    have p2 : Post X.K G (PDen X.K G) _ c2 H2 ((if ds.length = n ∧ n + 1 = np then m (.cls C :: ds) else no) c2.st) Q := p2
    by_cases hc : ds.length = n ∧ n + 1 = np
    · rw [if_pos hc] at p2
      exact ⟨c2, ds, o2, t2, by rw [hnp, hc.1]; exact hc.2, p2⟩
    · rw [if_neg hc] at p2; exact p2.elim
  refine PySem.W.methodCall_KW (pl := pl) (thn (cls.run pins s σ H _ I st) fun u s1 ⟨x, H1, I1, rx, ex, qq⟩ => ?_) hte
  subst ex
  obtain rfl : u = Value.ref (G C) := rx
  refine ClX.getmethcm_ok I1 rd cmt fun s2 I2 => ?_
  refine ClX.callwith_cm I2 (ClX.base_none I1 (Nat.le_refl _)) cmt.fi (thn (ha.run pos _ s2 σ H1 _ I2 qq) fun us s3 ⟨vs, H2, I3, rv, c, ds, o, l, hl, p⟩ => ⟨⟨ClX.pin_at I3, I3.kIn⟩, ?_⟩) hst hpl
  have z := wpAny_call (PySem.W.method_call (ClX.pin_at I3) (code_cal (us := .ref (G C) :: us) (vs := .ref (G C) :: vs) F B (hr.mono hkj) tk I3 (.cons rfl rv) o (.cons .cls l) hl p))
  exact thn z fun _ _ y => ClX.unpinE y
/-- cls(e, ..), cls a parameter -/
def isCl (C : Str) : D → M Unit
  | .cls c => if c = C then pure () else no
  | _ => no
abbrev eMkL (i : Nat) (C : Str) (n nk np : Nat) (gD : List D → List D → List D) (m : List D → M D) (fa fk : Env → M (List D)) : Env → M D := fun ρ => do let x ← getV i ρ; let _ ← isCl C x; eMk C n nk np gD m fa fk ρ
variable {x : Str} {kk : NameKind} {ks : List Str} {fs : List Form} {gD : List D → List D → List D} {ii : Nat}
theorem ve_mkL {e : Expr} {es : List Expr} {kws : List Keyword} {fa fk : Env → M (List D)} {p pos : Pos} (c : Ct P w K mg base N sc T j X W) (Kk : KOk P w K mg base G k C fs np m) (hkj : k + 1 ≤ j) (tj : Nat) (hf : (n, ks, gD) ∈ fs) (ha : VA G X W (e :: es) fa) (hkw : VK2 G X W kws fk) (h : T[tj]? = some (x, kk, ii) := by rfl) (hv : visK kk = true := by rfl)
    (he : starEach (e :: es) X.env = (false, eval e X.env) :: starEach es X.env := by rfl) (hall : (backToKw pos (keywordEach kws X.env)).all (·.1.isSome) = true := by rfl) (hks : (backToKw pos (keywordEach kws X.env)).filterMap (·.1) = ks := by rfl)
    (hpl : ((backTo pos (starEach (e :: es) X.env)).any (·.1) || (backToKw pos (keywordEach kws X.env)).any (·.1.isNone)) = false := by rfl) : VE G X W (.Call (.Name x p) (e :: es) kws pos) (eMkL ii C n ks.length np gD m fa fk) := by
  obtain ⟨⟨hP, hw, hK, hmg, hb⟩, on, hN, hs, nd, kd, hr, tk⟩ := c
  subst hP hw hK hmg hb
  obtain ⟨f, fd, ps, M_, hnp, F, B⟩ := Kk.ex
  have var : VE G X W (.Name x p) (getV ii) := v_var on tj h hv
  refine ⟨fun pins s σ H Q I hh => ?_⟩
  have st : tV X.K G W (getV ii) σ H fun v H1 => v = .ref (G C) ∧ tL X.K G W fa σ H1 fun vs H2 => tL X.K G W fk σ H2 fun zs H3 => ∃ c ds dk, CfOk X.K G c H3 ∧ DenL X.K G c.As c.F ds vs ∧ DenL X.K G c.As c.F dk zs ∧ ds.length = n ∧ dk.length = ks.length ∧ Post X.K G (PDen X.K G) (fun cls dx H' => W cls dx σ H') c H3 (mkM C np gD m ds dk c.st) Q := by
    obtain ⟨H0, ρ, c, o, sl, p⟩ := hh
    refine tV_step rfl o sl p fun d v c1 H1 x1 o1 sl1 t1 p1 => ?_
    cases d with
    | cls c' =>
      by_cases hcc : c' = C
      · subst hcc
        cases t1
        refine ⟨rfl, ?_⟩
        have p1 : Post X.K G (PDen X.K G) _ c1 H1 ((do let _ ← (if c' = c' then pure () else no : M Unit); eMk c' n ks.length np gD m fa fk ρ) c1.st) Q := p1
        rw [if_pos rfl] at p1
        have p1 : Post X.K G (PDen X.K G) _ c1 H1 (eMk c' n ks.length np gD m fa fk ρ c1.st) Q := p1
        refine tL_step rfl o1 sl1 p1 fun ds vs c2 H2 x2 o2 sl2 t2 p2 => tL_step rfl o2 sl2 p2 fun dk zs c3 H3 x3 o3 sl3 t3 p3 => ?_
        have p3 : Post X.K G (PDen X.K G) _ c3 H3 ((if decide (ds.length = n ∧ dk.length = ks.length) = true then mkM c' np gD m ds dk else no) c3.st) Q := p3
        by_cases hc : ds.length = n ∧ dk.length = ks.length
        · rw [if_pos (decide_eq_true hc)] at p3
          exact ⟨c3, ds, dk, o3, t2.mono x3.sub x3.pre, t3, hc.1, hc.2, p3⟩
        · rw [if_neg (by simpa using hc)] at p3; exact p3.elim
      · have p1 : Post X.K G (PDen X.K G) _ c1 H1 ((do let _ ← (if c' = C then pure () else no : M Unit); eMk C n ks.length np gD m fa fk ρ) c1.st) Q := p1
        rw [if_neg hcc] at p1
        exact p1.elim
    | _ => exact p1.elim
  refine wpAny_Call_Name_kw (thn (var.run pins s σ H _ I st) fun u s1 ⟨v, H1, I1, rv, ev, q⟩ => ?_)
  subst ev
  obtain rfl : u = Value.ref (G C) := rv
  refine PySem.W.callWith_KW (h₀ := X.base) I1.ok.mod.kin M_.kp hall (thn (ha.run pos pins s1 σ H1 _ I1 q) fun us s1 ⟨vs, H1, I1, r, q⟩ => ?_) hpl he
  refine thn (hkw.run pos pins s1 σ H1 _ I1 q) fun ws s2 ⟨zs, H2, I2, rz, c, ds, dk, o, l, lk, h1, h2, p⟩ => ⟨I2.kIn, ?_⟩
  rw [hks]
  exact run_mk M_ F (B _ hf) (hr.mono hkj) tk I2 r rz o l lk h1 h2 (by rw [hnp]; exact p)
end

abbrev cmA (x m : Str) : PySem.W.Frag → Addr := fun K => recHd K (maA x m K) "classmethod"
def isCmGet (K : PySem.W.Frag) (C : Addr) (m : Str) (p : Addr) : Bool := match PySem.W.findCls K (.ref C) (mcOf K C) m with
  | some (.get (.builtin i) (.ref q) .none (.ref D)) => decide (i = "classmethod.__get__") && (decide (q = p) && decide (D = C))
  | _ => false
theorem isCmGet_ok {K : PySem.W.Frag} {C p : Addr} {m : Str} (h : isCmGet K C m p = true) : PySem.W.findCls K (.ref C) (mcOf K C) m = some (.get (.builtin "classmethod.__get__") (.ref p) .none (.ref C)) := by
  unfold isCmGet at h
  split at h
  · rename_i i q D e
    obtain ⟨h1, h2⟩ := Bool.and_eq_true_iff.mp h
    obtain ⟨h3, h4⟩ := Bool.and_eq_true_iff.mp h2
    rw [e, of_decide_eq_true h1, of_decide_eq_true h3, of_decide_eq_true h4]
  · cases h
def bCm (x m : Str) : FB := fun K => PySem.W.readsIn K (He.ga K x) (mcOf K (He.ga K x)) && (He.eqO (PySem.W.specialIn K (.ref (He.ga K x)) "__getattribute__") (some (some (.builtin "type.__getattribute__"))) && (isCmGet K (He.ga K x) m (maA x m K) &&
  (PySem.W.fnIn K (cmA x m K) && (match PySem.W.recIn K (maA x m K) "classmethod" with | some (.ref _ :: _) => true | _ => false))))
theorem bCm_ok {x m : Str} {K : PySem.W.Frag} (h : bCm x m K = true) : ∃ mc p, ClX.CRead K (He.ga K x) mc ∧ ClX.CMet K (He.ga K x) mc m p (cmA x m K) := by
  obtain ⟨h1, h2⟩ := Bool.and_eq_true_iff.mp h
  obtain ⟨h3, h4⟩ := Bool.and_eq_true_iff.mp h2
  obtain ⟨h5, h6⟩ := Bool.and_eq_true_iff.mp h4
  obtain ⟨h7, h8⟩ := Bool.and_eq_true_iff.mp h6
  exact ⟨_, _, ⟨h1, He.eqO_ok h3⟩, ⟨isCmGet_ok h5, recHd_ok h8, h7⟩⟩
end PV
end

section
/-! d[k], y = v, w -/
namespace PV
open PySem PySem.Spec L2
open PyProof.Rows hiding St
def sPutN (i : Nat) (fi : Env → M D) (fa : Env → M (List D)) (j : Nat) : SM := fun ρ s => if refAt i ρ = true ∧ j ≠ i then sB (fa ρ) ρ (fun ds s2 => match ds with
  | [v, w] => sB (fi ρ) ρ (fun ix s3 => putAt i (ρ.set j (.val w)) ix v s3) s2
  | _ => .no) s else .no
section
variable {X : Cx} {G : ClsAt} {W : WX} {RP : RPT} {T : NT}
theorem vs_putN {x y : Str} {k k2 : NameKind} {i i2 : Nat} {ie e1 e2 : Expr} {fi : Env → M D} {fa : Env → M (List D)} {xp tp yp vpos tpos pos : Pos} {kt kv : Nat} (on : On X T) (j j2 : Nat) (hu : X.A.units + 1 < cLine) (hi : VR G X W ie fi) (he : VA G X W [e1, e2] fa)
    (h : T[j]? = some (x, k, i) := by rfl) (hv : visK k = true := by rfl) (h2 : T[j2]? = some (y, k2, i2) := by rfl) (hk2 : k2 = .local ∨ k2 = .cell := by first | exact .inl rfl | exact .inr rfl) (hf : X.fn y = true ∨ k2 = .local := by first | exact .inr rfl | assumption)
    (ha : ∀ v, assign (.Subscript (.Name x xp) ie tp) X.env v = (do
      let ov ← holding [v] (eval (.Name x xp) X.env)
      let iv ← holding [v, ov] (eval ie X.env)
      standAt tp
      holding [v, ov, iv] (setItem ov iv v)
      release [v, ov, iv] []) := by intro _; rfl)
    (hs : swapsWithSole [.Tuple [.Subscript (.Name x xp) ie tp, .Name y yp] kt tpos] (.Tuple [e1, e2] kv vpos) pos.line X.env = pure false := by rfl) (hw : swappedStores [.Tuple [.Subscript (.Name x xp) ie tp, .Name y yp] kt tpos] (.Tuple [e1, e2] kv vpos) X.env = pure none := by rfl)
    (h1 : (assignEach [.Tuple [.Subscript (.Name x xp) ie tp, .Name y yp] kt tpos] X.env).map (·.2) = [assign (.Tuple [.Subscript (.Name x xp) ie tp, .Name y yp] kt tpos) X.env] := by rfl)
    (hn : (assignEach [.Subscript (.Name x xp) ie tp, .Name y yp] X.env).length = 2 := by rfl) (hst : (assignEach [.Subscript (.Name x xp) ie tp, .Name y yp] X.env).findIdx? (·.1) = none := by rfl) :
    VS G X W RP (.Assign [.Tuple [.Subscript (.Name x xp) ie tp, .Name y yp] kt tpos] (.Tuple [e1, e2] kv vpos) pos) (sPutN i fi fa i2) :=
  PS.imp (ps_asg (pe_tup he) (pg_tup on.calm (pgs_cons (pg_sub (pe_var (i := i) (on.at h hv) (on.vis h hv) (on.dbg h) (on.cd h)) hi (put_any hu) ha) (pgs_cons (pg_name (i := i2) on.nd (on.at h2 (by rcases hk2 with rfl | rfl <;> rfl)) (on.loc h2 hk2) (hf.elim .inl fun z => .inr (by rw [on.kind h2, z]))) pgs_nil)) hn hst) hs hw h1) fun D σ H ⟨c0, H0, ρ, c, x, o, sl, p⟩ => by
    unfold sPutN at p
    by_cases hr : refAt i ρ = true ∧ i2 ≠ i
    · rw [if_pos hr] at p
      refine ⟨H0, ρ, c, o, sl, s_step x sl p fun ds vs c1 H1 x1 x1' o1 sl1 t1 p1 => ?_⟩
      cases t1 with
      | nil => exact p1.elim
      | @cons v v' ds' vs' tv l1 =>
        cases l1 with
        | nil => exact p1.elim
        | @cons w w' ds'' vs'' tw l2 =>
          cases l2 with
          | cons _ _ => exact p1.elim
          | nil =>
            refine ⟨by show 2 ≤ sizeLine; decide, fun q hq => ?_⟩
            have nq : q ∉ c1.As := o1.notAs hq
            have fq : c1.F q = none := o1.le.none hq
            have o2 : CfOk X.K G c1 (upd H1 q (.tup [v', w'])) := o1.grow (upd_keep hq)
            have x2 : Ext c1 H1 c1 (upd H1 q (.tup [v', w'])) := Ext.heap (upd_keep hq)
            have sl2 := sl1.ext x2
            have x2' := x1'.trans x2
            refine ⟨q, [v', w'], rfl, .inl (.inl upd_same), rfl, v', [w'], rfl, ?_⟩
            obtain ⟨a, ea⟩ := refAt_at sl hr.1
            refine ⟨.ref a, ea, H0, ρ, c1, o2, sl2, s_step x2' sl2 p1 fun ix y c3 H3 x3 x3' o3 sl3 ti p3 => ?_⟩
            have sl4 := sl3.val i2 ((tw.mono x2.sub x2.pre).mono x3.sub x3.pre)
            obtain ⟨b, eb, q⟩ := put_at x3' o3 sl4 ((tv.mono x2.sub x2.pre).mono x3.sub x3.pre) ti p3
            rw [List.getElem?_set_ne hr.2, ea] at eb
            cases eb
            exact q.imp (fun ⟨b, xs, k, j, e1, e2, e3, e4, e5⟩ => ⟨b, xs, k, j, e1, e2, e3, e4, w', [], rfl, rfl, e5⟩) (fun ⟨b, H', e1, e2, e3⟩ => ⟨b, H', e1, e2, w', [], rfl, rfl, e3⟩)
    · rw [if_neg hr] at p; exact p.elim
end
end PV
end

section
/-! a, b, c = x, y, z where a name is a cell -/
namespace PV
open PySem PySem.Spec L2
open PyProof.Rows hiding St
section
variable {X : Cx} {G : ClsAt} {W : WX} {RP : RPT} {T : NT}
theorem vs_par3C {i j l : Nat} {x y z : Str} {ki kj kl : NameKind} {a b c : Expr} {f g h : Env → M D} {w1 w2 w3 : Bool} {px py pz pt pos : Pos} {kt k2 pt2} (on : On X T) (jx jy jz : Nat) (ha : PE X a (tNV X.K G w1 W f)) (hb : PE X b (tNV X.K G w2 W g)) (hc : PE X c (tNV X.K G w3 W h))
    (hx : T[jx]? = some (x, ki, i) := by rfl) (hy : T[jy]? = some (y, kj, j) := by rfl) (hz : T[jz]? = some (z, kl, l) := by rfl)
    (hki : ki = .local ∨ ki = .cell := by first | exact .inl rfl | exact .inr rfl) (hkj : kj = .local ∨ kj = .cell := by first | exact .inl rfl | exact .inr rfl) (hkl : kl = .local ∨ kl = .cell := by first | exact .inl rfl | exact .inr rfl)
    (hfi : X.fn x = true ∨ ki = .local := by first | exact .inr rfl | assumption) (hfj : X.fn y = true ∨ kj = .local := by first | exact .inr rfl | assumption) (hfl : X.fn z = true ∨ kl = .local := by first | exact .inr rfl | assumption)
    (hst : starEach [a, b, c] X.env = (false, eval a X.env) :: starEach [b, c] X.env := by rfl) (hst2 : starEach [b, c] X.env = (false, eval b X.env) :: starEach [c] X.env := by rfl) (hst3 : starEach [c] X.env = [(false, eval c X.env)] := by rfl)
    (hw : swappedStores [.Tuple [.Name x px, .Name y py, .Name z pz] kt pt] (.Tuple [a, b, c] k2 pt2) X.env = pure none)
    (hs : swapsWithSole [.Tuple [.Name x px, .Name y py, .Name z pz] kt pt] (.Tuple [a, b, c] k2 pt2) pos.line X.env = pure false := by rfl) :
    VS G X W RP (.Assign [.Tuple [.Name x px, .Name y py, .Name z pz] kt pt] (.Tuple [a, b, c] k2 pt2) pos) (sPar3 i j l w1 w2 w3 f g h) := by
  have gx : PG X (.Name x px) (gName i) := pg_name on.nd (on.at hx (by rcases hki with rfl | rfl <;> rfl)) (on.loc hx hki) (hfi.elim .inl fun z => .inr (by rw [on.kind hx, z]))
  have gy : PG X (.Name y py) (gName j) := pg_name on.nd (on.at hy (by rcases hkj with rfl | rfl <;> rfl)) (on.loc hy hkj) (hfj.elim .inl fun z => .inr (by rw [on.kind hy, z]))
  have gz : PG X (.Name z pz) (gName l) := pg_name on.nd (on.at hz (by rcases hkl with rfl | rfl <;> rfl)) (on.loc hz hkl) (hfl.elim .inl fun q => .inr (by rw [on.kind hz, q]))
  have gt : PG X (.Tuple [.Name x px, .Name y py, .Name z pz] kt pt) (gTup X.K 3 (gCons (gName i) (gCons (gName j) (gCons (gName l) gNil)))) := pg_tup on.calm (pgs_cons gx (pgs_cons gy (pgs_cons gz pgs_nil)))
  refine PS.imp (ps_asg (pe_tup (pa_cons ha (pa_cons hb (pa_cons hc pa_nil hst3) hst2) hst)) gt hs hw rfl) fun D σ H ⟨c0, H0, ρ, c, x, o, sl, p⟩ => ?_
  refine ⟨H0, ρ, c, o, sl, s_step x sl p fun d v c1 H1 x1 x1' o1 sl1 t1 p1 => ⟨H0, ρ, c1, o1, sl1, s_step x1' sl1 p1 fun d' v' c2 H2 x2 x2' o2 sl2 t2 p2 => ⟨H0, ρ, c2, o2, sl2, s_step x2' sl2 p2 fun d3 v3 c3 H3 x3 x3' o3 sl3 t3 p3 =>
    ⟨(by decide : 3 ≤ sizeLine), fun q hq => ⟨q, [v, v', v3], rfl, SqT.of upd_same, rfl, v, [v', v3], rfl, v', [v3], rfl, v3, [], rfl, rfl, ?_⟩⟩⟩⟩⟩
  have x4 : Ext c3 H3 c3 (upd H3 q (.tup [v, v', v3])) := Ext.heap (upd_keep hq)
  refine p3 _ c3.F c3.As _ (x3'.trans x4) (o3.grow (upd_keep hq)) ?_
  have s1 : Slots X.K G H0 c1 H1 (ρ.set i (slotOf w1 d)) (σ.set i (some v)) := Slots.vn sl sl1 i t1 fun a h => x.none h
  have s2 : Slots X.K G H0 c2 H2 ((ρ.set i (slotOf w1 d)).set j (slotOf w2 d')) ((σ.set i (some v)).set j (some v')) := Slots.vn s1 (s1.ext x2) j t2 fun a h => x1'.none h
  exact Slots.vn s2 (s2.ext (x3.trans x4)) l (PVN.ext x4 t3) fun a h => x2'.none h
end
end PV
end

section
/-! x = {k: v for ..}, x a local -/
namespace PV
open PySem PySem.Spec L2
open PyProof.Rows hiding St
section
variable {X : Cx} {G : ClsAt} {W : WX} {RP : RPT} {T : NT}
theorem ps_setDc {i : Nat} {y : Str} {py : Pos} {kx vx tg iter : Expr} {ifs : List Expr} {scope : Scope} {own : List (Str × Nat)} {pos spos : Pos} {wi : TI} {g : TG} {tt : TT} {tk tv : TE} (hc : X.calm = true) (hN : X.N.Nodup) (hy : X.N[i]? = some y) (hyl : X.env.scope.names.lookup y = some .local)
    (hsw : swapsWith (.DictComp kx vx [⟨tg, iter, ifs, 0⟩] scope pos) (some (.Name y py)) spos.line X.env = pure true) (hi : PI X tg iter wi) (ok : BlkOk X.N X.env.scope scope own)
    (hg : ∀ (s : Shared) (H : Hp) (C : Addr) (cl : List (Str × Addr)) (fp : List Addr), PG (X.blk s H scope (compEnvC scope cl C X.env) fp) tg g) (ht : ∀ (s : Shared) (H : Hp) (C : Addr) (cl : List (Str × Addr)) (fp : List Addr), PTs (X.blk s H scope (compEnvC scope cl C X.env) fp) ifs tt)
    (hk : ∀ (s : Shared) (H : Hp) (C : Addr) (cl : List (Str × Addr)) (fp : List Addr), PE (X.blk s H scope (compEnvC scope cl C X.env) fp) kx tk)
    (he : ∀ (s : Shared) (H : Hp) (C : Addr) (cl : List (Str × Addr)) (fp : List Addr), PE (X.blk s H scope (compEnvC scope cl C X.env) fp) vx tv) (hs : ∀ x, foldedSetIterable iter X.env x = pure x := by intro _; rfl) :
    PS X (.Assign [.Name y py] (.DictComp kx vx [⟨tg, iter, ifs, 0⟩] scope pos) spos) (tAsg (tDc wi g tt tk tv (own.map (·.2))) (gName i)) := by
  refine ⟨fun pins s σ H D I h => ?_⟩
  rw [exec_Assign_Name_used _ _ _ _ hsw]
  refine wpAny_bind (wpAny_standAt (wpAny_bind ?_))
  show wpAny _ X.A (do let _ ← comprehension (.DictComp kx vx [⟨tg, iter, ifs, 0⟩] scope pos) scope X.env (firstIterPos [⟨tg, iter, ifs, 0⟩] pos) newDict false (eval iter X.env) (some (assign (.Name y py) X.env))) _ _ s
  have h : tDc wi g tt tk tv (own.map (·.2)) σ H (fun x H1 => gName i x σ H1 D.nx) := h
  refine wpAny_bind (thn (L2.dc_core (Qf := fun _ s' => SP X pins D .next s') hc hN I hi ok hg ht hk he hs h fun L C s' m H' I' q hn f => ?_) fun _ s' hq => wpAny_pure (wpAny_pure hq))
  show wpAny _ _ (assign (.Name y py) X.env (.ref L)) _ _ _
  refine wpAny_assign_Name (store_ok2 (v := V.ref L) I' hN hy (.inl hyl) rfl (fun s2 I2 ⟨a, sb, ha⟩ => ?_) (.inr hyl))
  obtain ⟨f0, f1, f2, f3, f4, f5⟩ := f
  have haC : C ≠ a := by
    rcases ha with z | z
    · rw [z]; exact f1
    · exact fun e => f4 y a z e.symm
  refine ⟨m, hn.sameBut sb haC, fun h3 sb3 => ?_⟩
  exact ⟨_, H', I2.turned (t' := s2.toks) (fun b o hb e => (sb3.2 b hb).trans e) f0 f1 f3 f4 f5, q⟩
theorem sw_trueD {kx vx : Expr} {gs : List Comprehension} {scope : Scope} {pos py : Pos} {y : Str} {l : Nat} {env : PySem.Env} (hk : env.scope.kind = .function) (hy : env.scope.names.lookup y = some .local) (hl : (py.line == pos.line) = true)
    (ha : (scope.names.any fun (n, k) => n == y && (k == .local || k == .cell)) = false) : swapsWith (.DictComp kx vx gs scope pos) (some (.Name y py)) l env = pure true := by
  have ky : env.kindOf y = some .local := hy
  have hb : env.blockKind = .function := by unfold PySem.Env.blockKind; rw [hk]; rfl
  unfold swapsWith
  simp only [hb, ky, ha, Expr.pos, hl]
  rfl
theorem vs_setDc {x : Str} {i : Nat} {px spos : Pos} {kx vx tg iter : Expr} {ifs : List Expr} {scope : Scope} {own : List (Str × Nat)} {vs : List Nat} {pos : Pos} {f : Env → M (List D)} {g : D → Env → Option Env} {t : Env → M Bool} {k v : Env → M D} (on : On X T) (j : Nat) (hi : VI G X W tg iter f) (ok : BlkOk X.N X.env.scope scope own) (hv : own.map (·.2) = vs)
    (hg : ∀ (s : Shared) (H : Hp) (C : Addr) (cl : List (Str × Addr)) (fp : List Addr), VG G (X.blk s H scope (compEnvC scope cl C X.env) fp) tg vs g) (ht : ∀ (s : Shared) (H : Hp) (C : Addr) (cl : List (Str × Addr)) (fp : List Addr), VTs G (X.blk s H scope (compEnvC scope cl C X.env) fp) W0 ifs t)
    (hk : ∀ (s : Shared) (H : Hp) (C : Addr) (cl : List (Str × Addr)) (fp : List Addr), VE G (X.blk s H scope (compEnvC scope cl C X.env) fp) W0 kx k)
    (he : ∀ (s : Shared) (H : Hp) (C : Addr) (cl : List (Str × Addr)) (fp : List Addr), VE G (X.blk s H scope (compEnvC scope cl C X.env) fp) W0 vx v) (hkd : X.env.scope.kind = .function)
    (hl : (px.line == pos.line) = true := by rfl) (ha : (scope.names.any fun (n, k) => n == x && (k == .local || k == .cell)) = false := by decide) (hj : T[j]? = some (x, .local, i) := by rfl) (hs : ∀ x, foldedSetIterable iter X.env x = pure x := by intro _; rfl) :
    VS G X W RP (.Assign [.Name x px] (.DictComp kx vx [⟨tg, iter, ifs, 0⟩] scope pos) spos) (sSetO i (dcD f g t k v vs)) := by
  subst hv
  exact PS.imp (ps_setDc on.calm on.nd (on.at hj rfl) (on.kind hj) (sw_trueD hkd (on.kind hj) hl ha) hi ok hg ht hk he hs) fun D σ H ⟨c0, H0, ρ, c, x, o, sl, p⟩ => dc_tr
    ⟨H0, ρ, c, o, sl, s_step x sl p fun d v c' H' _ x' o' sl' q p' => p' _ c'.F c'.As H' x' o' (Slots.own sl sl' i q fun a => x.none)⟩
end
end PV
end

section
/-! while; dicts from names to values -/
namespace PV
open PySem PySem.Spec L2
open PyProof.Rows hiding St
section
variable {s : Stt} {ρ : Env} {N B C : Env → Stt → Prop} {R : D → Stt → Prop} {E : Err → Stt → Prop}
/-- a while that asks nothing of the store, by an invariant with a measure -/
theorem w_whP {t : Env → M Bool} {m : SM} (I : Nat → Env → Prop) (k : Nat) (h0 : I k ρ)
    (hs : ∀ k ρ, I k ρ → EV (t ρ) s (fun b s' => s' = s ∧ (b = true → WP m ρ s (fun ρ' s' => s' = s ∧ ∃ k', k' < k ∧ I k' ρ') R N (fun ρ' s' => s' = s ∧ ∃ k', k' < k ∧ I k' ρ') E) ∧ (b = false → N ρ s)) E) : WP (sWhile t m) ρ s N R B C E := by
  have key : ∀ (k : Nat) (ρ : Env), I k ρ → WP (sWh t m (k + 1)) ρ s N R B C E := by
    intro k
    induction k using Nat.strongRecOn with
    | _ k ih =>
      intro ρ hi
      have h := hs k ρ hi
      unfold EV at h
      unfold WP sWh sB
      cases e : t ρ s with
      | no => rw [e] at h; exact h
      | err x s' => rw [e] at h; exact h
      | ok b s' =>
        rw [e] at h
        obtain ⟨rfl, ht, hf⟩ := h
        cases b with
        | false => exact hf rfl
        | true =>
          have hw := ht rfl
          unfold WP at hw
          simp only [if_true]
          have next : ∀ ρ2 s2, (s2 = s' ∧ ∃ k', k' < k ∧ I k' ρ2) → (match sWh t m k ρ2 s2 with
            | .nx ρ' s' => N ρ' s'
            | .rt d s' => R d s'
            | .bk ρ' s' => B ρ' s'
            | .ct ρ' s' => C ρ' s'
            | .err e _ s' => E e s'
            | .no => False) := by
            rintro ρ2 s2 ⟨rfl, k', hk, hi'⟩
            have w := ih k' hk ρ2 hi'
            unfold WP at w
            have ne : sWh t m (k' + 1) ρ2 s2 ≠ .no := fun z => by rw [z] at w; exact w
            have q := sWh_le ne (k - (k' + 1))
            rw [show k' + 1 + (k - (k' + 1)) = k by omega] at q
            rw [q]; exact w
          cases e2 : m ρ s' with
          | nx ρ2 s2 => rw [e2] at hw; exact next ρ2 s2 hw
          | ct ρ2 s2 => rw [e2] at hw; exact next ρ2 s2 hw
          | bk ρ2 s2 => rw [e2] at hw; exact hw
          | rt d s2 => rw [e2] at hw; exact hw
          | err e' ρ2 s2 => rw [e2] at hw; exact hw
          | no => rw [e2] at hw; exact hw
  have w := key k ρ h0
  unfold WP at w ⊢
  have ne : sWh t m (k + 1) ρ s ≠ .no := fun z => by rw [z] at w; exact w
  rw [sWhile_eq ne]; exact w
end
section
variable {α : Type}
/-- a dict from names to values -/
def dcV (f : α → D) (l : List (Str × α)) : List (Key × D) := l.map fun p => ((.inr p.1 : Key), f p.2)
def vget (l : List (Str × α)) (z : Str) : Option α := (l.find? fun p => decide (p.1 = z)).map (·.2)
def putV (l : List (Str × α)) (z : Str) (a : α) : List (Str × α) := if (l.any fun p => decide (p.1 = z)) = true then l.map (fun p => if p.1 = z then (p.1, a) else p) else l ++ [(z, a)]
variable {f : α → D} {l : List (Str × α)} {z : Str} {a : α}
theorem anyV : (l.any fun p => decide (p.1 = z)) = true ↔ z ∈ l.map (·.1) := by
  simp [List.any_eq_true, List.mem_map]
theorem putD_dcV (f : α → D) (l : List (Str × α)) (z : Str) (a : α) : putD (dcV f l) (.inr z) (f a) = dcV f (putV l z a) := by
  have e : ((dcV f l).any fun p => decide (p.1 = (.inr z : Key))) = (l.any fun p => decide (p.1 = z)) := by
    unfold dcV
    rw [List.any_map]
    exact congrArg (fun f => l.any f) (funext fun p => by simp [Function.comp, inr_eq])
  unfold putD putV
  rw [e]
  by_cases h : (l.any fun p => decide (p.1 = z)) = true
  · rw [if_pos h, if_pos h]
    unfold dcV
    rw [List.map_map, List.map_map]
    refine List.map_congr_left fun p _ => ?_
    by_cases q : p.1 = z
    · simp [Function.comp, q]
    · simp [Function.comp, q, inr_eq]
  · rw [if_neg h, if_neg h]
    unfold dcV
    rw [List.map_append]
    rfl
theorem getK_dcV (f : α → D) (l : List (Str × α)) (z : Str) : getK (dcV f l) (.inr z) = (vget l z).map f := by
  unfold getK vget dcV
  rw [List.find?_map]
  have e : ((fun p : Key × D => decide (p.1 = (.inr z : Key))) ∘ fun p : Str × α => ((.inr p.1 : Key), f p.2)) = fun p => decide (p.1 = z) := funext fun p => by simp [Function.comp, inr_eq]
  rw [e, Option.map_map, Option.map_map]
  rfl
theorem keys_dcV (f : α → D) (l : List (Str × α)) : keysD (dcV f l) = (l.map (·.1)).map D.str := by
  unfold keysD dcV
  rw [List.map_map, List.map_map]
  rfl
theorem strs_keysV (f : α → D) (l : List (Str × α)) : strsD (keysD (dcV f l)) = some (l.map (·.1)) := by rw [keys_dcV]; exact strs_str _
theorem len_dcV (f : α → D) (l : List (Str × α)) : (dcV f l).length = l.length := by unfold dcV; rw [List.length_map]
theorem vget_mem (h : z ∈ l.map (·.1)) : ∃ a, vget l z = some a ∧ (z, a) ∈ l := by
  unfold vget
  cases e : l.find? fun p => decide (p.1 = z) with
  | none =>
    obtain ⟨p, hp, rfl⟩ := List.mem_map.mp h
    have := List.find?_eq_none.mp e p hp
    simp at this
  | some p =>
    have h1 := List.mem_of_find?_eq_some e
    have h2 : p.1 = z := by simpa using List.find?_some e
    subst h2
    exact ⟨p.2, rfl, h1⟩
theorem vget_in (h : vget l z = some a) : (z, a) ∈ l := by
  unfold vget at h
  cases e : l.find? fun p => decide (p.1 = z) with
  | none => rw [e] at h; cases h
  | some p =>
    rw [e] at h
    have h1 := List.mem_of_find?_eq_some e
    have h2 : p.1 = z := by simpa using List.find?_some e
    subst h2
    cases h
    exact h1
theorem vget_none : vget l z = none ↔ z ∉ l.map (·.1) := by
  constructor
  · intro h hm
    obtain ⟨a, e, _⟩ := vget_mem hm
    rw [h] at e; cases e
  · intro h
    cases e : vget l z with
    | none => rfl
    | some a => exact absurd (List.mem_map.mpr ⟨_, vget_in e, rfl⟩) h
theorem vget_of (h : (l.map (·.1)).Nodup) {p : Str × α} (hp : p ∈ l) : vget l p.1 = some p.2 := by
  obtain ⟨a, e, ha⟩ := vget_mem (List.mem_map_of_mem (f := (·.1)) hp)
  have : a = p.2 := by
    induction l with
    | nil => cases hp
    | cons q0 l ih =>
      rw [List.map_cons, List.nodup_cons] at h
      rcases List.mem_cons.mp hp with hp | hp
      · subst hp
        rcases List.mem_cons.mp ha with q | q
        · rw [← q]
        · exact absurd (List.mem_map.mpr ⟨_, q, rfl⟩) h.1
      · rcases List.mem_cons.mp ha with q | q
        · exact absurd (List.mem_map.mpr ⟨p, hp, by rw [← q]⟩) h.1
        · have hm := List.mem_map_of_mem (f := (·.1)) hp
          obtain ⟨b, eb, hb⟩ := vget_mem hm
          have e3 : vget l p.1 = some a := by
            have z : vget (q0 :: l) p.1 = vget l p.1 := by
              unfold vget
              rw [List.find?_cons, decide_eq_false]
              intro z
              exact h.1 (z ▸ hm)
            rw [← z]; exact e
          exact ih h.2 hp e3 q
  rw [e, this]
theorem putV_new (h : z ∉ l.map (·.1)) : putV l z a = l ++ [(z, a)] := by
  unfold putV
  rw [if_neg (fun q => h (anyV.mp q))]
theorem mergeV_new (f : α → D) : ∀ (ps acc : List (Str × α)), ((acc ++ ps).map (·.1)).Nodup → mergeD (dcV f acc) (dcV f ps) = dcV f (acc ++ ps)
  | [], acc, _ => by simp [mergeD, dcV]
  | p :: ps, acc, h => by
    have h1 : p.1 ∉ acc.map (·.1) := fun q => by
      rw [List.map_append, List.map_cons, List.nodup_append] at h
      exact h.2.2 _ q _ List.mem_cons_self rfl
    show mergeD (putD (dcV f acc) (.inr p.1) (f p.2)) (dcV f ps) = _
    rw [putD_dcV, putV_new h1, mergeV_new f ps (acc ++ [p]) (by simpa using h)]
    simp
theorem pairs_tupV (f : α → D) : ∀ l : List (Str × α), pairsOf (l.map fun p => D.tup [.str p.1, f p.2]) = some (dcV f l)
  | [] => rfl
  | p :: ps => by
    rw [List.map_cons]
    unfold pairsOf
    simp only [D.key, pairs_tupV f ps]
    rfl
theorem vget_map {β : Type} (g : Str → α → β) : vget (l.map fun p => (p.1, g p.1 p.2)) z = (vget l z).map (g z) := by
  unfold vget
  rw [List.find?_map]
  show Option.map _ (Option.map _ (List.find? (fun p : Str × α => decide (p.1 = z)) l)) = _
  cases e : List.find? (fun p : Str × α => decide (p.1 = z)) l with
  | none => rfl
  | some p =>
    have h2 : p.1 = z := by simpa using List.find?_some e
    subst h2
    rfl
end
/-! two strictly ordered lists of the same names are one -/
theorem srt_ext : ∀ {a b : List Str}, a.Pairwise (fun x y => ltS x y = true) → b.Pairwise (fun x y => ltS x y = true) → (∀ z, z ∈ a ↔ z ∈ b) → a = b
  | [], [], _, _, _ => rfl
  | [], y :: b, _, _, h => absurd ((h y).mpr List.mem_cons_self) (by simp)
  | x :: a, [], _, _, h => absurd ((h x).mp List.mem_cons_self) (by simp)
  | x :: a, y :: b, ha, hb, h => by
    have ha' := List.pairwise_cons.mp ha
    have hb' := List.pairwise_cons.mp hb
    have e : x = y := by
      rcases List.mem_cons.mp ((h x).mp List.mem_cons_self) with e | e
      · exact e
      · rcases List.mem_cons.mp ((h y).mpr List.mem_cons_self) with e2 | e2
        · exact e2.symm
        · have h1 := hb'.1 x e
          have h2 := ha'.1 y e2
          exact absurd h2 (by rw [ltS_ok.tot _ _ h1]; decide)
    subst e
    congr 1
    refine srt_ext ha'.2 hb'.2 fun z => ⟨fun hz => ?_, fun hz => ?_⟩
    · rcases List.mem_cons.mp ((h z).mp (List.mem_cons_of_mem _ hz)) with e | e
      · exact absurd e (fun e => ltS_ne (ha'.1 z hz) e.symm)
      · exact e
    · rcases List.mem_cons.mp ((h z).mpr (List.mem_cons_of_mem _ hz)) with e | e
      · exact absurd e (fun e => ltS_ne (hb'.1 z hz) e.symm)
      · exact e
theorem mem_srtS {l : List Str} {z : Str} : z ∈ srtS l ↔ z ∈ l := (srtBy_perm ltS l).mem_iff
theorem len_srtS (l : List Str) : (srtS l).length = l.length := (srtBy_perm ltS l).length_eq
end PV
end

section
/-! i * o, o an instance of an own class -/
namespace PV
open PySem PySem.Spec L2
open PyProof.Rows hiding St
theorem int_mul_inst (a : Int) (t : Tok) (l C dx : Addr) : Meets (Builtin.«int.__mul__» ⟨[.int a t, .ref l], []⟩) (fun _ R s => s.heap.get? l = some (PySem.W.instObj C dx) ∧ R (.ok (.ret Value.notImplemented)) s) :=
  .of_wp fun prog w A R s h => by obtain ⟨hp, g, d, tk, os⟩ := s; obtain ⟨hl, h⟩ := h; wp_walk using wpAny_loadPart' hl; exact ⟨_, rfl, h⟩
section
open PySem.W PySem.Calls
variable {prog : Program} {w : World} {A : Around} {E : Value → Shared → Prop} {s : Shared} {K : Frag} {x C L f fr : Addr} {h₀ : Heap} {m : Str → Option Value} {od : Option Obj} {dx : Addr}
theorem mul_declines {x : Addr} {i : Int} {t : Tok} {nm : Str} (h0 : PySem.Slot "int" nm "int.__mul__") (dec : wpAny (model prog w) A (call (.builtin "int.__mul__") [.int i t, .ref x]) (fun v s' => v = .notImplemented ∧ s' = s) E s) :
    wpAny (model prog w) A (tryMethod (.int i t) nm (.ref x)) (fun r s' => r = none ∧ s' = s) E s := by
  have ht : s.TypeIs (.int i t) "int" := typeIs_int s i t
  refine wpAny_tryMethod_declines (id := "int.__mul__") ht h0 ?_
  refine wpAny_mono dec (fun v s' h' => ?_) fun _ _ e => e
  exact ⟨h'.1, rfl, h'.2⟩
theorem num_py (nm : String) : numberSlotInPython (.type "int") nm = pure false := rfl
theorem ksp_mulR {i : Int} {t : Tok} {Q : Value → Shared → Prop} (Fr0 : Fr h₀ L s.heap m) (X₀ : K.In h₀) (I : InstAt s.heap x (instObj C dx) C od) (hc : selfFirst K C = true)
    (hs : findIn K (.ref C) "__mul__" = some (some (.ref f))) (hr : findIn K (.ref C) "__rmul__" = some (some (.ref fr))) (hf : isFn K (.ref fr) = true) (hsub : subIn K (.ref C) (.type "int") = some false)
    (h : wpAny (model prog w) A (call (.ref fr) [.ref x, .int i t]) (PySem.W.CmpBack Q) E s) : wpAny (model prog w) A (binaryOp .Mult (.int i t) (.ref x)) Q E s := by
  have X := X₀.keeps Fr0.keep
  obtain ⟨cd, rest, hcd, hm⟩ := ksp_first hc
  have one := ksp_try X I hr hf h
  have ho := I.1
  have dec : wpAny (model prog w) A (call (.builtin "int.__mul__") [.int i t, .ref x]) (fun v s' => v = .notImplemented ∧ s' = s) E s :=
    call_meets F.slot_int_mul (typeIs_int s i t) F.entry_int_mul (F.args_int_mul_2 _ _) (int_mul_inst i t x C dx) ⟨ho, rfl, rfl⟩
  have tr := mul_declines (prog := prog) (w := w) (A := A) (E := E) (s := s) (x := x) (i := i) (t := t) (nm := PySem.dunder "mul") F.slot_int_mul dec
  have L2 : Looks (model prog w) s.heap (typeOf (.ref x)) (.ref C) := I.type
  have L3 : Looks (model prog w) s.heap (fillsNumberSlot (.ref C) "mul") true := fills_K X hcd hm hs
  have L4 : Looks (model prog w) s.heap (isSubtype (.ref C) (.type "int")) false := looks_subIn X hsub
  have hne : (Value.type "int" == Value.ref C) = false := Bool.eq_false_iff.mpr fun q => by cases beq_iff_eq.mp q
  have hi : Operator.info .Mult = ("*", "mul") := rfl
  simp only [binaryOp, hi]
  refine wpAny_holding (wpAny_bind ?_)
  unfold binaryOp1
  refine wpAny_bind (wpAny_typeOf (typeIs_int s i t) ?_)
  refine wpAny_bind (L2.here ?_)
  refine wpAny_bind (wpAny_of_eq F.fills_int_mul ?_)
  simp only [hne, Bool.false_eq_true, if_false]
  refine wpAny_bind (L3.here ?_)
  simp only [Bool.and_self, if_true]
  refine wpAny_bind (L4.here ?_)
  simp only [Bool.false_eq_true, if_false]
  simp only [Bool.not_false, Bool.and_self, if_true]
  refine wpAny_bind (wpAny_of_eq (num_py "mul") ?_)
  simp only [Bool.false_eq_true, if_false]
  refine wpAny_bind (wpAny_mono tr (fun r s' h' => ?_) fun _ _ e => e)
  obtain ⟨rfl, rfl⟩ := h'
  refine wpAny_bind (wpAny_mono one (fun r s2 h2 => ?_) fun _ _ e => e)
  obtain ⟨v, rfl, q⟩ := h2
  refine wpAny_bind (wpAny_rule (wpAny_pure ?_))
  exact wpAny_pure q
end

/-- i * y, y perhaps an instance of an own class with __rmul__ -/
def dunMulR (tb : List (Str × (List D → M D))) (F2 : D → D → M D) (x y : D) : M D := fun s => match x with
  | .int i => match insAt s y with
    | some (c, _) => match tb.lookup c with
      | some m => m [y, .int i] s
      | none => .no
    | none => F2 x y s
  | _ => F2 x y s
structure BinR (K : PySem.W.Frag) (C : Addr) : Prop where
  sf : PySem.W.selfFirst K C = true
  mul : ∃ f : Addr, PySem.W.findIn K (.ref C) "__mul__" = some (some (.ref f))
  sb : PySem.W.subIn K (.ref C) (.type "int") = some false
def bBinR (x : Str) : FB := fun K => PySem.W.selfFirst K (He.ga K x) && ((match PySem.W.findIn K (.ref (He.ga K x)) "__mul__" with | some (some (.ref _)) => true | _ => false) && decide (PySem.W.subIn K (.ref (He.ga K x)) (.type "int") = some false))
theorem bBinR_ok {x : Str} {K : PySem.W.Frag} (h : bBinR x K = true) : BinR K (He.ga K x) := by
  obtain ⟨h1, h2⟩ := Bool.and_eq_true_iff.mp h
  obtain ⟨h3, h4⟩ := Bool.and_eq_true_iff.mp h2
  refine ⟨h1, ?_, of_decide_eq_true h4⟩
  split at h3
  · rename_i f e; exact ⟨f, e⟩
  · cases h3
section
variable {X : Cx} {G : ClsAt} {W : WX} {T : NT}
theorem OpD.mulR {tb : List (Str × (List D → M D))} {F2 : D → D → M D} {j : Nat} (h2 : OpD X G W (binaryOp .Mult) F2) (hr : Room j X.A) (tk : Takes X W)
    (ht : ∀ c m, tb.lookup c = some m → DunOk X.prog X.w X.K X.mg X.base G j c "__rmul__" 2 m ∧ BinR X.K (G c)) : OpD X G W (binaryOp .Mult) (dunMulR tb F2) := by
  intro pins s σ H x y v w vv uu Q c I r1 r2 o t1 t2 p
  unfold dunMulR at p
  cases x with
  | int i =>
    simp only at p
    cases q : insAt c.st y with
    | none => rw [q] at p; exact h2 pins s σ H _ y v w vv uu Q c I r1 r2 o t1 t2 p
    | some kf =>
      obtain ⟨k, fs⟩ := kf
      rw [q] at p
      simp only at p
      obtain ⟨a, dx, ws, rfl, ha, la⟩ := DenT.insAt o (.inl t2) q
      cases q2 : tb.lookup k with
      | none => rw [q2] at p; exact p.elim
      | some m =>
        rw [q2] at p
        simp only at p
        obtain ⟨dn, br⟩ := ht k m q2
        obtain ⟨f, fd, ps, hs, hf, hfn, hnp, F, B⟩ := dn.ex
        obtain ⟨fm, hmul⟩ := br.mul
        obtain rfl : uu = Value.ref a := r2
        cases t1
        obtain ⟨t, rfl⟩ := r1
        obtain ⟨mA, O, _, _, _, _⟩ := ins_get I.hok ha
        obtain ⟨od, J, _⟩ := O.look
        obtain ⟨m0, Fr0⟩ := I.fr
        refine ksp_mulR Fr0 I.ok.mod.kin J br.sf hmul hs hf br.sb ?_
        exact wpAny_mono (run_dun (A' := X.A) (us := [.ref a, .int i t]) F B hr I.env0 tk I (.cons (show RelV (V.ref a) (Value.ref a) from rfl) (.cons (show RelV (V.int i) (Value.int i t) from ⟨t, rfl⟩) .nil)) o (.cons t2 (.cons .int .nil)) (by rw [hnp]; rfl) p) (fun u s' ⟨z, H', I', rz, qz⟩ => SlX.cmpback rz ⟨z, H', I', rz, qz⟩) fun _ _ z => z
  | _ => exact h2 pins s σ H _ y v w vv uu Q c I r1 r2 o t1 t2 p
variable {P : Program} {w : World} {K : PySem.W.Frag} {mg : Str → Option Value} {base : Heap} {N : List Str} {sc : Scope} {j : Nat}
theorem ve_mulR {tb : List (Str × (List D → M D))} {a b : Expr} {f g : Env → M D} {r : R2} {F2 : D → D → M D} {pos : Pos} (c : Ct P w K mg base N sc T j X W) (h1 : OpR X (binaryOp .Mult) r) (h2 : Op2 X G r (P0 X G) F2)
    (ht : ∀ c m, tb.lookup c = some m → DunOk P w K mg base G j c "__rmul__" 2 m ∧ BinR K (G c)) (ha : VE G X W a f) (hb : VE G X W b g) : VE G X W (.BinOp a .Mult b pos) (fun ρ => do let x ← f ρ; let y ← g ρ; dunMulR tb F2 x y) := by
  obtain ⟨⟨hP, hw, hK, hmg, hbb⟩, on, hN, hs, nd, kd, hr, tk⟩ := c
  subst hP hw hK hmg hbb
  exact ve_opD (OpD.mulR (OpD.of h1 h2) hr tk ht) ha hb
end
end PV
end

section
/-! a test that reads a list of one's own as if it were shared, the store out of sight; the list stays one's own -/
namespace PV
open PySem PySem.Spec L2
open PyProof.Rows hiding St
def hidS : Slot → Slot
  | .val d => if D.lt 0 d = true then .val d else .no
  | .own d => if D.lt 0 d = true then .own d else .no
  | .no => .no
theorem hid_val {d : D} : hidS (.val d) = if D.lt 0 d = true then .val d else .no := rfl
theorem hid_own {d : D} : hidS (.own d) = if D.lt 0 d = true then .own d else .no := rfl
def tBor (i : Nat) (f : Env → M Bool) : Env → M Bool := fun ρ s => match ρ[i]? with
  | some (.own (.lst xs)) => match f ((ρ.set i (.val (.lst xs))).map hidS) [] with
    | .ok b [] => .ok b s
    | _ => .no
  | _ => .no
section
variable {K : PySem.W.Frag} {G : ClsAt}
theorem Slots.hide {H0 H : Hp} {c : Cf} {ρ : Env} {σ : L2.St} (sl : Slots K G H0 c H ρ σ) : Slots K G H0 ⟨c.F, [], []⟩ H (ρ.map hidS) σ := by
  have own : ∀ {i : Nat} {d : D}, (ρ.map hidS)[i]? = some (.own d) → ρ[i]? = some (.own d) ∧ D.lt 0 d = true := fun {i d} h => by
    rw [List.getElem?_map] at h
    cases e : ρ[i]? with
    | none => rw [e] at h; cases h
    | some s =>
      rw [e] at h
      cases s with
      | no => cases h
      | val d' =>
        have h : hidS (.val d') = .own d := Option.some.inj h
        rw [hid_val] at h
        by_cases q : D.lt 0 d' = true
        · rw [if_pos q] at h; cases h
        · rw [if_neg q] at h; cases h
      | own d' =>
        have h : hidS (.own d') = .own d := Option.some.inj h
        rw [hid_own] at h
        by_cases q : D.lt 0 d' = true
        · rw [if_pos q] at h; cases h; exact ⟨rfl, q⟩
        · rw [if_neg q] at h; cases h
  refine ⟨by rw [List.length_map]; exact sl.len, fun i s o e1 e2 => ?_, fun i j d d' a e1 e2 e3 e4 => ?_, fun i d a e1 e2 => ?_⟩
  · rw [List.getElem?_map] at e1
    cases e : ρ[i]? with
    | none => rw [e] at e1; cases e1
    | some s' =>
      rw [e] at e1
      have e1 : hidS s' = s := Option.some.inj e1
      have k := sl.ok i s' o e e2
      cases s' with
      | no => subst e1; trivial
      | val d =>
        obtain ⟨v, ev, t⟩ := k
        rw [hid_val] at e1
        by_cases q : D.lt 0 d = true
        · rw [if_pos q] at e1; subst e1; exact ⟨v, ev, Den.cut (As' := c.As) rfl q t⟩
        · rw [if_neg q] at e1; subst e1; trivial
      | own d =>
        obtain ⟨a, ea, f, n, w⟩ := k
        rw [hid_own] at e1
        by_cases q : D.lt 0 d = true
        · rw [if_pos q] at e1; subst e1; exact ⟨a, ea, f, by simp, OwnAt.cut (As' := c.As) rfl q w⟩
        · rw [if_neg q] at e1; subst e1; trivial
  · exact sl.sep i j d d' a (own e1).1 (own e2).1 e3 e4
  · exact sl.mine i d a (own e1).1 e2
theorem bor_slots {c : Cf} {H0 H : Hp} {ρ : Env} {σ : L2.St} {i : Nat} {xs : List D} (o : CfOk K G c H) (sl : Slots K G H0 c H ρ σ) (e : ρ[i]? = some (.own (.lst xs))) :
    ∃ a vs, c.F a = none ∧ a ∉ c.As ∧ H a = some (.lst vs) ∧ CfOk K G ⟨upd c.F a (.lst vs), c.As, c.st⟩ H ∧ Slots K G H0 ⟨upd c.F a (.lst vs), c.As, c.st⟩ H (ρ.set i (.val (.lst xs))) σ := by
  have hl : i < σ.length := by rw [← sl.len]; exact (List.getElem?_eq_some_iff.mp e).1
  obtain ⟨a, e2, f, n, w⟩ := sl.ok i _ _ e (List.getElem?_eq_getElem hl)
  have e3 : σ[i]? = some (some (.ref a)) := by rw [List.getElem?_eq_getElem hl, e2]
  obtain ⟨vs, hu, l⟩ := w
  have t : Den K G c.As (upd c.F a (.lst vs)) (.lst xs) (.ref a) := .lst (SqL.of upd_same) (l.mono (sub_upd f) List.prefix_rfl)
  refine ⟨a, vs, f, n, hu, o.share hu n f, ⟨by simpa using sl.len, fun j s oo e1 e9 => ?_, fun j l d1 d2 b e1 e2 e4 e5 => ?_, fun j d1 b e1 e9 => ?_⟩⟩
  · rcases get_set e1 with ⟨rfl, rfl, _⟩ | ⟨hj, e1⟩
    · rw [e3] at e9; cases e9; exact ⟨_, rfl, t⟩
    · have k := sl.ok j s oo e1 e9
      cases s with
      | no => trivial
      | val d1 => obtain ⟨v, rfl, k⟩ := k; exact ⟨v, rfl, k.mono (sub_upd f) List.prefix_rfl⟩
      | own d1 =>
        obtain ⟨b, rfl, f1, n1, w1⟩ := k
        have z : b ≠ a := fun z => hj (sl.sep j i d1 _ a e1 e (by rw [← z]; exact e9) e3)
        exact ⟨b, rfl, by show upd c.F a _ b = none; rw [upd_ne z]; exact f1, n1, w1.mono (sub_upd f) List.prefix_rfl fun v q => q⟩
  · rcases get_set e1 with ⟨_, z, _⟩ | ⟨_, e1⟩
    · cases z
    · rcases get_set e2 with ⟨_, z, _⟩ | ⟨_, e2⟩
      · cases z
      · exact sl.sep j l d1 d2 b e1 e2 e4 e5
  · rcases get_set e1 with ⟨_, z, _⟩ | ⟨_, e1⟩
    · cases z
    · exact sl.mine j d1 b e1 e9
/-- behind such a test all is as it was -/
theorem bor_back {c : Cf} {H H' : Hp} {a : Addr} {vs : List V} {F' : Hp} {As' : List Addr} {st' : Stt} (o : CfOk K G c H) (fa : c.F a = none) (na : a ∉ c.As) (ha : H a = some (.lst vs)) (x : Ext ⟨upd c.F a (.lst vs), [], []⟩ H ⟨F', As', st'⟩ H') : Ext c H c H' ∧ CfOk K G c H' := by
  have keep : ∀ b u, H b = some u → KeepX c.F H' b u := fun b u h => by
    rcases x.keep b u h (by simp) with k | ⟨f, ⟨ws, e⟩, ob, k⟩
    · exact .inl k
    · subst e
      rcases x.new b _ f with z | z
      · by_cases hb : b = a
        · subst hb
          have z' : upd c.F b (.lst vs) b = some (.dK ws) := z
          rw [upd_same] at z'; cases z'
        · have z' : upd c.F a (.lst vs) b = some (.dK ws) := z
          rw [upd_ne hb] at z'
          exact .inr ⟨z', ⟨ws, rfl⟩, ob, k⟩
      · rw [h] at z; cases z
  have keepF : ∀ b u, H b = some u → c.F b = none → H' b = some u := fun b u h f => by
    rcases keep b u h with k | ⟨g, _⟩
    · exact k
    · rw [f] at g; cases g
  refine ⟨⟨fun b u h _ => keep b u h, x.there, Sub.refl _, fun _ _ h => .inl h, List.prefix_rfl, fun _ h => .inl h⟩, fun b u q => ?_, o.len, o.nd, fun i b d e1 e2 => ?_⟩
  · rcases o.le b u q with z | ⟨⟨ws, e⟩, ob, z⟩
    · rcases keep b u z with k | ⟨_, w, ob, k⟩
      · exact .inl k
      · exact .inr ⟨w, ob, k⟩
    · subst e
      rcases keep b _ z with k | ⟨g, _⟩
      · exact .inr ⟨⟨ws, rfl⟩, ob, k⟩
      · rw [q] at g; cases g
  · obtain ⟨q1, q2⟩ := o.obj i b d e1 e2
    exact ⟨q1, q2.mono (Sub.refl _) List.prefix_rfl fun u h => keepF b u h q1⟩
end
section
variable {X : Cx} {G : ClsAt} {W : WX}
theorem vt_bor {e : Expr} {f : Env → M Bool} (i : Nat) (h : VT G X W e f) : VT G X W e (tBor i f) := PT.imp h fun σ H Q ⟨H0, ρ, c, o, sl, p⟩ => by
  unfold tBor at p
  cases e1 : ρ[i]? with
  | none => rw [e1] at p; exact p.elim
  | some s =>
    rw [e1] at p
    cases s with
    | no => exact p.elim
    | val d => exact p.elim
    | own d =>
      cases d with
      | lst xs =>
        simp only at p
        obtain ⟨a, vs, fa, na, ha, o2, sl2⟩ := bor_slots o sl e1
        cases e2 : f ((ρ.set i (.val (.lst xs))).map hidS) [] with
        | no => rw [e2] at p; exact p.elim
        | err _ _ => rw [e2] at p; exact p.elim
        | ok b s' =>
          rw [e2] at p
          cases s' with
          | cons _ _ => exact p.elim
          | nil =>
            have o3 : CfOk X.K G ⟨upd c.F a (.lst vs), [], []⟩ H := ⟨o2.le, rfl, List.nodup_nil, fun i b d e => by simp at e⟩
            refine ⟨H0, _, ⟨upd c.F a (.lst vs), [], []⟩, o3, sl2.hide, ?_⟩
            show Post X.K G PBl _ _ H (f _ []) Q
            rw [e2]
            intro v F' As' H' x _ q
            obtain ⟨x', o'⟩ := bor_back o fa na ha x
            exact p v c.F c.As H' x' o' q
      | _ => exact p.elim
end
end PV
end

section
/-! d.get(x, z), d perhaps one's own -/
namespace PV
open PySem PySem.Spec L2
open PyProof.Rows hiding St
section
variable {X : Cx} {G : ClsAt} {W : WX}
/-- d.get(x, z) -/
theorem ve_get2R {o e f : Expr} {fo fe ff : Env → M D} {apos cpos : Pos} (hu : X.A.units + 1 < cLine) (ho : VR G X W o fo) (he : VE G X W e fe) (hf : VE G X W f ff)
    (hb : attributeBase o "get" X.env (eval o X.env) = eval o X.env := by rfl) (hfew : ((backTo cpos (starEach [e, f] X.env)).all (fun x => !x.1) && (backToKw cpos (keywordEach [] X.env)).all (fun x => x.1.isSome)
    && decide (([e, f] : List Expr).length + ([] : List Keyword).length + (if ([] : List Keyword).isEmpty then 0 else 1) < 30)) = true := by rfl) (hl : (apos.endLine == cpos.line) = true := by rfl) (ht : backTo cpos (starEach [e, f] X.env) = [(false, eval e X.env), (false, eval f X.env)] := by rfl) :
    VE G X W (.Call (.Attribute o "get" apos) [e, f] [] cpos) (fun ρ => do let x ← fo ρ; let x ← dicQ x; let y ← fe ρ; let z ← ff ρ; getGD2 x y z) :=
  PE.imp (pe_dget2 hu ho he hf ⟨hb, hfew, hl, ht⟩) fun σ H Q ⟨H0, ρ, c, o, sl, p⟩ => tR_step rfl o sl p fun x v c1 H1 x1 o1 sl1 t1 p1 => by
    cases x with
    | dic ks =>
      have t1' := t1
      obtain ⟨a, ws, rfl, ha, la⟩ := t1.dic o1
      refine ⟨a, rfl, .inl ⟨ws, ha⟩, tV_step rfl o1 sl1 (show Post X.K G (PDen X.K G) _ c1 H1 ((fe ρ >>= fun y => ff ρ >>= fun z => getGD2 (.dic ks) y z) c1.st) Q from p1) fun y w c2 H2 x2 o2 sl2 t2 p2 => tV_step rfl o2 sl2 p2 fun z u c3 H3 x3 o3 sl3 t3 p3 => ?_⟩
      have t4 := t1'.ext (x2.trans x3)
      have t2' := t2.mono x3.sub x3.pre
      obtain ⟨a', ws', ea, ha', la'⟩ := t4.dic o3
      cases ea
      unfold getGD2 at p3
      cases ek : y.key with
      | none => simp only [ek] at p3; exact p3.elim
      | some k =>
        simp only [ek] at p3
        refine ⟨valV ws' k, key_den ek t2' ▸ getK_rd la' ha', ?_⟩
        have g := getK_den (k := k) la'
        cases eg : getK ks k with
        | none => rw [eg] at g; rw [g]; exact p3.here o3 (fun _ _ h => h) (by rw [eg]; exact t3)
        | some d =>
          rw [eg] at g
          obtain ⟨v, e1, e2⟩ := g
          rw [e1]; exact p3.here o3 (fun _ _ h => h) (by rw [eg]; exact e2)
    | _ => exact p1.elim
end
end PV
end

section
/-! plain: lists of texts, what is reached -/
namespace PV
open PySem PySem.Spec L2
open PyProof.Rows hiding St
section
variable {s : Stt} {ρ : Env} {N B C : Env → Stt → Prop} {R : D → Stt → Prop} {E : Err → Stt → Prop} {Q : D → Stt → Prop}
theorem flats : ∀ zs : List Str, (zs.map D.str).mapM D.flat = some (zs.map V.str)
  | [] => rfl
  | z :: zs => by
    rw [List.map_cons, List.mapM_cons, flats zs]
    rfl
theorem inV_strs {z : Str} : ∀ zs : List Str, inV (.str z) (zs.map V.str) = decide (z ∈ zs)
  | [] => rfl
  | y :: zs => by
    have ih := inV_strs (z := z) zs
    unfold inV at ih ⊢
    rw [List.map_cons, List.any_cons, ih]
    by_cases h : z = y
    · subst h; simp [eqV]
    · simp [eqV, h, Ne.symm h]
theorem s_inLs {z : Str} {zs : List Str} : EV (inD (.str z) (.lst (zs.map D.str))) s Q E ↔ Q (.bl (decide (z ∈ zs))) s := by
  have e : inB (.str z) (.lst (zs.map D.str)) = pure (decide (z ∈ zs)) := by
    unfold inB
    simp only [D.flat, flats, inV_strs]
  unfold inD
  rw [e]; exact Iff.rfl
theorem s_ninLs {z : Str} {zs : List Str} : EV (notInD (.str z) (.lst (zs.map D.str))) s Q E ↔ Q (.bl !(decide (z ∈ zs))) s := by
  have e : inB (.str z) (.lst (zs.map D.str)) = pure (decide (z ∈ zs)) := by
    unfold inB
    simp only [D.flat, flats, inV_strs]
  unfold notInD
  rw [e]; exact Iff.rfl
theorem getK_isSome {α : Type} {f : α → D} {l : List (Str × α)} {z : Str} : (getK (dcV f l) (.inr z)).isSome = decide (z ∈ l.map (·.1)) := by
  rw [getK_dcV]
  by_cases h : z ∈ l.map (·.1)
  · obtain ⟨a, e, _⟩ := vget_mem h
    rw [e, decide_eq_true h]; rfl
  · rw [vget_none.mpr h, decide_eq_false h]; rfl
theorem s_inDv {α : Type} {f : α → D} {l : List (Str × α)} {z : Str} : EV (inD (.str z) (.dic (dcV f l))) s Q E ↔ Q (.bl (decide (z ∈ l.map (·.1)))) s := by
  have e : inB (.str z) (.dic (dcV f l)) = pure (decide (z ∈ l.map (·.1))) := by
    unfold inB
    simp only [D.key, getK_isSome]
  unfold inD
  rw [e]; exact Iff.rfl
theorem s_ninDv {α : Type} {f : α → D} {l : List (Str × α)} {z : Str} : EV (notInD (.str z) (.dic (dcV f l))) s Q E ↔ Q (.bl !(decide (z ∈ l.map (·.1)))) s := by
  have e : inB (.str z) (.dic (dcV f l)) = pure (decide (z ∈ l.map (·.1))) := by
    unfold inB
    simp only [D.key, getK_isSome]
  unfold notInD
  rw [e]; exact Iff.rfl
theorem dcP_V (ps : AL) : dcP ps = dcV D.int ps := rfl
theorem s_popL {i j : Nat} {xs : List D} {d : D} (h : ρ[i]? = some (.own (.lst (xs ++ [d])))) : WP (sPop j i) ρ s N R B C E ↔ N ((ρ.set i (.own (.lst xs))).set j (.val d)) s := by
  unfold WP sPop
  rw [h]
  have e : (xs ++ [d])[(xs ++ [d]).length - 1]? = some d := by simp
  simp only [e, List.dropLast_concat]
end
theorem s_retV {i : Nat} {d : D} {ρ : Env} {s : Stt} {N B C : Env → Stt → Prop} {R : D → Stt → Prop} {E : Err → Stt → Prop} (h : ρ[i]? = some (.own d)) : WP (sRetV i) ρ s N R B C E ↔ R d s := by
  unfold WP sRetV
  rw [h]
/-! what is reached -/
inductive Rs (ld : Str → List Str) (ks : List Str) : Str → Prop
  | base {z : Str} : z ∈ ks → Rs ld ks z
  | step {y z : Str} : Rs ld ks y → z ∈ ld y → Rs ld ks z
theorem Rs.mono {ld : Str → List Str} {ks ks' : List Str} (h : ∀ z ∈ ks, Rs ld ks' z) {z : Str} (r : Rs ld ks z) : Rs ld ks' z := by
  induction r with
  | base m => exact h _ m
  | step _ m ih => exact .step ih m
theorem Rs.ld {ld ld' : Str → List Str} {ks : List Str} (h : ∀ y z, z ∈ ld y → z ∈ ld' y) {z : Str} (r : Rs ld ks z) : Rs ld' ks z := by
  induction r with
  | base m => exact .base m
  | step _ m ih => exact .step ih (h _ _ m)
theorem Rs.closed {ld : Str → List Str} {ks : List Str} {P : Str → Prop} (h : ∀ z ∈ ks, P z) (hc : ∀ y z, P y → z ∈ ld y → P z) {z : Str} (r : Rs ld ks z) : P z := by
  induction r with
  | base m => exact h _ m
  | step _ m ih => exact hc _ _ ih m
open Classical in
/-- the names that are reached, in order -/
noncomputable def rch (ns : List Str) (ld : Str → List Str) (ks : List Str) : List Str := srtS (ns.filter fun z => decide (Rs ld ks z))
open Classical in
theorem mem_rch {ns : List Str} {ld : Str → List Str} {ks : List Str} (hk : ∀ z ∈ ks, z ∈ ns) (hl : ∀ y z, z ∈ ld y → z ∈ ns) {z : Str} : z ∈ rch ns ld ks ↔ Rs ld ks z := by
  unfold rch
  rw [mem_srtS, List.mem_filter]
  constructor
  · rintro ⟨_, h⟩; exact of_decide_eq_true h
  · exact fun h => ⟨Rs.closed hk (fun y z _ m => hl y z m) h, decide_eq_true h⟩
theorem rch_st {ns : List Str} {ld : Str → List Str} {ks : List Str} (hn : ns.Nodup) : (rch ns ld ks).Pairwise (fun a b => ltS a b = true) := srt_strict (hn.sublist List.filter_sublist)
theorem rch_of {ns : List Str} {ld : Str → List Str} {ks l : List Str} (hn : ns.Nodup) (hk : ∀ z ∈ ks, z ∈ ns) (hl : ∀ y z, z ∈ ld y → z ∈ ns) (h : l.Nodup) (hm : ∀ z, z ∈ l ↔ Rs ld ks z) : srtS l = rch ns ld ks :=
  srt_ext (srt_strict h) (rch_st hn) fun z => by rw [mem_srtS, hm, mem_rch hk hl]
/-- a search under way -/
structure Srch (ns : List Str) (ld : Str → List Str) (ks found left : List Str) : Prop where
  nd : found.Nodup
  sub : ∀ z ∈ found, z ∈ ns
  fr : ∀ z ∈ found, Rs ld ks z
  lr : ∀ z ∈ left, Rs ld ks z
  ks : ∀ z ∈ ks, z ∈ found ∨ z ∈ left
  cl : ∀ y ∈ found, ∀ z ∈ ld y, z ∈ found ∨ z ∈ left
theorem Srch.start {ns : List Str} {ld : Str → List Str} {ks : List Str} : Srch ns ld ks [] ks := ⟨List.nodup_nil, fun _ h => by simp at h, fun _ h => by simp at h, fun _ h => .base h, fun _ h => .inr h, fun _ h => by simp at h⟩
theorem Srch.done {ns : List Str} {ld : Str → List Str} {ks found : List Str} (S : Srch ns ld ks found []) (z : Str) : z ∈ found ↔ Rs ld ks z :=
  ⟨S.fr z, fun r => Rs.closed (P := fun z => z ∈ found) (fun z h => (S.ks z h).elim id fun h => by simp at h) (fun y z hy hz => (S.cl y hy z hz).elim id fun h => by simp at h) r⟩
/-- one name more -/
theorem Srch.next {ns : List Str} {ld : Str → List Str} {ks found left left' : List Str} {x : Str} (S : Srch ns ld ks found left) (hx : x ∈ left) (hl : ∀ z ∈ left, z = x ∨ z ∈ left') (hl' : ∀ z ∈ left', z ∈ left) (hn : x ∉ found) (hns : x ∈ ns) {more : List Str} (hm : ∀ z ∈ more, z ∈ ld x) (hm' : ∀ z ∈ ld x, z ∈ more ∨ z ∈ found ∨ z = x) : Srch ns ld ks (found ++ [x]) (left' ++ more) where
  nd := List.nodup_append.mpr ⟨S.nd, by simp, fun a ha b hb => by
    have : b = x := by simpa using hb
    subst this; exact fun e => hn (e ▸ ha)⟩
  sub := fun z h => (List.mem_append.mp h).elim (S.sub z) fun h => by
    have : z = x := by simpa using h
    subst this; exact hns
  fr := fun z h => (List.mem_append.mp h).elim (S.fr z) fun h => by
    have : z = x := by simpa using h
    subst this; exact S.lr _ hx
  lr := fun z h => (List.mem_append.mp h).elim (fun h => S.lr z (hl' z h)) fun h => .step (S.lr _ hx) (hm z h)
  ks := fun z h => (S.ks z h).elim (fun h => .inl (List.mem_append_left _ h)) fun h => (hl z h).elim (fun e => .inl (List.mem_append_right _ (by simp [e]))) fun h => .inr (List.mem_append_left _ h)
  cl := fun y hy z hz => by
    rcases List.mem_append.mp hy with h | h
    · rcases S.cl y h z hz with q | q
      · exact .inl (List.mem_append_left _ q)
      · exact (hl z q).elim (fun e => .inl (List.mem_append_right _ (by simp [e]))) fun h => .inr (List.mem_append_left _ h)
    · have : y = x := by simpa using h
      subst this
      rcases hm' z hz with q | q | q
      · exact .inr (List.mem_append_right _ q)
      · exact .inl (List.mem_append_left _ q)
      · exact .inl (List.mem_append_right _ (by simp [q]))
/-- a name that was found before -/
theorem Srch.skip {ns : List Str} {ld : Str → List Str} {ks found left left' : List Str} {x : Str} (S : Srch ns ld ks found left) (hl : ∀ z ∈ left, z = x ∨ z ∈ left') (hl' : ∀ z ∈ left', z ∈ left) (hn : x ∈ found) : Srch ns ld ks found left' where
  nd := S.nd
  sub := S.sub
  fr := S.fr
  lr := fun z h => S.lr z (hl' z h)
  ks := fun z h => (S.ks z h).elim .inl fun h => (hl z h).elim (fun e => .inl (e ▸ hn)) .inr
  cl := fun y hy z hz => (S.cl y hy z hz).elim .inl fun h => (hl z h).elim (fun e => .inl (e ▸ hn)) .inr
theorem nodup_len : ∀ {found ns : List Str}, found.Nodup → (∀ z ∈ found, z ∈ ns) → found.length ≤ ns.length
  | [], _, _, _ => Nat.zero_le _
  | x :: r, ns, nd, sub => by
    have hx := sub x List.mem_cons_self
    have h := nodup_len (found := r) (ns := ns.erase x) (List.nodup_cons.mp nd).2 fun z hz => (List.mem_erase_of_ne (fun e : z = x => (List.nodup_cons.mp nd).1 (by rw [← e]; exact hz))).mpr (sub z (List.mem_cons_of_mem _ hz))
    rw [List.length_erase_of_mem hx] at h
    have := List.length_pos_of_mem hx
    rw [List.length_cons]; omega
end PV
end

section
/-! class methods called by keywords alone; bool(x) of own objects -/
namespace PV
open PySem PySem.Spec L2
open PyProof.Rows hiding St
section
variable {X : Cx} {G : ClsAt} {W : WX} {T : NT}
structure CmOkK (P : Program) (w : World) (K : PySem.W.Frag) (mg : Str → Option Value) (base : Heap) (G : ClsAt) (k : Nat) (c nm : Str) (ks : List Str) (np : Nat) (gD : List D → List D → List D) (m : List D → M D) : Prop where
  ex : ∃ mc p f fd ps, ClX.CRead K (G c) mc ∧ ClX.CMet K (G c) mc nm p f ∧ ps.length = np ∧ FnOk P w K mg base (L2.CX P w) k f fd ps (spPV K G (rDen K G) ps.length m) ∧ Bnd K G fd ps 1 ks gD
  mg : mg c = some (.ref (G c))
theorem code_calK {k n : Nat} {f : Addr} {fd : FuncData} {ps ks : List Str} {m : List D → M D} {gD : List D → List D → List D} (F : FnOk X.prog X.w X.K X.mg X.base (L2.CX X.prog X.w) k f fd ps (spPV X.K G (rDen X.K G) ps.length m)) (B : Bnd X.K G fd ps n ks gD) (hr : Room k X.A) (tk : Takes X W)
    {pins : List (Addr × Obj)} {σ : L2.St} {H : Hp} {s : Shared} {Q : VK} {c : Cf} {ds dk : List D} {us ws : List Value} {vs zs : List V} (I : Inv X pins σ H s) (r : Vals vs us) (rz : Vals zs ws) (o : CfOk X.K G c H) (l : DenL X.K G c.As c.F ds vs) (lk : DenL X.K G c.As c.F dk zs) (h1 : ds.length = n) (h2 : dk.length = ks.length)
    (p : Post X.K G (PDen X.K G) (fun cls dx H' => W cls dx σ H') c H (m (gD ds dk) c.st) Q) (hl : (gD ds dk).length = ps.length) :
    codeAny (model X.prog X.w) X.A (.call (.ref f) ⟨us, ks.zip ws⟩) (fun r s' => match r with | .ok (.ret v) => EP X pins σ Q v s' | .ok _ => False | .error e => X.xe e s') s := by
  obtain ⟨g, gV, kb, hd⟩ := B
  have lg := hd h1 h2 l lk
  have rg := kb.rel r rz
  have e1 : us.length = n := by rw [← r.length, ← l.length]; exact h1
  have e2 : ws.length = ks.length := by rw [← rz.length, ← lk.length]; exact h2
  refine codeAny_mono (F.run X.A X.stack s H ⟨us, ks.zip ws⟩ (g us ws) (gV vs zs) Q (WE W σ) hr I.env0 (kb.to s us ws I.kIn e1 e2) rg ⟨by rw [← lg.length]; exact hl, c, _, o, lg, p⟩) fun r s' hq => ?_
  cases r with
  | error e => exact passAt tk σ pins H s e s' I hq
  | ok fl =>
    cases fl with
    | ret u => exact I.after hq
    | next => exact False.elim hq
    | brk => exact False.elim hq
    | cont => exact False.elim hq
abbrev eCmK (nk np : Nat) (C : Str) (gD : List D → List D → List D) (m : List D → M D) (fk : Env → M (List D)) : Env → M D := fun ρ => do let dk ← fk ρ; callM 1 nk np gD m [.cls C] dk
variable {P : Program} {w : World} {K : PySem.W.Frag} {mg : Str → Option Value} {base : Heap} {N : List Str} {sc : Scope} {j k n np i : Nat} {m : List D → M D} {C : Str} {gD : List D → List D → List D} {ks : List Str}
theorem ve_cmK {nm : Str} {kws : List Keyword} {fk : Env → M (List D)} {p apos pos : Pos} {pl : Sem Bool} (c : Ct P w K mg base N sc T j X W) (Cm : CmOkK P w K mg base G k C nm ks np gD m) (hkj : k ≤ j) (tj : Nat) (hkw : VK2 G X W kws fk) (h : T[tj]? = some (C, .globalImplicit, i) := by rfl)
    (hall : (backToKw pos (keywordEach kws X.env)).all (·.1.isSome) = true := by rfl) (hks : (backToKw pos (keywordEach kws X.env)).filterMap (·.1) = ks := by rfl)
    (hpl : ((backTo pos (starEach ([] : List Expr) X.env)).any (·.1) || (backToKw pos (keywordEach kws X.env)).any (·.1.isNone)) = false := by rfl)
    (hte : eval (.Call (.Attribute (.Name C p) nm apos) [] kws pos) X.env = (do
      let ov ← eval (.Name C p) X.env
      standAt apos.atName
      let (f, first) ← holding [ov] (getMethod ov nm pl)
      callWith pos f first (backTo pos (starEach [] X.env)) (backToKw pos (keywordEach kws X.env))) := by rfl) :
    VE G X W (.Call (.Attribute (.Name C p) nm apos) [] kws pos) (eCmK ks.length np C gD m fk) := by
  obtain ⟨⟨hP, hw, hK, hmg, hb⟩, on, hN, hs, nd, kd, hr, tk⟩ := c
  subst hP hw hK hmg hb
  obtain ⟨mc, pp, f, fd, ps, rd, cmt, hnp, F, B⟩ := Cm.ex
  have cls : VE G X W (.Name C p) (fun _ => pure (.cls C)) := ve_gcls Cm.mg (on.gl h) (on.dbg h)
  refine ⟨fun pins s σ H Q I hh => ?_⟩
  obtain ⟨H0, ρ, c, o, sl, p⟩ := hh
  have st : tV X.K G W (fun _ => pure (.cls C)) σ H fun v H1 => v = .ref (G C) ∧ tL X.K G W fk σ H1 fun zs H2 => ∃ c dk, CfOk X.K G c H2 ∧ DenL X.K G c.As c.F dk zs ∧ dk.length = ks.length ∧ (gD [.cls C] dk).length = ps.length ∧ Post X.K G (PDen X.K G) (fun cls dx H' => W cls dx σ H') c H2 (m (gD [.cls C] dk) c.st) Q := by
    refine ⟨H0, ρ, c, o, sl, fun v F' As' H' x o' t => ⟨by cases t; rfl, ?_⟩⟩
    refine tL_step rfl o' (sl.ext x) (Post.up x p) fun ds vs c2 H2 x2 o2 sl2 t2 p2 => ?_
    have p2 : Post X.K G (PDen X.K G) _ c2 H2 ((if ([.cls C] : List D).length = 1 ∧ ds.length = ks.length ∧ (gD [.cls C] ds).length = np then m (gD [.cls C] ds) else no) c2.st) Q := p2
    by_cases hc : ([.cls C] : List D).length = 1 ∧ ds.length = ks.length ∧ (gD [.cls C] ds).length = np
    · rw [if_pos hc] at p2
      exact ⟨c2, ds, o2, t2, hc.2.1, by rw [hnp]; exact hc.2.2, p2⟩
    · rw [if_neg hc] at p2; exact p2.elim
  refine PySem.W.methodCall_KW (pl := pl) (thn (cls.run pins s σ H _ I st) fun u s1 ⟨x, H1, I1, rx, ex, qq⟩ => ?_) hte
  subst ex
  obtain rfl : u = Value.ref (G C) := rx
  refine ClX.getmethcm_ok I1 rd cmt fun s2 I2 => ?_
  refine PySem.W.callWith_of hpl (PySem.W.keeps_M cmt.fi) (PyProof.Rows.evalArgs_kw2_nil hall (thn (hkw.run pos _ s2 σ H1 _ I2 qq) fun ws s3 ⟨zs, H2, I3, rz, c, dk, o, lk, h2, hl, p⟩ => ⟨⟨ClX.pin_at I3, I3.kIn⟩, ?_⟩))
  rw [hks]
  have z := wpAny_call (PySem.W.method_call (ClX.pin_at I3) (code_calK (us := [.ref (G C)]) (vs := [.ref (G C)]) (ds := [.cls C]) F B (hr.mono hkj) tk I3 (.cons rfl .nil) rz o (.cons .cls .nil) lk rfl h2 p hl))
  exact thn z fun _ _ y => ClX.unpinE y
end
end PV
end

section
/-! own exceptions: made and raised -/
namespace PV
open PySem PySem.Spec L2
open PyProof.Rows hiding St
/-- a built-in exception class that own ones stand on -/
structure ExB (bn : String) (bm : List Value) : Prop where
  eb : ∃ nid iid, ExcBaseFacts bn nid iid bm ∧ nid = bn ++ ".__new__"
  sf : StoreFacts bn bm "object.__setattr__" "object"
abbrev tlV : List Value := [.type "ValueError", .type "Exception", .type "BaseException", .type "object"]
abbrev tlL : List Value := [.type "LookupError", .type "Exception", .type "BaseException", .type "object"]
abbrev tlI : List Value := [.type "IndexError", .type "LookupError", .type "Exception", .type "BaseException", .type "object"]
theorem exV : ExB "ValueError" tlV := ⟨⟨_, _, F.excBase_ValueError, rfl⟩, F.store_ValueError⟩
theorem exL : ExB "LookupError" tlL := ⟨⟨_, _, F.excBase_LookupError, rfl⟩, F.store_LookupError⟩
theorem exI : ExB "IndexError" tlI := ⟨⟨_, _, F.excBase_IndexError, rfl⟩, F.store_IndexError⟩
/-- an own class over it, with an own __init__ -/
structure OxC (K : PySem.W.Frag) (C : Addr) (bn : String) (bm : List Value) : Prop where
  ii : PySem.W.excInitIn K C bm (bn ++ ".__new__") = true
  ov : PySem.W.excOver K C bm = true
  sa : PySem.W.findIn K (.ref C) "__setattr__" = some (some (.builtin "object.__setattr__"))
  hd : PySem.W.hasDictIn K C = true
  ex : PySem.W.subIn K (.ref C) (.type "BaseException") = some true
  ty : PySem.W.typeIn K (.ref C) = some (.type "type")
  kp : PySem.W.keepIn K (.ref C) = true
section
open PySem.W Builtin Builtin.ObjectAttr
variable {prog : Program} {w : World} {A : Around} {R : Result → Shared → Prop} {hp : Heap} {g : Array GenState} {dr : Drawn} {t : Nat} {os : OsState}
variable {K : PySem.W.Frag} {nm : Str} {tk : Tok} {u : Value} {x C dx : Addr} {fv : Array Value} {bn : String} {bm : List Value} {m0 : Str → Option Value} {nl : List Str}
theorem takerNone (h : PySem.W.findIn K (.ref C) nm = some none) : PySem.W.takerIn K C nm = some none := by
  unfold PySem.W.takerIn
  rw [h] <;> rfl
/-- its first attribute -/
theorem osx_new (EB : ExB bn bm) (XK : K.In hp) (T : OxC K C bn bm) (hx : hp.get? x = some { cls := .ref C, data := .fields fv }) (hf : PySem.W.findIn K (.ref C) nm = some none)
    (fin : ∀ hz tz dz, (∀ b o, b ≠ x → hp.get? b = some o → hz.get? b = some o) → hp.objs.size ≤ dz → dz ≠ x → hz.get? x = some { cls := .ref C, dict := some dz, data := .fields fv } →
      hz.Ns1 dz (fun y => if y = nm then some u else none) → R (.ok (.ret .none)) ⟨hz, g, dr, tz, os⟩) :
    codeAny (model prog w) A (.call (.builtin "object.__setattr__") ⟨[.ref x, .str nm tk, u], []⟩) R ⟨hp, g, dr, t, os⟩ := by
  have J : PySem.W.InstAt hp x { cls := .ref C, data := .fields fv } C none := ⟨hx, rfl, rfl, trivial⟩
  obtain ⟨cd, hcd, hdc⟩ := PySem.W.any_some (show (PySem.W.clsIn K C).any (fun c => c.hasDict) = true from T.hd)
  have xs : x ≠ hp.objs.size := Nat.ne_of_lt (Heap.lt_size hx)
  have hcls : PySem.W.Looks (model prog w) hp (classData C) cd := PySem.W.looks_clsIn XK hcd
  refine PySem.W.osa_openX (s := ⟨hp, g, dr, t, os⟩) EB.sf XK J T.ov (takerNone hf) fun b => ?_
  show wpAny _ _ (storeInOwnDict (.ref x) (.ref C) (.str nm tk) nm u b) _ _ _
  obtain ⟨c1, c2, c3, c4, c5, hd, c7, c8, c9, c10, c11⟩ := cd
  dsimp only at hdc
  subst hdc
  unfold storeInOwnDict ownDictForStores
  repeat (first | with_reducible refine PySem.HandSPX.store_in_new ?_ ?_ | with_reducible refine wpAny_loadPart_at hx ?_ | with_reducible refine hcls.at ?_ | wp_step)
  · exact ⟨_, #[], _, (Heap.get?_update_ne _ _ _ _ xs.symm).trans (Heap.get?_push_at rfl rfl), rfl, fun e he => absurd he (by simp), fun _ => rfl⟩
  · intro hz tz hn' hs
    have hx1 : (hp.push { cls := .type "dict", data := .dict #[] }).get? x = some { cls := .ref C, data := .fields fv } := Heap.get?_push_of_some _ hx
    refine fin hz tz hp.objs.size (fun b o hb ho => ?_) (Nat.le_refl _) xs.symm ?_ hn'
    · exact (hs.2 b (Nat.ne_of_lt (Heap.lt_size ho))).trans ((Heap.get?_update_ne _ _ _ _ hb).trans (Heap.get?_push_of_some _ ho))
    · exact (hs.2 x xs).trans (Heap.get?_update_self _ hx1 rfl)
/-- a further one -/
theorem osx_old (EB : ExB bn bm) (XK : K.In hp) (T : OxC K C bn bm) (hx : hp.get? x = some { cls := .ref C, dict := some dx, data := .fields fv }) (hns : hp.Ns1 dx m0) (hw : Within m0 nl) (hl : nl.length ≤ 1000) (hf : PySem.W.findIn K (.ref C) nm = some none)
    (fin : ∀ hz tz, (∀ b o, b ≠ dx → hp.get? b = some o → hz.get? b = some o) → hz.Ns1 dx (fun y => if y = nm then some u else m0 y) → R (.ok (.ret .none)) ⟨hz, g, dr, tz, os⟩) :
    codeAny (model prog w) A (.call (.builtin "object.__setattr__") ⟨[.ref x, .str nm tk, u], []⟩) R ⟨hp, g, dr, t, os⟩ := by
  obtain ⟨oD, esD, epD, hoD, hdD, _⟩ := hns.count hw
  have J : PySem.W.InstAt hp x { cls := .ref C, dict := some dx, data := .fields fv } C (some oD) := ⟨hx, rfl, rfl, hoD⟩
  obtain ⟨cd, hcd, hdc⟩ := PySem.W.any_some (show (PySem.W.clsIn K C).any (fun c => c.hasDict) = true from T.hd)
  have hcls : PySem.W.Looks (model prog w) hp (classData C) cd := PySem.W.looks_clsIn XK hcd
  refine PySem.W.osa_openX (s := ⟨hp, g, dr, t, os⟩) EB.sf XK J T.ov (takerNone hf) fun b => ?_
  show wpAny _ _ (storeInOwnDict (.ref x) (.ref C) (.str nm tk) nm u b) _ _ _
  obtain ⟨c1, c2, c3, c4, c5, hd, c7, c8, c9, c10, c11⟩ := cd
  dsimp only at hdc
  subst hdc
  unfold storeInOwnDict ownDictForStores
  repeat (first | with_reducible refine PySem.OEX.store_in_old hns hw hl ?_ | with_reducible refine wpAny_loadPart_at hx ?_ | with_reducible refine hcls.at ?_ | wp_step)
  intro hz tz hn' hs
  exact fin hz tz (fun b o hb ho => (hs.2 b hb).trans ho) hn'
end
section
variable {X : Cx} {pins : List (Addr × Obj)} {σ : L2.St} {H : Hp} {s : Shared} {a C dx : Addr} {f : Str} {y : V} {u : Value} {fs : List (Str × V)} {Q : Unit → Shared → Prop} {E : Value → Shared → Prop} {A : Around} {bn : String} {bm : List Value}
theorem oxs_new (EB : ExB bn bm) (T : OxC X.K C bn bm) (I : Inv X pins σ H s) (ea : H a = some (exo a C none)) (hf : PySem.W.findIn X.K (.ref C) f = some none) (ry : RelV y u)
    (next : ∀ dz sz, H dz = none → dz ≠ a → Inv X pins σ (upd (upd H dz (exd dz [(f, y)])) a (exo a C (some dz))) sz → Q () sz) : wpAny (model X.prog X.w) A (setAttr (.ref a) f u) Q E s := by
  obtain ⟨t1, ho⟩ := exo_at I.hok ea
  obtain ⟨hp, g, dr, t, os⟩ := s
  refine PySem.W.set_plain I.kIn (ox := { cls := .ref C, dict := none, data := .fields #[.ref t1, .none, .none, .none, .bool false, .none] }) (od := none) ⟨ho, rfl, rfl, trivial⟩ T.sa ?_
  refine osx_new EB I.kIn T ho hf fun hz tz dz kp dn dne hx hn => ?_
  have hnd : H dz = none := I.hok.fresh dn
  have ndz : ∀ {b : Addr} {o : Obj}, hp.get? b = some o → b ≠ dz := fun {b o} q => Nat.ne_of_lt (Nat.lt_of_lt_of_le (Heap.lt_size q) dn)
  have na : ∀ {b : Addr}, H b = none → b ≠ a := fun {b} n z => by rw [z, ea] at n; cases n
  have U : Un X.fs [] H (upd (upd H dz (exd dz [(f, y)])) a (exo a C (some dz))) hp hz :=
    { keep := fun b o q n _ _ => kp b o (na n) q
      slot := fun b o q n _ _ => ⟨o.slots, kp b o (na n) q⟩
      free := fun b o q n _ => by rw [upd_ne (na n), upd_ne (ndz q)]; exact n
      there := fun b o q _ => by
        by_cases hb : b = a
        · exact ⟨_, by rw [hb]; exact hx⟩
        · exact ⟨o, kp b o hb q⟩
      tups := fun b xs q => by rw [upd_ne (at_ne ea q exo_tup), upd_ne (ne_of_none q hnd)]; exact q
      frzs := fun b o v q => by rw [upd_ne (at_ne ea q exo_frz), upd_ne (ne_of_none q hnd)]; exact q
      tbls := fun b ps q => ⟨#[], by rw [upd_ne (at_ne ea q exo_tbl), upd_ne (ne_of_none q hnd), q]; simp⟩ }
  refine next dz _ hnd dne (I.un (t' := tz) U fun b o q => ?_)
  by_cases hb : b = a
  · subst hb; rw [upd_same] at q; cases q; exact exo_ok hx
  · rw [upd_ne hb] at q
    by_cases hd : b = dz
    · subst hd; rw [upd_same] at q; cases q; exact exd_ok hn (relO_put (fs := []) ry fun g => True.intro)
    · rw [upd_ne hd] at q
      refine (I.hok b o q).stay (fun c v hc z => kp c v ?_ z) (fun c hc => by rw [upd_ne (at_ne ea hc exo_own), upd_ne (ne_of_none hc hnd)]; exact hc) (fun c xs hc => by rw [upd_ne (at_ne ea hc exo_tup), upd_ne (ne_of_none hc hnd)]; exact hc)
      rcases hc with hc | hc
      · rw [hc]; exact hb
      · exact at_ne ea hc exo_own
theorem oxs_old (EB : ExB bn bm) (T : OxC X.K C bn bm) (I : Inv X pins σ H s) (ea : H a = some (exo a C (some dx))) (ed : H dx = some (exd dx fs)) (hl : fs.length ≤ 900) (hf : PySem.W.findIn X.K (.ref C) f = some none) (ry : RelV y u)
    (next : ∀ sz, Inv X pins σ (upd H dx (exd dx ((f, y) :: fs))) sz → Q () sz) : wpAny (model X.prog X.w) A (setAttr (.ref a) f u) Q E s := by
  obtain ⟨t1, ho⟩ := exo_at I.hok ea
  obtain ⟨mA, hns, rel⟩ := exd_at I.hok ed
  have hw := within_of rel
  obtain ⟨hp, g, dr, t, os⟩ := s
  obtain ⟨oD, _, _, hoD, _, _⟩ := hns.count hw
  refine PySem.W.set_plain I.kIn (ox := { cls := .ref C, dict := some dx, data := .fields #[.ref t1, .none, .none, .none, .bool false, .none] }) (od := some oD) ⟨ho, rfl, rfl, hoD⟩ T.sa ?_
  refine osx_old EB I.kIn T ho hns hw (by rw [List.length_map]; omega) hf fun hz tz kp hn => ?_
  have hd : ∃ o, hz.get? dx = some o := let ⟨o, _, _, e', _⟩ := hn; ⟨o, e'⟩
  exact next _ (I.write (t' := tz) (x := dx) (e := dx) (o := exd dx ((f, y) :: fs)) (by rw [ed]; exact True.intro) (.inl rfl) kp hd (exd_ok hn (relO_put ry rel)))
end
/-- self.f = e, self an own exception that is being made -/
def tOx (K : PySem.W.Frag) (bn : String) (bm : List Value) (f : Str) (to te : TE) : TS := fun D σ H => te σ H fun y H1 => to σ H1 fun x H2 => ∃ a C : Addr, x = .ref a ∧ OxC K C bn bm ∧ PySem.W.findIn K (.ref C) f = some none ∧
  ((H2 a = some (exo a C none) ∧ ∀ dx, H2 dx = none → dx ≠ a → D.nx σ (upd (upd H2 dx (exd dx [(f, y)])) a (exo a C (some dx)))) ∨
    ∃ (dx : Addr) (fs : List (Str × V)), H2 a = some (exo a C (some dx)) ∧ H2 dx = some (exd dx fs) ∧ fs.length ≤ 900 ∧ D.nx σ (upd H2 dx (exd dx ((f, y) :: fs))))
theorem ps_ox {X : Cx} {bn : String} {bm : List Value} {o e : Expr} {to te : TE} {f : Str} {p' pos : Pos} (EB : ExB bn bm) (ho : PE X o to) (he : PE X e te) (hs : swapsWith e (some (.Attribute o f p')) pos.line X.env = pure false := by rfl) : PS X (.Assign [.Attribute o f p'] e pos) (tOx X.K bn bm f to te) := by
  refine ⟨fun pins s σ H D I h => plainObj_wpAny_Assign_Attribute (thn (he.run pins s σ H _ I h) fun v s1 ⟨y, H1, I1, r1, q1⟩ => thn (ho.run pins s1 σ H1 _ I1 q1) fun u s2 ⟨x, H2, I2, r2, a, C, ex, T, hno, q⟩ => ?_) hs⟩
  subst ex
  obtain rfl : u = Value.ref a := r2
  rcases q with ⟨ea, q⟩ | ⟨dx, fs, ea, ed, hl, q⟩
  · exact oxs_new EB T I2 ea hno r1 fun dz sz n ne J => ⟨σ, _, J, q dz n ne⟩
  · exact oxs_old EB T I2 ea ed hl hno r1 fun sz J => ⟨σ, _, J, q⟩
/-- C(..) of an own exception class by its own __init__; the new object is let go, its dict stands -/
theorem run_ox {X : Cx} {W : WX} {C fI : Addr} {k : Nat} {fd : FuncData} {ps : List Str} {sp : Sp} {bn : String} {bm : List Value} {pins : List (Addr × Obj)} {σ : L2.St} {H : Hp} {s : Shared} {Q : XK} {us : List Value} {vs : List V} (EB : ExB bn bm) (T : OxC X.K C bn bm)
    (iC : PySem.W.findIn X.K (.ref C) "__init__" = some (some (.ref fI))) (tI : PySem.W.typeIn X.K (.ref fI) = some (.type "function")) (F1 : FnOk X.prog X.w X.K X.mg X.base (L2.CX X.prog X.w) k fI fd ps sp) (hr : Room (k + 1) X.A) (hb : Binds X.K fd ps [])
    (I : Inv X pins σ H s) (r : Vals vs us) (hz : vs.length ≤ 1000) (q : ∀ a, H a = none → sp (.ref a :: vs) (upd H a (exo a C none))
      (fun v H2 => v = .non ∧ ∃ (d : Addr) (fs : List (Str × V)), H2 a = some (exo a C (some d)) ∧ H2 d = some (exd d fs) ∧ H d = none ∧ Q (.ref C) (some d) (upd (del H2 a) d (.xd fs))) (fun _ _ _ => False)) :
    wpAny (model X.prog X.w) X.A (call (.ref C) us) (MkP X pins σ Q) X.xe s := by
  obtain ⟨nid, iid, FB, rfl⟩ := EB.eb
  obtain ⟨z1, z2, z3, z4, z5, z6, z7, z8, z9, z10, z11, y0, y1, y2, y3, y5, hC, hT⟩ := PySem.W.excInit_of I.kIn T.ii
  obtain ⟨hp, g, dr, tk, os⟩ := s
  have sz1 : hp.objs.size ≤ hp.objs.size + 1 := Nat.le_succ _
  have hn : H (hp.objs.size + 1) = none := I.hok.fresh sz1
  have hq := q _ hn
  have kk : ∀ b o, hp.get? b = some o → ((hp.push (PySem.W.kdv_tup us)).push (PySem.HandSPX.excO C hp.objs.size)).get? b = some o := fun b o e => Heap.get?_push_of_some _ (Heap.get?_push_of_some _ e)
  have hget : ((hp.push (PySem.W.kdv_tup us)).push (PySem.HandSPX.excO C hp.objs.size)).get? (hp.objs.size + 1) = some (PySem.HandSPX.excO C hp.objs.size) := by heap_get
  have J : Inv X pins σ (upd H (hp.objs.size + 1) (exo (hp.objs.size + 1) C none)) ⟨(hp.push (PySem.W.kdv_tup us)).push (PySem.HandSPX.excO C hp.objs.size), g, dr, tk, os⟩ :=
    I.laid (t' := tk) (a := hp.objs.size + 1) (o := exo (hp.objs.size + 1) C none) (h' := (hp.push (PySem.W.kdv_tup us)).push (PySem.HandSPX.excO C hp.objs.size)) kk sz1 (exo_ok hget)
  have rs : Vals (V.ref (hp.objs.size + 1) :: vs) (Value.ref (hp.objs.size + 1) :: us) := .cons rfl r
  have hl : (Value.ref (hp.objs.size + 1) :: us).length = ps.length := rs.length.symm.trans (F1.len _ _ _ _ hq)
  have hus : us.length ≤ sizeLine := by rw [← Paired.length r, sizeLine_eq]; omega
  have bnd := hb ⟨(hp.push (PySem.W.kdv_tup us)).push (PySem.HandSPX.excO C hp.objs.size), g, dr, tk, os⟩ (Value.ref (hp.objs.size + 1) :: us) J.kIn (by rw [List.append_nil]; exact hl)
  rw [List.append_nil] at bnd
  refine wpAny_call (PySem.HandSPX.call_own FB hT hC (PySem.W.looks_findIn I.kIn iC) (fun self => PySem.W.bind_fn I.kIn self tI) hus (codeAny_mono (F1.run _ X.stack _ _ ⟨Value.ref (hp.objs.size + 1) :: us, []⟩ _ _ _ (fun _ _ _ => False) (hr.make C us []) (J.env0.make C us []) bnd rs hq) fun r' s' hq' => ?_))
  cases r' with
  | error er =>
    obtain ⟨_, _, _, _, _, _, _, _, _, _, _, _, z⟩ := hq'
    exact z.elim
  | ok fl =>
    cases fl with
    | ret u =>
      obtain ⟨v, H2, os2, bare2, un2, hok2, rv, ev, d, fs, ea, ed, hd1, q2⟩ := hq'
      subst ev
      obtain ⟨h2, g2, d2, t2, os'⟩ := s'
      exact ⟨rv, mk_end (raises_own T.ex T.ty) I sz1 kk un2 hok2 os2 bare2 ea ed hd1 q2⟩
    | next => exact False.elim hq'
    | brk => exact False.elim hq'
    | cont => exact False.elim hq'
def tMkX (C : Addr) (sp : Sp) (ta : TA) : L2.St → Hp → XK → Prop := fun σ H Q => ta σ H fun vs H1 => vs.length ≤ 1000 ∧ ∀ a, H1 a = none → sp (.ref a :: vs) (upd H1 a (exo a C none))
  (fun v H2 => v = .non ∧ ∃ (d : Addr) (fs : List (Str × V)), H2 a = some (exo a C (some d)) ∧ H2 d = some (exd d fs) ∧ H1 d = none ∧ Q (.ref C) (some d) (upd (del H2 a) d (.xd fs))) (fun _ _ _ => False)
section
variable {X : Cx} {C fI : Addr} {k : Nat} {fd : FuncData} {ps : List Str} {sp : Sp} {bn : String} {bm : List Value} {x : Str} {p pos : Pos} {e : Expr} {es : List Expr} {ta : TA}
theorem pmk_ox (EB : ExB bn bm) (T : OxC X.K C bn bm) (iC : PySem.W.findIn X.K (.ref C) "__init__" = some (some (.ref fI))) (tI : PySem.W.typeIn X.K (.ref fI) = some (.type "function")) (F1 : FnOk X.prog X.w X.K X.mg X.base (L2.CX X.prog X.w) k fI fd ps sp) (hr : Room (k + 1) X.A) (hb : Binds X.K fd ps [])
    (hg : Gl X x) (hm : X.mg x = some (.ref C)) (ha : PA X (e :: es) ta) (hdb : (x == ("__debug__" : Str)) = false) (he : starEach (e :: es) X.env = (false, eval e X.env) :: starEach es X.env) (hpl : (backTo pos (starEach es X.env)).any (·.1) = false) :
    PMk X (.Call (.Name x p) (e :: es) [] pos) (tMkX C sp ta) := fun pins s σ H Q I h =>
  wpAny_Call_Name_kw (ld_glob I hg hm (PySem.W.callWith_K (h₀ := X.base) I.ok.mod.kin T.kp (thn (ha.run pos pins s σ H _ I h) fun us s1 ⟨vs, H1, I1, r1, hz, q1⟩ => ⟨I1.kIn, run_ox (W := W0) EB T iC tI F1 hr hb I1 r1 hz q1⟩) he hpl) hdb)
theorem pmk_ox0 (EB : ExB bn bm) (T : OxC X.K C bn bm) (iC : PySem.W.findIn X.K (.ref C) "__init__" = some (some (.ref fI))) (tI : PySem.W.typeIn X.K (.ref fI) = some (.type "function")) (F1 : FnOk X.prog X.w X.K X.mg X.base (L2.CX X.prog X.w) k fI fd ps sp) (hr : Room (k + 1) X.A) (hb : Binds X.K fd ps [])
    (hg : Gl X x) (hm : X.mg x = some (.ref C)) (hdb : (x == ("__debug__" : Str)) = false) : PMk X (.Call (.Name x p) [] [] pos) (tMkX C sp tNil) := fun pins s σ H Q I ⟨hz, q1⟩ =>
  wpAny_Call_Name_kw (ld_glob I hg hm (PySem.W.callWith_K0 (first := []) I.kIn T.kp (run_ox (W := W0) (us := []) (vs := []) EB T iC tI F1 hr hb I .nil hz q1)) hdb)
end
end PV
end

section
/-! raise X(e), raise X(): mirrors -/
namespace PV
open PySem PySem.Spec L2
open PyProof.Rows hiding St
abbrev kCode : Str := Str.ofString "code"
theorem vis_at {N P : List Str} {sc : Scope} (S : FnScope N P sc) {x : Str} (h : x ∈ P) : Vis sc x := (S.par x h).elim .inl fun e => .inr (.inl e)
/-- the promise of an __init__ that stores its argument and the code -/
def spX1 (C : Addr) (f code : Str) : Sp := fun vs H Q _ => ∃ a v, vs = [.ref a, v] ∧ H a = some (exo a C none) ∧
  ∀ dx, H dx = none → dx ≠ a → Q .non (upd (upd (upd H dx (exd dx [(f, v)])) a (exo a C (some dx))) dx (exd dx [(kCode, .str code), (f, v)]))
/-- .. the code alone -/
def spX0 (C : Addr) (code : Str) : Sp := fun vs H Q _ => ∃ a, vs = [.ref a] ∧ H a = some (exo a C none) ∧
  ∀ dx, H dx = none → dx ≠ a → Q .non (upd (upd H dx (exd dx [(kCode, .str code)])) a (exo a C (some dx)))
section
variable {P : Program} {w : World} {K : PySem.W.Frag} {mg : Str → Option Value} {base : Heap} {x qual : Str} {params : Arguments} {body : List Stmt} {scope : Scope} {g : Addr} {fd : FuncData} {C : Addr} {bn : String} {bm : List Value} {f prm code slf : Str} {j : Nat} {p1 p2 p3 p4 p5 p6 p7 p8 : Pos}
theorem init1_ok (EB : ExB bn bm) (T : OxC K C bn bm) (hf : PySem.W.findIn K (.ref C) f = some none) (hc : PySem.W.findIn K (.ref C) kCode = some none) (F : FunD K x qual params body scope [] [] g fd) (S : FnScope [slf, prm] [slf, prm] scope)
    (hb : body = [.Assign [.Attribute (.Name slf p1) f p2] (.Name prm p3) p4, .Assign [.Attribute (.Name slf p5) kCode p6] (.Constant (.str code) j p7) p8]) (d1 : (slf == ("__debug__" : Str)) = false) (d2 : (slf == ("__classdict__" : Str)) = false) (d3 : (prm == ("__debug__" : Str)) = false) (d4 : (prm == ("__classdict__" : Str)) = false) :
    FnOk P w K mg base (L2.CX P w) 1 g fd [slf, prm] (spX1 C f code) := by
  refine F.ok (CX := L2.CX P w) S (fun vs H Q E h => ?_) fun cdv A outer s H vs Q E hr h => ?_
  · obtain ⟨a, v, rfl, _⟩ := h; rfl
  · have v0 := vis_at S (x := slf) List.mem_cons_self
    have v1 := vis_at S (x := prm) (List.mem_cons_of_mem _ List.mem_cons_self)
    rw [hb]
    refine ⟨_, pss_cons (ps_ox EB (pe_var (i := 0) rfl v0 d1 d2) (pe_var (i := 1) rfl v1 d3 d4)) (pss_one (ps_ox EB (pe_var (i := 0) rfl v0 d1 d2) pe_str)), ?_⟩
    obtain ⟨a, v, rfl, ea, q⟩ := h
    exact ⟨v, rfl, .ref a, rfl, a, C, rfl, T, hf, .inl ⟨ea, fun dx hn ne => ⟨.ref a, rfl, a, C, rfl, T, hc, .inr ⟨dx, [(f, v)], upd_same, by rw [upd_ne ne, upd_same], by simp, q dx hn ne⟩⟩⟩⟩
theorem init0_ok (EB : ExB bn bm) (T : OxC K C bn bm) (hc : PySem.W.findIn K (.ref C) kCode = some none) (F : FunD K x qual params body scope [] [] g fd) (S : FnScope [slf] [slf] scope)
    (hb : body = [.Assign [.Attribute (.Name slf p5) kCode p6] (.Constant (.str code) j p7) p8]) (d1 : (slf == ("__debug__" : Str)) = false) (d2 : (slf == ("__classdict__" : Str)) = false) :
    FnOk P w K mg base (L2.CX P w) 1 g fd [slf] (spX0 C code) := by
  refine F.ok (CX := L2.CX P w) S (fun vs H Q E h => ?_) fun cdv A outer s H vs Q E hr h => ?_
  · obtain ⟨a, rfl, _⟩ := h; rfl
  · have v0 := vis_at S (x := slf) List.mem_cons_self
    rw [hb]
    refine ⟨_, pss_one (ps_ox EB (pe_var (i := 0) rfl v0 d1 d2) pe_str), ?_⟩
    obtain ⟨a, rfl, ea, q⟩ := h
    exact ⟨.ref a, rfl, a, C, rfl, T, hc, .inl ⟨ea, fun dx hn ne => q dx hn ne⟩⟩
end
/-- an own exception class with one attribute beside its code; with none -/
structure XOk1 (P : Program) (w : World) (K : PySem.W.Frag) (mg : Str → Option Value) (base : Heap) (G : ClsAt) (c f code : Str) : Prop where
  ex : ∃ bn bm fI fd ps, ExB bn bm ∧ OxC K (G c) bn bm ∧ PySem.W.findIn K (.ref (G c)) "__init__" = some (some (.ref fI)) ∧ PySem.W.typeIn K (.ref fI) = some (.type "function") ∧ FnOk P w K mg base (L2.CX P w) 1 fI fd ps (spX1 (G c) f code) ∧ Binds K fd ps []
  mg : mg c = some (.ref (G c))
structure XOk0 (P : Program) (w : World) (K : PySem.W.Frag) (mg : Str → Option Value) (base : Heap) (G : ClsAt) (c code : Str) : Prop where
  ex : ∃ bn bm fI fd ps, ExB bn bm ∧ OxC K (G c) bn bm ∧ PySem.W.findIn K (.ref (G c)) "__init__" = some (some (.ref fI)) ∧ PySem.W.typeIn K (.ref fI) = some (.type "function") ∧ FnOk P w K mg base (L2.CX P w) 1 fI fd ps (spX0 (G c) code) ∧ Binds K fd ps []
  mg : mg c = some (.ref (G c))
def mkE1 (c f code : Str) (d : D) : Err := ⟨c, [(kCode, .str code), (f, d)]⟩
def mkE0 (c code : Str) : Err := ⟨c, [(kCode, .str code)]⟩
/-- raise c(e) -/
def sRs1 (c f code : Str) (fe : Env → M D) : SM := fun ρ s => sB (fe ρ) ρ (fun d s' => .err (mkE1 c f code d) ρ s') s
/-- raise c() -/
def sRs0 (c code : Str) : SM := fun ρ s => .err (mkE0 c code) ρ s
theorem del_back {H : Hp} {a dx : Addr} {o u1 u2 u3 : HO} {z : HO} (hn : H a = none) (ne : dx ≠ a) : upd (del (upd (upd (upd (upd H a o) dx u1) a u2) dx u3) a) dx z = upd H dx z := by
  funext b
  by_cases h1 : b = dx
  · subst h1; rw [upd_same, upd_same]
  · rw [upd_ne h1, upd_ne h1]
    by_cases h2 : b = a
    · subst h2; rw [del_same, hn]
    · rw [del_ne h2, upd_ne h1, upd_ne h2, upd_ne h1, upd_ne h2]
theorem del_back0 {H : Hp} {a dx : Addr} {o u1 u2 : HO} {z : HO} (hn : H a = none) (ne : dx ≠ a) : upd (del (upd (upd (upd H a o) dx u1) a u2) a) dx z = upd H dx z := by
  funext b
  by_cases h1 : b = dx
  · subst h1; rw [upd_same, upd_same]
  · rw [upd_ne h1, upd_ne h1]
    by_cases h2 : b = a
    · subst h2; rw [del_same, hn]
    · rw [del_ne h2, upd_ne h2, upd_ne h1, upd_ne h2]
section
variable {P : Program} {w : World} {K : PySem.W.Frag} {mg : Str → Option Value} {base : Heap} {N : List Str} {sc : Scope} {T : NT} {X : Cx} {G : ClsAt} {W : WX} {RP : RPT} {c f code : Str} {i j : Nat}
/-- the raised one lies so -/
theorem err_at {K : PySem.W.Frag} {c0 c1 : Cf} {H0 H1 : Hp} {ρ : Env} {σ : L2.St} {dx : Addr} {e : Err} {ws : List (Str × V)} {D : Ends} (x : Ext c0 H0 c1 H1) (o : CfOk K G c1 H1) (sl : Slots K G H0 c1 H1 ρ σ) (hn : H1 dx = none) (l : DenF K G c1.As c1.F e.fs ws)
    (p : SPost K G RP W c0 H0 (.err e ρ c1.st) D) : W (.ref (G e.cls)) (some dx) σ (upd H1 dx (.xd ws)) := by
  have g := upd_keep (u := HO.xd ws) hn
  exact p σ c1.F c1.As _ _ _ (x.trans (Ext.heap g)) (o.grow g) (sl.ext (Ext.heap g)) ⟨rfl, dx, ws, rfl, upd_same, l⟩
theorem vs_raise1 {e : Expr} {fe : Env → M D} {p pos pos' : Pos} (ct : Ct P w K mg base N sc T j X W) (Xk : XOk1 P w K mg base G c f code) (hkj : 2 ≤ j) (tj : Nat) (he : VE G X W e fe) (h : T[tj]? = some (c, .globalImplicit, i) := by rfl)
    (hs : starEach [e] X.env = (false, eval e X.env) :: starEach [] X.env := by rfl) : VS G X W RP (.Raise (some (.Call (.Name c p) [e] [] pos)) none pos') (sRs1 c f code fe) := by
  obtain ⟨⟨hP, hw, hK, hmg, hb⟩, on, hN, hsc, nd, kd, hr, tk⟩ := ct
  subst hP hw hK hmg hb
  obtain ⟨bn, bm, fI, fd, ps, EB, T, iC, tI, F1, B⟩ := Xk.ex
  have ha : PA X [e] (tCons (tV X.K G W fe) tNil) := pa_cons he pa_nil hs
  refine PS.imp (ps_raise on.calm tk (pmk_ox EB T iC tI F1 (hr.mono hkj) B (on.gl h) Xk.mg ha (on.dbg h) hs rfl)) fun D σ H ⟨c0, H0, ρ, c1, x, o, sl, p⟩ => ?_
  refine ⟨H0, ρ, c1, o, sl, s_step x sl p fun d v c2 H2 _ x2 o2 sl2 q p2 => ⟨by simp, fun a hn => ⟨a, v, rfl, upd_same, fun dx hdx ne => ⟨rfl, dx, [(kCode, .str code), (f, v)], ?_, upd_same, ?_, ?_⟩⟩⟩⟩
  · rw [upd_ne (Ne.symm ne), upd_same]
  · rw [upd_ne ne] at hdx; exact hdx
  · rw [upd_ne ne] at hdx
    rw [del_back hn ne]
    exact err_at (e := mkE1 c f code d) x2 o2 sl2 hdx (.cons .str (.cons q .nil)) p2
theorem vs_raise0 {p pos pos' : Pos} (ct : Ct P w K mg base N sc T j X W) (Xk : XOk0 P w K mg base G c code) (hkj : 2 ≤ j) (tj : Nat) (h : T[tj]? = some (c, .globalImplicit, i) := by rfl) : VS G X W RP (.Raise (some (.Call (.Name c p) [] [] pos)) none pos') (sRs0 c code) := by
  obtain ⟨⟨hP, hw, hK, hmg, hb⟩, on, hN, hsc, nd, kd, hr, tk⟩ := ct
  subst hP hw hK hmg hb
  obtain ⟨bn, bm, fI, fd, ps, EB, T, iC, tI, F1, B⟩ := Xk.ex
  refine PS.imp (ps_raise on.calm tk (pmk_ox0 EB T iC tI F1 (hr.mono hkj) B (on.gl h) Xk.mg (on.dbg h))) fun D σ H ⟨c0, H0, ρ, c1, x, o, sl, p⟩ => ?_
  refine ⟨by simp, fun a hn => ⟨a, rfl, upd_same, fun dx hdx ne => ⟨rfl, dx, [(kCode, .str code)], upd_same, ?_, ?_, ?_⟩⟩⟩
  · rw [upd_ne ne, upd_same]
  · rw [upd_ne ne] at hdx; exact hdx
  · rw [upd_ne ne] at hdx
    rw [del_back0 hn ne]
    exact err_at (e := mkE0 c code) x o sl hdx (.cons .str .nil) p
end
end PV
end

section
/-! try: .. except (A, B, C) as e: .. -/
namespace PV
open PySem PySem.Spec L2
open PyProof.Rows hiding St
theorem fly_keep {bz h h' : Heap} {l : List PySem.Env} {e : Addr} {Z : Obj → Prop} (k : ∀ b o, h.get? b = some o → h'.get? b = some o) (x : PySem.HandSPX.FlyingZ bz l e Z h) : PySem.HandSPX.FlyingZ bz l e Z h' := by
  obtain ⟨x1, x2, x3, oe, vs, T, oT, ts, he, hz, hd, h1, hn, hne, hT, hdT, h3⟩ := x
  exact ⟨fun b o q => k b o (x1 b o q), x2, PySem.Heap.FunFrames.of_keeps (fun b o q _ => ⟨o, k b o q, rfl⟩) x3, oe, vs, T, oT, ts, k _ _ he, hz, hd, h1, hn, hne, k _ _ hT, hdT, h3⟩
/-- what the clause wishes: every exception of the body is one of the three -/
def wAs3 (K : PySem.W.Frag) (c1 c2 c3 : Addr) (i : Nat) (ts : Addr → Value → Option Addr → TS) (D : Ends) : WX := fun cls d σ H =>
  PySem.W.exmAny K cls [.ref c1, .ref c2, .ref c3] = some true ∧ ∀ a, H a = none → ts a cls d { nx := fun σ' H' => D.nx (σ'.set i none) H', rt := D.rt, bk := fun σ' H' => D.bk (σ'.set i none) H', ct := fun σ' H' => D.ct (σ'.set i none) H' } (σ.set i (some (.ref a))) H
theorem ps_try_as3 {X : Cx} {x1 x2 x3 n : Str} {c1 c2 c3 : Addr} {i : Nat} {body suite : List Stmt} {b₀ : Stmt} {q1 q2 q3 qt pos pos' : Pos} {kt} {tb : WX → TS} {ts : Addr → Value → Option Addr → TS} (hst : X.stack = X.env :: X.outer) (hfr : X.env.frame = some X.env.locals) (nd : X.N.Nodup) (hi : X.N[i]? = some n) (hln : X.env.kindOf n = some .local)
    (g1 : Gl X x1) (g2 : Gl X x2) (g3 : Gl X x3) (m1 : X.mg x1 = some (.ref c1)) (m2 : X.mg x2 = some (.ref c2)) (m3 : X.mg x3 = some (.ref c3)) (d1 : (x1 == ("__debug__" : Str)) = false) (d2 : (x2 == ("__debug__" : Str)) = false) (d3 : (x3 == ("__debug__" : Str)) = false)
    (hb : ∀ (W : WX) (pn : List (Addr × Obj)) (xe : Value → Shared → Prop), Takes (X.tr pn xe) W → PassesOwn (model X.prog X.w) X.A X.env xe → PSs (X.tr pn xe) body (tb W))
    (hsu : ∀ (a : Addr) (oe : Obj) (cls : Value) (d : Option Addr) (pn : List (Addr × Obj)), Zc cls d oe → (∃ vs, oe.data = .fields vs) → PSs (X.suite a ((a, oe) :: pn)) (b₀ :: suite) (ts a cls d)) :
    PS X (.Try body [.ExceptHandler (some (.Tuple [.Name x1 q1, .Name x2 q2, .Name x3 q3] kt qt)) (some n) (b₀ :: suite) pos'] [] [] pos) (fun D σ H => tb (wAs3 X.K c1 c2 c3 i ts D) D σ H) := by
  refine ⟨fun pins s σ H D I h => ?_⟩
  have okX := I.ok
  have frs2 : X.A.frames = some (X.env :: X.outer) := by rw [okX.frames, hst]
  have lcn : Loc X.env.scope n := .inl hln
  refine wpAny_Try_except ?_
  have body := (hb (wAs3 X.K c1 c2 c3 i ts D) (X.pn ++ pins) (fun e s1 => wpAny (model X.prog X.w) X.A (noteFrame e X.env) (fun _ s2 => wpAny (model X.prog X.w) X.A (setFlight e none) (fun _ s3 => wpAny (model X.prog X.w) X.A
    (handleBy e X.env [.ExceptHandler (some (.Tuple [.Name x1 q1, .Name x2 q2, .Name x3 q3] kt qt)) (some n) (b₀ :: suite) pos']) (SP X pins D) X.xe s3) X.xe s2) X.xe s1) (fun u s' xx => ?_) PassesOwn.looking).run [] s σ H D (I.toTry _) h
  · refine wpAny_mono body (fun fl s1 hsp => ?_) fun e s1 he => he
    cases fl with
    | next => obtain ⟨σ', H', J', q⟩ := hsp; exact wpAny_execs_nil ⟨σ', H', J'.ofTry okX, q⟩
    | brk => obtain ⟨σ', H', J', q⟩ := hsp; exact ⟨σ', H', J'.ofTry okX, q⟩
    | cont => obtain ⟨σ', H', J', q⟩ := hsp; exact ⟨σ', H', J'.ofTry okX, q⟩
    | ret u => obtain ⟨v, σ', H', J', r, q⟩ := hsp; exact ⟨v, σ', H', J'.ofTry okX, r, q⟩
  · obtain ⟨a, B, sI, pins', σ', H', cls, d, rfl, J', nb, up, sky, na, os, ag, hm, hyes⟩ := xx
    have J : Inv X pins σ' H' sI := J'.ofTry okX
    have sky2 : Sky B (X.env :: X.outer) a (Zc cls d) X.env.locals s'.heap := by rw [← hst]; exact sky
    show wpAny (model X.prog X.w) X.A (noteFrame (.ref a) X.env) _ _ _
    refine Sky.land Zc.steady frs2 hfr sky2 fun hA flA upA => ?_
    have JA : Inv X pins σ' H' { s' with heap := hA } := J.landed nb flA.1 (up.trans upA) os ag
    obtain ⟨oeA, vsA, heA, hzA, hdA⟩ := flA.there
    have noF : a ∉ frs (X.env :: X.outer) := fun hmm => by
      obtain ⟨_, o', e', hnf⟩ := flA.2.2.1.mem hmm
      rw [heA] at e'; cases e'
      exact hnf _ hdA
    have noL : a ≠ X.env.locals := fun z => noF (List.mem_filterMap.mpr ⟨X.env, List.mem_cons_self, by rw [hfr, z]⟩)
    have noS : a ∉ X.fs := fun hmm => by
      obtain ⟨e, he, q⟩ := List.mem_filterMap.mp hmm
      exact noF (List.mem_filterMap.mpr ⟨e, List.mem_cons_of_mem _ he, q⟩)
    have SA := JA.suite heA hdA na noL noS
    refine wpAny_handleBy_cons (codeAny_handlers_test ?_) (by intro q; cases q)
    refine wpAny_Tuple_spliced ?_
    show wpAny _ _ (spliced ((false, eval (.Name x1 q1) X.env) :: (false, eval (.Name x2 q2) X.env) :: (false, eval (.Name x3 q3) X.env) :: [])) _ _ _
    refine PySem.Calls.spliced_cons (ld_glob (X := X.suite a ((a, oeA) :: (X.pn ++ pins))) SA g1 m1 ?_ d1)
    refine PySem.Calls.spliced_cons (ld_glob (X := X.suite a ((a, oeA) :: (X.pn ++ pins))) SA g2 m2 ?_ d2)
    refine PySem.Calls.spliced_cons (ld_glob (X := X.suite a ((a, oeA) :: (X.pn ++ pins))) SA g3 m3 ?_ d3)
    refine PySem.Calls.spliced_nil ⟨by rw [sizeLine_eq]; simp, ?_⟩
    have kB : ∀ b o, hA.get? b = some o → (hA.push { cls := .type "tuple", data := .seq [Value.ref c1, .ref c2, .ref c3].toArray }).get? b = some o := fun b o e => Heap.get?_push_of_some _ e
    have JB := JA.kept (h' := hA.push { cls := .type "tuple", data := .seq [Value.ref c1, .ref c2, .ref c3].toArray }) (t' := s'.toks) kB
    have flB := fly_keep kB flA
    have LT : PySem.W.Looks (model X.prog X.w) (hA.push { cls := .type "tuple", data := .seq [Value.ref c1, .ref c2, .ref c3].toArray }) (typeOf (.ref a)) cls := fun A Q E s k q => wpAny_typeOf_ref (k _ _ (kB _ _ heA)) (by rw [hzA.1]; exact q)
    refine (PySem.W.exm_tup3 (M := model X.prog X.w) JB.kIn LT (Heap.get?_push_size _ rfl) hm).here ?_
    refine codeAny_handlers_suite_as ?_
    refine PySem.HandSPX.lands_againZ flB fun hC flC upC => ?_
    have JC : Inv X pins σ' H' { s' with heap := hC } := J.landed nb flC.1 (((up.trans upA).trans fun b o e _ => ⟨o.slots, kB b o e⟩).trans upC) os ag
    · obtain ⟨oeC, vsC, heC, hzC, hdC⟩ := flC.there
      have SC := JC.suite heC hdC na noL noS
      refine store_ok (X := X.suite a ((a, oeC) :: (X.pn ++ pins))) (v := .ref a) SC nd hi lcn rfl (fun s5 S5 => ?_) (.inr hln)
      refine wpAny_mono ((hsu a oeC cls d (X.pn ++ pins) hzC ⟨_, hdC⟩).run [] s5 _ H' _ S5 (hyes a na)) (fun fl s6 hsp => ?_) (fun _ _ z => False.elim z)
      have fin : ∀ {σ6 : L2.St} {H6 : Hp} {Q : Shared → Prop}, Inv (X.suite a ((a, oeC) :: (X.pn ++ pins))) [] σ6 H6 s6 → (∀ s7, Inv X pins (σ6.set i none) H6 s7 → Q s7) → wpAny (model X.prog X.w) X.A (do bindName X.env n .none; unbindBehindTheSuite X.env n pos') (fun _ s7 => Q s7) X.xe s6 :=
        fun {σ6 H6 Q} S6 hq => gone_ok (S6.unsuite okX) nd hi hln hq
      cases fl with
      | next => obtain ⟨σ6, H6, S6, q6⟩ := hsp; exact fin S6 fun s7 J7 => ⟨_, _, J7, q6⟩
      | brk => obtain ⟨σ6, H6, S6, q6⟩ := hsp; exact fin S6 fun s7 J7 => ⟨_, _, J7, q6⟩
      | cont => obtain ⟨σ6, H6, S6, q6⟩ := hsp; exact fin S6 fun s7 J7 => ⟨_, _, J7, q6⟩
      | ret u => obtain ⟨v6, σ6, H6, S6, r6, q6⟩ := hsp; exact fin S6 fun s7 J7 => ⟨_, _, _, J7, r6, q6⟩
end PV
end

section
/-! within an except suite: the caught exception's attributes; a def called with it -/
namespace PV
open PySem PySem.Spec L2
open PyProof.Rows hiding St
/-- e.n, e the caught exception -/
def tXp (K : PySem.W.Frag) (p : Addr × Obj) (C dd : Addr) (n : Str) (te : TE) : TE := fun σ H Q => te σ H fun x H1 => x = .ref p.1 ∧ PySem.W.findIn K (.ref C) n = some none ∧ ∃ fs v, H1 dd = some (.xd fs) ∧ fs.lookup n = some v ∧ Q v H1
theorem pe_xp {X : Cx} {p : Addr × Obj} {C dd : Addr} {e : Expr} {te : TE} {pos : Pos} {n : Str} (hp : p ∈ X.pn) (T : XfC X.K C) (hz : Zc (.ref C) (some dd) p.2) (hf : ∃ vs, p.2.data = .fields vs) (he : PE X e te) (hb : attributeBase e n X.env (eval e X.env) = eval e X.env := by rfl) :
    PE X (.Attribute e n pos) (tXp X.K p C dd n te) := by
  refine ⟨fun pins s σ H Q I h => attr_of hb (thn (he.run pins s σ H _ I h) fun u s1 ⟨x, H1, I1, rx, ex, hno, fs, v, ea, l, q⟩ => ?_)⟩
  subst ex
  obtain rfl : u = Value.ref p.1 := rx
  have hg := (I1.pin p (List.mem_append_left _ hp)).1
  obtain ⟨fv, hd⟩ := hf
  have hx : ObjOk X.prog X.w H1 s1.heap dd (.xd fs) := I1.hok dd _ ea
  obtain ⟨mA, hns, hr⟩ := hx
  obtain ⟨od, ho, hl⟩ := lookIn_ns hns
  obtain ⟨z, hu, ru⟩ := RelO.some_of (v := v) (o := mA n) (by rw [← l]; exact hr n)
  have J : PySem.W.InstAt s1.heap p.1 p.2 C (some od) := ⟨hg, hz.1, by unfold PySem.W.notCls; rw [hd] <;> rfl, by rw [hz.2]; exact ho⟩
  exact PySem.HandSPX.exc_get I1.kIn J T.ga T.gg T.exC (PySem.W.findObj_own T.hdC hno rfl (by rw [hl, hu])) (handed_of ru) ⟨v, H1, I1.tok _, ru, q⟩
/-- the promise of a def that is called with the caught exception p alone -/
structure FnZ (P : Program) (w : World) (K : PySem.W.Frag) (mg : Str → Option Value) (base : Heap) (k : Nat) (f : Addr) (fd : FuncData) (ps : List Str) (sp : Addr × Obj → Sp) : Prop where
  len : ∀ p vs H Q E, sp p vs H Q E → vs.length = ps.length
  run : ∀ (A : Around) (outer : List PySem.Env) (s : Shared) (H : Hp) (args : Args) (us : List Value) (vs : List V) (Q : VK) (E : XK) (p : Addr × Obj), L2H.RoomH k A → L2H.PinOk outer H s p → Env0 P w K mg base A outer s H → BindsTo s fd args (ps.zip us) → Vals vs us → sp p vs H Q E →
    codeAny (model P w) A (.call (.ref f) args) (CR (L2.CX P w) outer P w H s Q E) s
theorem FnZ.of {P : Program} {w : World} {K : PySem.W.Frag} {mg : Str → Option Value} {base : Heap} {k : Nat} {f : Addr} {x qual : Str} {params : Arguments} {body : List Stmt} {scope : Scope} {fd : FuncData} {N ps : List Str} {sp : Addr × Obj → Sp} (F : FunD K x qual params body scope [] [] f fd) (S : FnScope N ps scope)
    (len : ∀ p vs H Q E, sp p vs H Q E → vs.length = ps.length)
    (hbody : ∀ (cdv : Value) (A : Around) (outer : List PySem.Env) (s : Shared) (H : Hp) (vs : List V) (Q : VK) (E : XK) (p : Addr × Obj), L2H.RoomH k (A.deeper (envOfC qual scope s.heap.objs.size f cdv)) → sp p vs H Q E →
      ∃ t, PSs (L2H.cxH (L2.CX P w) P w K mg base N qual scope f cdv A outer s H E p) body t ∧ t { nx := fun _ H' => Q .non H', rt := Q } (L2.start N vs) H) : FnZ P w K mg base (k + 1) f fd ps sp := by
  obtain ⟨oc, od, dV, kV, doc, pm, an, cdv, ct, osl, rfl, lk, hcd, _, _⟩ := F.ex
  refine ⟨len, fun A outer s H args us vs Q E p hr hpin e0 hb r hsp => ?_⟩
  have hl := len _ _ _ _ _ hsp
  have KX : K.In s.heap := e0.mod.kin.keeps fun b o e => (e0.bs b o e).1
  have lim : s.heap.NoLimit := e0.mod.nolimit.keeps fun b o e => (e0.bs b o e).1
  have kind : ∀ y ∈ ps.zip us, scope.names.lookup y.1 = some .local ∨ (scope.names.lookup y.1 = some .cell ∧ ((cellsFrom (s.heap.objs.size + 1) scope.names []).lookup y.1).isSome = true) := fun ⟨n, v⟩ hy =>
    (S.par n (List.of_mem_zip hy).1).elim .inl fun q => .inr ⟨q, PySem.W.cellsFrom_some _ _ _ (.inl q)⟩
  refine codeAny_call_function hr.depth (KX _ _ lk) rfl S.co S.gen rfl (PySem.W.codeRec_of KX hcd) (hb _ _ _ _ ?_)
  refine wpAny_newFunctionEnv_cells S.kind kind fun env he s1 x => ?_
  subst he
  refine ⟨lim.keeps x.toInCall.keep, codeAny_func ?_⟩
  obtain ⟨t, ht, hq⟩ := hbody cdv A outer s H vs Q E p (hr.deeper _) hsp
  have I := L2H.inv_startH (CX := L2.CX P w) (E := E) S hpin e0 hl r x
  refine wpAny_mono (ht.run [] s1 (L2.start N vs) H _ I hq) (fun fl s' hs => ?_) fun e s' hs => hs
  cases fl with
  | ret u => obtain ⟨v, σ', H', J, rv, q⟩ := hs; exact ⟨v, H', J.os, J.bare, J.base, J.hok, rv, q⟩
  | next => obtain ⟨σ', H', J, q⟩ := hs; exact ⟨V.non, H', J.os, J.bare, J.base, J.hok, rfl, q⟩
  | brk => obtain ⟨_, _, _, q⟩ := hs; exact False.elim q
  | cont => obtain ⟨_, _, _, q⟩ := hs; exact False.elim q
/-- f(e) in a suite, e the caught exception -/
def tZ (sp : Addr × Obj → Sp) (p : Addr × Obj) (t : TA) : TE := fun σ H Q => t σ H fun vs H1 => sp p vs H1 Q fun _ _ _ => False
theorem pe_z {X : Cx} {k : Nat} {f : Addr} {fd : FuncData} {ps : List Str} {sp : Addr × Obj → Sp} {x : Str} {q pos : Pos} {e : Expr} {es : List Expr} {t : TA} {p : Addr × Obj} (F : FnZ X.prog X.w X.K X.mg X.base k f fd ps sp) (hr : L2H.RoomH k X.A) (hp : p ∈ X.pn) (hg : Gl X x) (hm : X.mg x = some (.ref f)) (hk : PySem.W.keepIn X.K (.ref f) = true) (hb : Binds X.K fd ps [])
    (ha : PA X (e :: es) t) (hdb : (x == ("__debug__" : Str)) = false) (he : starEach (e :: es) X.env = (false, eval e X.env) :: starEach es X.env) (hpl : (backTo pos (starEach es X.env)).any (·.1) = false) : PE X (.Call (.Name x q) (e :: es) [] pos) (tZ sp p t) := by
  refine ⟨fun pins s σ H Q I h => wpAny_Call_Name_kw (ld_glob I hg hm (PySem.W.callWith_K (h₀ := X.base) I.ok.mod.kin hk (thn (ha.run pos pins s σ H _ I h) fun us s1 ⟨vs, H1, I1, r, z⟩ => ⟨I1.kIn, ?_⟩) he hpl) hdb)⟩
  have hl : us.length = ps.length := r.length.symm.trans (F.len _ _ _ _ _ z)
  have b := hb s1 us I1.kIn (by rw [List.append_nil]; exact hl)
  rw [List.append_nil] at b
  have P1 := I1.pin p (List.mem_append_left _ hp)
  have hpin : L2H.PinOk X.stack H1 s1 p := ⟨P1.1, P1.2.1, fun hm => (List.mem_cons.mp (I1.stkSub p.1 hm)).elim P1.2.2.1 P1.2.2.2.1, P1.2.2.2.2⟩
  refine wpAny_call (codeAny_mono (F.run X.A X.stack s1 H1 ⟨us, []⟩ us vs Q (fun _ _ _ => False) p hr hpin I1.env0 b r z) fun r s' hq => ?_)
  cases r with
  | error e => obtain ⟨_, _, _, _, _, _, _, _, _, _, _, _, z⟩ := hq; exact z.elim
  | ok fl =>
    cases fl with
    | ret u => exact I1.after hq
    | next => exact False.elim hq
    | brk => exact False.elim hq
    | cont => exact False.elim hq
end PV
end

section
/-! _law_field: the attribute of a caught exception by its code -/
namespace PV
open PySem PySem.Spec L2
open PyProof.Rows hiding St
def outZ (r : Option Str) (ws : List (Str × V)) (q : V → Prop) : Prop := match r with
  | some n => ∃ v, ws.lookup n = some v ∧ q v
  | none => q .non
/-- what is known of the caught exception p -/
structure Pz (K : PySem.W.Frag) (p : Addr × Obj) (C dd : Addr) (ws : List (Str × V)) (code : Str) : Prop where
  z : Zc (.ref C) (some dd) p.2
  f : ∃ vs, p.2.data = .fields vs
  t : XfC K C
  c : PySem.W.findIn K (.ref C) kCode = some none
  n : ∀ n v, ws.lookup n = some v → PySem.W.findIn K (.ref C) n = some none
  k : ws.lookup kCode = some (.str code)
/-- what follows gives the attribute r -/
def Zj (X : Cx) (p : Addr × Obj) (dd : Addr) (ws : List (Str × V)) (sts : List Stmt) (r : Option Str) : Prop :=
  ∃ t, PSs X sts t ∧ ∀ D σ H, σ[0]? = some (some (.ref p.1)) → H dd = some (.xd ws) → (∀ H', (∀ a o, H a = some o → H' a = some o) → outZ r ws fun v => D.rt v H') → t D σ H
section
variable {X : Cx} {p : Addr × Obj} {C dd : Addr} {ws : List (Str × V)} {code ev n : Str}
/-- written texts -/
def tCs (vs : List V) : TA := fun _ H Q => Q vs H
theorem pac_nil : PA X [] (tCs []) := PA.imp pa_nil fun _ _ _ q => q
theorem pac_cons {z : Str} {j : Nat} {q : Pos} {es : List Expr} {vs : List V} (h : PA X es (tCs vs)) (hs : starEach (.Constant (.str z) j q :: es) X.env = (false, eval (.Constant (.str z) j q) X.env) :: starEach es X.env := by rfl) : PA X (.Constant (.str z) j q :: es) (tCs (.str z :: vs)) :=
  PA.imp (pa_cons pe_str h hs) fun _ _ _ q => q
variable {cs : List Str} {es : List Expr} {kt : Nat} {p1 p2 p3 p4 p5 p6 p7 pt : Pos} {rest : List Stmt} {r : Option Str}
/-- if e.code in (..): return e.n -/
theorem zif (P : Pz X.K p C dd ws code) (hp : p ∈ X.pn) (hN : X.N[0]? = some ev) (hv : Vis X.env.scope ev) (hd : (ev == ("__debug__" : Str)) = false) (hcd : (ev == ("__classdict__" : Str)) = false) (hes : PA X es (tCs (cs.map .str))) (hl : cs.length ≤ 100) (hm : behindInMarks .In (.Tuple es kt pt) = false)
    (hr : Zj X p dd ws rest r) : Zj X p dd ws (.If (.Compare (.Attribute (.Name ev p1) kCode p2) [.In] [.Tuple es kt pt] p3) [.Return (some (.Attribute (.Name ev p4) n p5)) p6] [] p7 :: rest) (if code ∈ cs then some n else r) := by
  obtain ⟨t, ht, hq⟩ := hr
  refine ⟨_, pss_cons (ps_if (pt_cmpR op_in_seq (pe_xp hp P.t P.z P.f (pe_var (i := 0) hN hv hd hcd)) (pe_tup hes) hm) (pss_one (ps_ret (pe_xp hp P.t P.z P.f (pe_var (i := 0) hN hv hd hcd)))) pss_nil) ht, fun D σ H h0 hdd q => ?_⟩
  refine ⟨.ref p.1, h0, rfl, P.c, ws, .str code, hdd, P.k, by rw [List.length_map, sizeLine_eq]; omega, fun a ha => ⟨a, cs.map .str, rfl, .inr (SqT.of upd_same), rfl, by simp [flatV], _, rfl, ?_⟩⟩
  have g := upd_keep (u := HO.tup (cs.map .str)) ha
  show if (if (false : Bool) = true then _ else inV (.str code) (cs.map .str)) = true then _ else _
  rw [if_neg (by decide : ¬ (false : Bool) = true), inV_strs]
  by_cases hc : code ∈ cs
  · rw [if_pos (decide_eq_true hc)]
    rw [if_pos hc] at q
    obtain ⟨v, hv2, qv⟩ := q _ g
    exact ⟨.ref p.1, h0, rfl, P.n _ _ hv2, ws, v, g _ _ hdd, hv2, qv⟩
  · rw [if_neg (by simpa using hc)]
    rw [if_neg hc] at q
    exact hq D σ _ h0 (g _ _ hdd) fun H' g2 => q H' fun b o hb => g2 b o (g b o hb)
/-- return e.n1 if e.code == z1 else e.n2 if e.code == z2 else None -/
theorem zlast {n1 n2 z1 z2 : Str} {j1 j2 j3 : Nat} {r1 r2 r3 r4 r5 r6 r7 r8 r9 s1 s2 s3 s4 s5 s6 s7 : Pos} (P : Pz X.K p C dd ws code) (hp : p ∈ X.pn) (hN : X.N[0]? = some ev) (hv : Vis X.env.scope ev) (hd : (ev == ("__debug__" : Str)) = false) (hcd : (ev == ("__classdict__" : Str)) = false)
    (hm1 : behindInMarks .Eq (.Constant (.str z1) j1 r3) = false) (hm2 : behindInMarks .Eq (.Constant (.str z2) j2 s3) = false) :
    Zj X p dd ws [.Return (some (.IfExp (.Compare (.Attribute (.Name ev r1) kCode r2) [.Eq] [.Constant (.str z1) j1 r3] r4) (.Attribute (.Name ev r5) n1 r6) (.IfExp (.Compare (.Attribute (.Name ev s1) kCode s2) [.Eq] [.Constant (.str z2) j2 s3] s4) (.Attribute (.Name ev s5) n2 s6) (.Constant .none j3 s7) r7) r8)) r9]
      (if code = z1 then some n1 else if code = z2 then some n2 else none) := by
  have var : ∀ {q : Pos}, PE X (.Name ev q) (tVar 0) := fun {q} => pe_var (i := 0) hN hv hd hcd
  refine ⟨_, pss_one (ps_ret (pe_ifExp (pt_cmpR op_eq (pe_xp hp P.t P.z P.f var) pe_str hm1) (pe_xp hp P.t P.z P.f var) (pe_ifExp (pt_cmpR op_eq (pe_xp hp P.t P.z P.f var) pe_str hm2) (pe_xp hp P.t P.z P.f var) pe_non))), fun D σ H h0 hdd q => ?_⟩
  have q := q H fun _ _ h => h
  have dec : ∀ a b : Str, decide (V.str a = V.str b) = decide (a = b) := fun a b => by rw [Bool.eq_iff_iff]; simp
  refine ⟨.ref p.1, h0, rfl, P.c, ws, .str code, hdd, P.k, rfl, _, rfl, ?_⟩
  show if decide (V.str code = V.str z1) = true then _ else _
  rw [dec]
  by_cases h1 : code = z1
  · rw [if_pos (decide_eq_true h1)]
    rw [if_pos h1] at q
    obtain ⟨v, hv2, qv⟩ := q
    exact ⟨.ref p.1, h0, rfl, P.n _ _ hv2, ws, v, hdd, hv2, qv⟩
  · rw [if_neg (by simpa using h1)]
    rw [if_neg h1] at q
    refine ⟨.ref p.1, h0, rfl, P.c, ws, .str code, hdd, P.k, rfl, _, rfl, ?_⟩
    show if decide (V.str code = V.str z2) = true then _ else _
    rw [dec]
    by_cases h2 : code = z2
    · rw [if_pos (decide_eq_true h2)]
      rw [if_pos h2] at q
      obtain ⟨v, hv2, qv⟩ := q
      exact ⟨.ref p.1, h0, rfl, P.n _ _ hv2, ws, v, hdd, hv2, qv⟩
    · rw [if_neg (by simpa using h2)]
      rw [if_neg h2] at q
      exact q
end
end PV
end

section
/-! a lambda handed to _law_try -/
namespace PV
open PySem PySem.Spec L2
open PyProof.Rows hiding St
/-- the table of the running def's code object: what must be so where it was written -/
abbrev TabOf (X : Cx) (P : Addr) : Prop := ∃ c, LamX.TabB X.base X.mg c P ∧ X.env.code = .ref c
abbrev lamQ (X : Cx) : Str := X.env.qual ++ "<lambda>"
/-- the lambda at f, its code object at b -/
def LamAt (X : Cx) (params : Arguments) (body : Expr) (scope : Scope) (f b : Addr) (s : Shared) : Prop := ∃ pm ctv, s.heap.get? f = some (PySem.W.kla_obj "<lambda>" (lamQ X) params body scope (cloFrom X.env.cells scope.names []) pm b ctv)
theorem slots_no {K : PySem.W.Frag} {G : ClsAt} {H0 H : Hp} {c : Cf} {σ : L2.St} : Slots K G H0 c H (List.replicate σ.length .no) σ := by
  refine ⟨by simp, fun i sl o e1 e2 => ?_, fun i j d d' a e1 => ?_, fun i d a e1 => ?_⟩
  · have := List.eq_of_mem_replicate (List.mem_of_getElem? e1)
    subst this; trivial
  · have := List.eq_of_mem_replicate (List.mem_of_getElem? e1); cases this
  · have := List.eq_of_mem_replicate (List.mem_of_getElem? e1); cases this
section
variable {X : Cx} {pins : List (Addr × Obj)} {σ : L2.St} {H : Hp} {s : Shared}
/-- a lambda without defaults is made: its code object is new, or found in the table -/
theorem lam_new {G : ClsAt} {P : Addr} {params : Arguments} {body : Expr} {scope : Scope} {pos : Pos} {E : Value → Shared → Prop} {Q : Value → Shared → Prop} {H0 : Hp} {ρ : Env} {c : Cf} {ti : Nat} (I : Inv X pins σ H s) (TB : TabOf X P) (o : CfOk X.K G c H) (sl : Slots X.K G H0 c H ρ σ)
    (eP : c.As[ti]? = some P) (eT : c.st[ti]? = some (.tab (lamQ X) P)) (hdef : defaultsOf params X.env = ([], [])) (hfree : ∀ y ∈ scope.names, y.2 = .free → ∃ c, X.env.cells.lookup y.1 = some c)
    (next : ∀ (f b : Addr) (F1 H1 : Hp) (s' : Shared), Inv X pins σ H1 s' → Ext c H ⟨F1, c.As, c.st⟩ H1 → CfOk X.K G ⟨F1, c.As, c.st⟩ H1 → Slots X.K G H0 ⟨F1, c.As, c.st⟩ H1 ρ σ → LamAt X params body scope f b s' → H1 f = none → f ∉ frs X.stack → H1 b = some (LamX.CodeO b (lamQ X)) → Q (.ref f) s') :
    wpAny (model X.prog X.w) X.A (eval (.Lambda params body scope pos) X.env) Q E s := by
  obtain ⟨cc, TB, hcode⟩ := TB
  obtain ⟨fP, _, ps, hP, ht, ha⟩ := o.obj ti P _ eP eT
  have hP' : s.heap.get? P = some { cls := .none, data := .fields ps } := I.hok P _ hP
  have bP : s.heap.BuiltinsAt X.mg P := TB.bm.keeps I.bk
  have nofr : ∀ f, s.heap.objs.size ≤ f → f ∉ frs X.stack := fun f hf z => (List.mem_cons.mp (I.stkSub _ z)).elim (fun e => Nat.lt_irrefl _ (Nat.lt_of_lt_of_le (e ▸ I.lt) hf)) fun e => I.nofs hf e
  refine PySem.W.kla_eval hdef ?_
  cases hc : codeAmong pos ps.toList with
  | some cv =>
    obtain ⟨b, rfl, hb⟩ := ha pos cv hc
    have hbH : H b = some (LamX.CodeO b (lamQ X)) := by
      rcases o.le b _ hb with z | ⟨⟨ws, e⟩, _⟩
      · exact z
      · unfold LamX.CodeO at e; cases e
    refine PySem.W.kla_makeFunctionHit (mg := X.mg) (c := cc) (P := P) (ps := ps) (closure_ok hfree) I.ok.glob (I.mod.glob.keeps I.bk) hcode (TB.code.keeps I.bk) hP' ht hc bP fun ctv h' tk hx hsz => ?_
    exact next h'.objs.size b c.F H _ (I.kept fun a u e => Heap.get?_push_of_some _ (hx a u e)) (Ext.refl _ _) o sl ⟨_, ctv, Heap.get?_push_size _ rfl⟩ (I.hok.fresh hsz) (nofr _ hsz) hbH
  | none =>
    refine PySem.W.kla_makeFunction (mg := X.mg) (c := cc) (P := P) (ps := ps) (closure_ok hfree) I.ok.glob (I.mod.glob.keeps I.bk) hcode (TB.code.keeps I.bk) hP' ht hc TB.gP bP fun b ctv h' tk hx hge hlt hrec htb => ?_
    obtain ⟨b2, oc, vs, t, e2, hoc, hd, hv⟩ := hrec
    cases e2
    have hsz : s.heap.objs.size ≤ h'.objs.size := Nat.le_trans hge (Nat.le_of_lt hlt)
    have nb : H b = none := I.hok.fresh hge
    have nPb : P ≠ b := ne_of_none hP nb
    have J := LamX.inv_table (q := lamQ X) (t' := tk) (more := #[rawInt pos.line, rawInt pos.col, .ref b]) (h' := h'.push (PySem.W.kla_obj "<lambda>" (lamQ X) params body scope (cloFrom X.env.cells scope.names []) ((X.mg "__name__").getD .none) b ctv)) I hP
      (fun a u hb e => Heap.get?_push_of_some _ (hx a u hb e)) (Heap.get?_push_of_some _ htb) hge ⟨oc, vs, t, Heap.get?_push_of_some _ hoc, hd, hv⟩
    -- the code object becomes shared, then the table is written
    have g := upd_keep (u := LamX.CodeO b (lamQ X)) nb
    have nbA : b ∉ c.As := o.notAs nb
    have nbF : c.F b = none := o.le.none nb
    have x1 : Ext c H c (upd H b (LamX.CodeO b (lamQ X))) := Ext.heap g
    have o1 := (o.grow g).share (a := b) upd_same nbA nbF
    have x2 : Ext c H ⟨upd c.F b (LamX.CodeO b (lamQ X)), c.As, c.st⟩ (upd H b (LamX.CodeO b (lamQ X))) :=
      ⟨fun a u hh n => .inl (g a u hh), fun a u hh => ⟨u, g a u hh⟩, sub_upd nbF, fun a u hh => by
        by_cases z : a = b
        · subst z; exact .inr nb
        · have hh' : upd c.F b (LamX.CodeO b (lamQ X)) a = some u := hh
          rw [upd_ne z] at hh'; exact .inl hh', List.prefix_rfl, fun _ h => .inl h⟩
    have eL : (ps ++ #[rawInt pos.line, rawInt pos.col, .ref b]).toList = ps.toList ++ [rawInt pos.line, rawInt pos.col, .ref b] := by simp
    obtain ⟨x3, o3, _⟩ := obj_write (n := ti) (a := P) (d' := .tab (lamQ X) P) (u := .tbl (ps ++ #[rawInt pos.line, rawInt pos.col, .ref b])) x2 o1 (slots_no (σ := σ)) eP
      (show P = P ∧ TabAt (upd c.F b (LamX.CodeO b (lamQ X))) _ P (lamQ X) from ⟨rfl, _, upd_same, by rw [eL]; exact PySem.TriplesOk_snoc _ _ _ _ ht, fun p' cv hcv => by
        rw [eL] at hcv
        rcases LamX.among_app _ ht hcv with z | z
        · obtain ⟨d, e1, e2⟩ := ha p' cv z
          exact ⟨d, e1, sub_upd nbF _ _ e2⟩
        · exact ⟨b, z, upd_same⟩⟩)
    have est : c.st.set ti (.tab (lamQ X) P) = c.st := by
      apply List.ext_getElem?
      intro i
      by_cases z : ti = i
      · subst z
        rw [List.getElem?_set_self (List.getElem?_eq_some_iff.mp eT).1, eT]
      · rw [List.getElem?_set_ne z]
    have eH : upd (upd H P (.tbl (ps ++ #[rawInt pos.line, rawInt pos.col, .ref b]))) b (LamX.CodeO b (lamQ X)) = upd (upd H b (LamX.CodeO b (lamQ X))) P (.tbl (ps ++ #[rawInt pos.line, rawInt pos.col, .ref b])) := by
      funext a
      by_cases z1 : a = b
      · subst z1; rw [upd_same, upd_ne (Ne.symm nPb), upd_same]
      · rw [upd_ne z1]
        by_cases z2 : a = P
        · subst z2; rw [upd_same, upd_same]
        · rw [upd_ne z2, upd_ne z2, upd_ne z1]
    rw [eH] at J
    have est2 : (⟨upd c.F b (LamX.CodeO b (lamQ X)), c.As, c.st.set ti (.tab (lamQ X) P)⟩ : Cf) = ⟨upd c.F b (LamX.CodeO b (lamQ X)), c.As, c.st⟩ := by rw [est]
    have x3 : Ext c H ⟨upd c.F b (LamX.CodeO b (lamQ X)), c.As, c.st⟩ _ := est2 ▸ x3
    have o3 : CfOk X.K G ⟨upd c.F b (LamX.CodeO b (lamQ X)), c.As, c.st⟩ _ := est2 ▸ o3
    refine next h'.objs.size b _ _ _ J x3 o3 (sl.ext x3) ⟨_, ctv, Heap.get?_push_size _ rfl⟩ ?_ (nofr _ hsz) (by rw [upd_ne (Ne.symm nPb), upd_same])
    have n1 : h'.objs.size ≠ b := Nat.ne_of_gt hlt
    have n2 : h'.objs.size ≠ P := Nat.ne_of_gt (Nat.lt_of_lt_of_le (Heap.lt_size hP') hsz)
    rw [upd_ne n2, upd_ne n1]
    exact I.hok.fresh hsz
end
end PV
end

section
/-! the head's facts in several runs -/
namespace PV
open PySem PySem.Spec L2
open PyProof.Rows hiding St
/-- the addresses that are reached from the globals, breadth first; m: a mask of those seen -/
def bfs1 : List Addr → Nat → List Addr → Nat × List Addr
  | [], m, new => (m, new)
  | r :: rs, m, new => match Nat.beq (Nat.mod (Nat.shiftRight m r) 2) 1 with
    | true => bfs1 rs m new
    | false => bfs1 rs (Nat.add m (Nat.shiftLeft 1 r)) (r :: new)
def bfsL (g : Addr → Option Obj) : Nat → Nat → List Addr → List Addr → List Addr
  | 0, _, _, acc => acc
  | n + 1, m, fr, acc => match bfs1 (fr.flatMap fun a => match g a with
    | some o => He.refsD o
    | none => []) m [] with
    | (m', new) => bfsL g n m' new (new ++ acc)
def asQ (g : Addr → Option Obj) (n : Nat) : List Addr := bfsL g n (Nat.shiftLeft 1 mainGlobals) [mainGlobals] [mainGlobals]
def obBG (n : Nat) (fa : List FB) (fn : List DP) (g : Addr → Option Obj) : He.AlD := obP fa fn (He.frG g (cStatics :: asQ g n))
theorem obBG_eq {n : Nat} {fa : List FB} {fn : List DP} {g : Addr → Option Obj} {s : Shared} (h : ∀ a, g a = s.heap.get? a) : obBG n fa fn g = obBG n fa fn s.heap.get? := by
  have e : g = s.heap.get? := funext h
  rw [e]
def hkB (n : Nat) (fa : List FB) (fn : List DP) : PySem.W.Hook where
  α := He.AlD
  obs := fun s => obBG n fa fn s.heap.get?
  val := fun _ => vaP fn
  says := fun _ h => ∃ K : PySem.W.Frag, K.In h ∧ SaysP fa fn K
  of := fun _ _ e => ⟨_, He.frG_in, e⟩
  keeps := fun _ _ _ ⟨K, hK, c⟩ k => ⟨K, PySem.W.Frag.In.keeps hK k, c⟩
abbrev Chk := List FB × List DP
def hkL (n : Nat) (cs : List Chk) : PySem.W.Hook where
  α := List He.AlD
  obs := fun s => cs.map fun c => obBG n c.1 c.2 s.heap.get?
  val := fun _ => cs.map fun c => vaP c.2
  says := fun _ h => ∃ K : PySem.W.Frag, K.In h ∧ ∀ c ∈ cs, SaysP c.1 c.2 K
  of := fun w s e => ⟨He.frG s.heap.get? (cStatics :: asQ s.heap.get? n), He.frG_in, fun c hc => by
    have key : ∀ (l : List Chk), (l.map fun c => obBG n c.1 c.2 s.heap.get?) = (l.map fun c => vaP c.2) → ∀ c ∈ l, obBG n c.1 c.2 s.heap.get? = vaP c.2 := by
      intro l
      induction l with
      | nil => intro _ c hc; cases hc
      | cons x r ih =>
        intro e c hc
        rw [List.map_cons, List.map_cons] at e
        obtain ⟨e1, e2⟩ := List.cons.inj e
        rcases List.mem_cons.mp hc with z | z
        · rw [z]; exact e1
        · exact ih e2 c z
    exact key cs e c hc⟩
  keeps := fun _ _ _ ⟨K, hK, c⟩ k => ⟨K, PySem.W.Frag.In.keeps hK k, c⟩
def obL (n : Nat) (cs : List Chk) (s : PySem.W.SharedT) : List He.AlD := cs.map fun c => obBG n c.1 c.2 (HandSHeadRun.getT s)
theorem obL_eq {n : Nat} {cs : List Chk} (s : PySem.W.SharedT) : obL n cs s = (hkL n cs).obs s.abs := List.map_congr_left fun c _ => obBG_eq (HandSHeadRun.getT_eq s)
def RunC (n : Nat) (r : PySem.W.OpenRow) (q : Program) (M : Nat) (loose : List PySem.Str) (w : World) (c : Chk) : Prop := HandSHeadRun.RunEq r q (hkB n c.1 c.2) (fun s => obBG n c.1 c.2 (HandSHeadRun.getT s)) M loose w
theorem runs_all {n : Nat} {r : PySem.W.OpenRow} {q : Program} {M : Nat} {loose : List PySem.Str} {w : World} {c0 : Chk} {cs : List Chk} (h : ∀ c ∈ c0 :: cs, RunC n r q M loose w c) : HandSHeadRun.RunEq r q (hkL n (c0 :: cs)) (obL n (c0 :: cs)) M loose w := by
  intro os
  have key : ∀ {α β γ δ : Type} {x : Option α} {f1 : α → β} {f2 : α → γ} {b : β} {c : γ} (fs : List Chk) (g : Chk → α → δ) (v : Chk → δ), (∀ k ∈ c0 :: fs, x.map (fun s => (f1 s, f2 s, g k s)) = some (b, c, v k)) →
      x.map (fun s => (f1 s, f2 s, (c0 :: fs).map fun k => g k s)) = some (b, c, (c0 :: fs).map v) := by
    intro α β γ δ x f1 f2 b c fs g v hh
    cases x with
    | none => have := hh c0 List.mem_cons_self; cases this
    | some s =>
      have h0 := hh c0 List.mem_cons_self
      have h0 := Option.some.inj h0
      obtain ⟨e1, e2⟩ := Prod.mk.inj h0
      obtain ⟨e2, _⟩ := Prod.mk.inj e2
      refine congrArg some ?_
      show (f1 s, f2 s, (c0 :: fs).map fun k => g k s) = _
      rw [e1, e2]
      refine congrArg (fun z => (b, c, z)) (List.map_congr_left fun k hk => ?_)
      have hk := Option.some.inj (hh k hk)
      exact (Prod.mk.inj (Prod.mk.inj hk).2).2
  exact key cs (fun c s => obBG n c.1 c.2 (HandSHeadRun.getT s)) (fun c => vaP c.2) fun k hk => h k hk os
end PV
end

section
/-! _law_try(lambda: ..) -/
namespace PV
open PySem PySem.Spec L2
open PyProof.Rows hiding St
def zc1 : List Str := [Str.ofString "InvalidName", Str.ofString "InvalidCount", Str.ofString "InvalidModulus", Str.ofString "InvalidIndex", Str.ofString "InvalidLimit"]
def zc2 : List Str := [Str.ofString "InvalidContent", Str.ofString "Lacking", Str.ofString "FinalKind", Str.ofString "OwnContent", Str.ofString "InvalidWorth", Str.ofString "InvalidTable"]
def zc3 : List Str := [Str.ofString "InvalidText", Str.ofString "InvalidPage"]
def zc4 : List Str := [Str.ofString "InvalidRow", Str.ofString "InvalidDeed"]
def zc5 : List Str := [Str.ofString "DuplicateName", Str.ofString "UnknownKind", Str.ofString "UnknownRoom"]
def zc6 : List Str := [Str.ofString "TooMany", Str.ofString "Full"]
/-- the attribute that goes with a code -/
def fieldN (code : Str) : Option Str :=
  if code ∈ zc1 then some (Str.ofString "given") else if code ∈ zc2 then some (Str.ofString "kind") else if code ∈ zc3 then some (Str.ofString "line") else if code ∈ zc4 then some (Str.ofString "at") else
  if code ∈ zc5 then some (Str.ofString "name") else if code ∈ zc6 then some (Str.ofString "most") else if code = Str.ofString "InUse" then some (Str.ofString "user") else if code = Str.ofString "NotEmpty" then some (Str.ofString "room") else none
/-- the promise of _law_field -/
def spF (K : PySem.W.Frag) : Addr × Obj → Sp := fun p vs H Q _ => vs = [.ref p.1] ∧ ∃ C dd ws code, Pz K p C dd ws code ∧ H dd = some (.xd ws) ∧ ∀ H', (∀ a o, H a = some o → H' a = some o) → outZ (fieldN code) ws fun v => Q v H'
section
variable {P : Program} {w : World} {K : PySem.W.Frag} {mg : Str → Option Value} {base : Heap} {f : Addr} {x qual : Str} {params : Arguments} {body : List Stmt} {scope : Scope} {fd : FuncData} {ev : Str}
/-- a def whose body gives the attribute -/
theorem field_ok (F : FunD K x qual params body scope [] [] f fd) (S : FnScope [ev] [ev] scope) (hb : ∀ (X : Cx) (p : Addr × Obj) (C dd : Addr) (ws : List (Str × V)) (code : Str), X.K = K → X.N = [ev] → X.env.scope = scope → p ∈ X.pn → Pz X.K p C dd ws code → Zj X p dd ws body (fieldN code)) :
    FnZ P w K mg base 1 f fd [ev] (spF K) := by
  refine FnZ.of F S (fun p vs H Q E h => by rw [h.1]; rfl) fun cdv A outer s H vs Q E p hr h => ?_
  obtain ⟨rfl, C, dd, ws, code, Pp, hdd, q⟩ := h
  obtain ⟨t, ht, hq⟩ := hb (L2H.cxH (L2.CX P w) P w K mg base [ev] qual scope f cdv A outer s H E p) p C dd ws code rfl rfl rfl (List.mem_singleton.mpr rfl) Pp
  exact ⟨t, ht, hq _ _ _ rfl hdd q⟩
end
/-- classes that may be caught, with the names of their attributes -/
abbrev XTab := List (Str × List Str)
def tryE (xt : XTab) (e : Err) : Option D := match xt.lookup e.cls with
  | some ns => if (e.fs.all fun p => decide (p.1 ∈ ns)) = true then (match e.fs.lookup kCode with
    | some (.str code) => match fieldN code with
      | some n => (e.fs.lookup n).map fun d => .tup [.str code, d]
      | none => some (.tup [.str code, .non])
    | _ => none) else none
  | none => none
def tryR (xt : XTab) : R D → R D
  | .ok d s => .ok (.tup [.str (Str.ofString ""), d]) s
  | .err e s => match tryE xt e with
    | some d => .ok d s
    | none => .no
  | .no => .no
/-- the table at tP stands in the store at ti -/
def eTry (tP : Addr) (ti : Nat) (q : Str) (xt : XTab) (fb : Env → M D) : Env → M D := fun ρ s => match s[ti]? with
  | some (.tab q' a) => if q' = q ∧ a = tP then tryR xt (fb ρ s) else .no
  | _ => .no
/-- what the classes must have -/
structure XtOk (K : PySem.W.Frag) (G : ClsAt) (c1 c2 c3 : Str) (xt : XTab) : Prop where
  ok : ∀ c ns, xt.lookup c = some ns → XfC K (G c) ∧ PySem.W.findIn K (.ref (G c)) kCode = some none ∧ (∀ n ∈ ns, PySem.W.findIn K (.ref (G c)) n = some none) ∧ PySem.W.exmAny K (.ref (G c)) [.ref (G c1), .ref (G c2), .ref (G c3)] = some true
theorem denF_lookup {K : PySem.W.Frag} {G : ClsAt} {As : List Addr} {F : Hp} : ∀ {fs : List (Str × D)} {ws : List (Str × V)}, DenF K G As F fs ws → ∀ n, (∀ d, fs.lookup n = some d → ∃ v, ws.lookup n = some v ∧ Den K G As F d v) ∧ (∀ v, ws.lookup n = some v → ∃ d, fs.lookup n = some d)
  | _, _, .nil, n => ⟨fun d h => (nomatch h), fun v h => (nomatch h)⟩
  | _, _, .cons (k := k) (d := d) (v := v) t l, n => by
    have ih := denF_lookup l n
    by_cases e : n = k
    · subst e
      refine ⟨fun d' h => ?_, fun v' h => ?_⟩
      · simp [List.lookup] at h; subst h; exact ⟨v, by simp [List.lookup], t⟩
      · exact ⟨d, by simp [List.lookup]⟩
    · have e' : (n == k) = false := by simpa using e
      refine ⟨fun d' h => ?_, fun v' h => ?_⟩
      · simp only [List.lookup, e'] at h ⊢; exact ih.1 d' h
      · simp only [List.lookup, e'] at h ⊢; exact ih.2 v' h
end PV
end

section
/-! _law_try(lambda: ..), the rule -/
namespace PV
open PySem PySem.Spec L2
open PyProof.Rows hiding St
abbrev tryBody (a n fz c1 c2 c3 : Str) (j0 kt k2 k3 : Nat) (q1 q2 q3 q4 q5 q6 q7 q8 q9 r1 r2 r3 r4 r5 r6 r7 r8 r9 : Pos) : List Stmt :=
  [.Try [.Return (some (.Tuple [.Constant (.str (Str.ofString "")) j0 q1, .Call (.Name a q2) [] [] q3] kt q4)) q5]
    [.ExceptHandler (some (.Tuple [.Name c1 q6, .Name c2 q7, .Name c3 q8] k2 q9)) (some n) [.Return (some (.Tuple [.Attribute (.Name n r1) kCode r2, .Call (.Name fz r3) [.Name n r4] [] r5] k3 r6)) r7] r8] [] [] r9]
structure TryD (P : Program) (w : World) (K : PySem.W.Frag) (mg : Str → Option Value) (base : Heap) (G : ClsAt) (x c1 c2 c3 : Str) (g fF : Addr) (pg : Arguments) (bg : List Stmt) (sg : Scope) (fd fdF : FuncData) (a n fz ev : Str) : Prop where
  F : FunD K x x pg bg sg [] [] g fd
  S : FnScope [a, n] [a] sg
  B : Binds K fd [a] []
  mg_ : mg x = some (.ref g)
  n1 : sg.names.lookup c1 = some .globalImplicit
  n2 : sg.names.lookup c2 = some .globalImplicit
  n3 : sg.names.lookup c3 = some .globalImplicit
  nf : sg.names.lookup fz = some .globalImplicit
  nl : sg.names.lookup n = some .local
  na : sg.names.lookup a = some .local
  dbg : ∀ z ∈ [c1, c2, c3, fz, a, n], (z == ("__debug__" : Str)) = false ∧ (z == ("__classdict__" : Str)) = false
  m1 : mg c1 = some (.ref (G c1))
  m2 : mg c2 = some (.ref (G c2))
  m3 : mg c3 = some (.ref (G c3))
  FZ : FnZ P w K mg base 1 fF fdF [ev] (spF K)
  mf : mg fz = some (.ref fF)
  kf : PySem.W.keepIn K (.ref fF) = true
  BF : Binds K fdF [ev] []
  bd : ∃ j0 kt k2 k3 q1 q2 q3 q4 q5 q6 q7 q8 q9 r1 r2 r3 r4 r5 r6 r7 r8 r9, bg = tryBody a n fz c1 c2 c3 j0 kt k2 k3 q1 q2 q3 q4 q5 q6 q7 q8 q9 r1 r2 r3 r4 r5 r6 r7 r8 r9
theorem outZ_imp {r : Option Str} {ws : List (Str × V)} {q q' : V → Prop} (h : outZ r ws q) (i : ∀ v, q v → q' v) : outZ r ws q' := by
  cases r with
  | none => exact i _ h
  | some n => obtain ⟨v, e, z⟩ := h; exact ⟨v, e, i _ z⟩
section
variable {P : Program} {w : World} {K : PySem.W.Frag} {mg : Str → Option Value} {base : Heap} {N : List Str} {sc : Scope} {T : NT} {X : Cx} {G : ClsAt} {W : WX} {i j kb ti : Nat} {x c1 c2 c3 q : Str} {g fF tP : Addr} {pg : Arguments} {bg : List Stmt} {sg : Scope} {fd fdF : FuncData} {a n fz ev : Str} {xt : XTab}
theorem ve_try {params : Arguments} {body : Expr} {scope : Scope} {fb : Env → M D} {p lpos pos : Pos} (ct : Ct P w K mg base N sc T j X W) (Td : TryD P w K mg base G x c1 c2 c3 g fF pg bg sg fd fdF a n fz ev) (XT : XtOk K G c1 c2 c3 xt) (hkj : kb + 2 ≤ j) (tj ti : Nat) (TB : TabOf X tP) (hq : lamQ X = q)
    (L : LamX.lamSB sc scope = true) (hdef : defaultsOf params X.env = ([], [])) (hbind : ∀ (q : Str) (cl : List (Str × Addr)) (pm cv ctv : Value), bindArgs (PySem.W.kla_fn "<lambda>" q params body scope cl pm cv ctv) ⟨[], []⟩ = pure [])
    (hbody : ∀ (A : Around) (outer : List PySem.Env) (s : Shared) (H : Hp) (E : XK) (f b : Addr), Room kb (A.deeper (LamX.lamEnv X scope s.heap.objs.size f b)) → VE G (LamX.lamCx X A outer s H E scope f b) (WE0 E) body fb) (h : T[tj]? = some (x, .globalImplicit, i) := by rfl) :
    VE G X W (.Call (.Name x p) [.Lambda params body scope lpos] [] pos) (eTry tP ti q xt fb) := by
  obtain ⟨⟨hP, hw, hK, hmg, hb⟩, on, hN, hs, nd, kd, hr, tk⟩ := ct
  subst hP hw hK hmg hb hs
  have Lm := LamX.lamS_by L
  refine ⟨fun pins s σ H Q I hh => ?_⟩
  obtain ⟨H0, ρ, c, o, sl, p⟩ := hh
  have pw : Post X.K G (PDen X.K G) (fun cls dx H' => W cls dx σ H') c H (eTry tP ti q xt fb ρ c.st) Q := p
  clear p
  unfold eTry at pw
  cases eT : c.st[ti]? with
  | none => rw [eT] at pw; exact pw.elim
  | some d =>
    rw [eT] at pw
    cases d with
    | tab q' aT =>
      simp only at pw
      by_cases hc : q' = q ∧ aT = tP
      · rw [if_pos hc] at pw
        obtain ⟨rfl, rfl⟩ := hc
        subst hq
        have hlt : ti < c.As.length := by rw [o.len]; exact (List.getElem?_eq_some_iff.mp eT).1
        have eP0 : c.As[ti]? = some c.As[ti] := List.getElem?_eq_getElem hlt
        have ea := (o.obj ti _ _ eP0 eT).2.1
        have eP : c.As[ti]? = some aT := by rw [eP0, ea]
        clear eP0
        refine wpAny_Call_Name_kw (ld_glob I (on.gl h) Td.mg_ ?_ (on.dbg h))
        refine PySem.W.callWith_K (h₀ := X.base) I.ok.mod.kin Td.F.kp ?_ (by rfl) (by rfl)
        show wpAny _ _ (spliced ((false, eval (.Lambda params body scope lpos) X.env) :: [])) _ _ s
        refine PySem.Calls.spliced_cons (lam_new I TB o sl eP eT hdef (Lm.has I.ok) fun f b F1 H1 s' I1 x1 o1 sl1 la hfn hfr hco => ?_)
        refine PySem.Calls.spliced_nil ⟨I1.kIn, ?_⟩
        have rc : codeAny (model X.prog X.w) X.A (.call (.ref g) ⟨[.ref f], []⟩) (CR (L2.CX X.prog X.w) X.stack X.prog X.w H1 s' Q (fun _ _ _ => False)) s' := by
          obtain ⟨j0, kt, k2, k3, q1, q2, q3, q4, q5, q6, q7, q8, q9, r1, r2, r3, r4, r5, r6, r7, r8, r9, hbg⟩ := Td.bd
          obtain ⟨oc, od, dV, kV, doc, pm, an, cdv, cct, osl, hfd, lk, hcd, _, _⟩ := Td.F.ex
          have bnd := Td.B s' [.ref f] I1.kIn rfl
          rw [List.append_nil] at bnd
          subst hfd
          refine LamX.run_ofS (k := kb + 1) (N := [a, n]) (ps := [a]) (us := [.ref f]) (vs := [.ref f]) lk hcd Td.S (hr.mono hkj) I1.env0 bnd (.cons rfl .nil) rfl fun hr2 => ?_
          rw [hbg]
          have hm : ∀ z ∈ [c1, c2, c3, fz, a, n], (z == ("__debug__" : Str)) = false ∧ (z == ("__classdict__" : Str)) = false := Td.dbg
          obtain ⟨pm1, ctv1, hfo⟩ := la
          refine ⟨_, pss_one (ps_try_as3 (X := cxOf (L2.CX X.prog X.w) X.prog X.w X.K X.mg X.base [a, n] x sg g cdv X.A X.stack s' H1 fun _ _ _ => False) (i := 1)
            (tb := fun W D σZ HZ => ∃ Ech : XK, (∀ cls d σ' H', Ech cls d H' → W cls d σ' H') ∧ σZ[0]? = some (some (.ref f)) ∧ HZ b = some (LamX.CodeO b (lamQ X)) ∧
              tV X.K G (WE0 Ech) fb σ HZ fun v H' => [V.str (Str.ofString ""), v].length ≤ sizeLine ∧ ∀ r, H' r = none → D.rt (.ref r) (upd H' r (.tup [.str (Str.ofString ""), v])))
            (ts := fun a2 cls d D σ2 H2 => ∃ C dd ws code, cls = .ref C ∧ d = some dd ∧ XfC X.K C ∧ PySem.W.findIn X.K (.ref C) kCode = some none ∧ (∀ n v, ws.lookup n = some v → PySem.W.findIn X.K (.ref C) n = some none) ∧ H2 dd = some (.xd ws) ∧ ws.lookup kCode = some (.str code) ∧
              (σ2.length = 2 → σ2[1]? = some (some (.ref a2))) ∧ ∀ H', (∀ a o, H2 a = some o → H' a = some o) → outZ (fieldN code) ws fun v => ∀ r, H' r = none → D.rt (.ref r) (upd H' r (.tup [.str code, v])))
            rfl rfl Td.S.nd rfl Td.nl Td.n1 Td.n2 Td.n3 Td.m1 Td.m2 Td.m3 (hm c1 (by simp)).1 (hm c2 (by simp)).1 (hm c3 (by simp)).1 (fun W2 pn xe tkW hpo => ?_) fun a2 oe cls d pn hz hf2 => ?_), ?_⟩
          · refine ⟨fun pins2 s2 σ2 H2 D I2 hh2 => ?_⟩
            obtain ⟨Ech, hW, h1, h2, h3⟩ := hh2
            have act := LamX.pe_act (tb := tV X.K G (WE0 Ech) fb) (i := 0) (a := a) (k := kb) (p1 := q2) (p2 := q3) I1 Lm hfo hfn hfr (hbind _ _ _ _ _) tkW hW hr2 (fun A outer s H hr3 => hbody A outer s H Ech f b hr3) rfl (.inl Td.na) (hm a (by simp)).1 (hm a (by simp)).2
            exact (pss_one (ps_ret (pe_tup (pa_cons pe_str (pa_cons act pa_nil))))).run pins2 s2 σ2 H2 D I2 ⟨h1, h2, h3⟩
          · refine ⟨fun pins2 s2 σ2 H2 D I2 hh2 => ?_⟩
            obtain ⟨C, dd, ws, code, rfl, rfl, Xf, hcn, hns, hdd, hcode, hσ, hout⟩ := hh2
            have h1 := hσ I2.len
            have hvar : ∀ {q : Pos}, PE (Cx.suite (cxOf (L2.CX X.prog X.w) X.prog X.w X.K X.mg X.base [a, n] x sg g cdv X.A X.stack s' H1 fun _ _ _ => False) a2 ((a2, oe) :: pn)) (.Name n q) (tVar 1) := fun {q} => pe_var (i := 1) rfl (.inl Td.nl) (hm n (by simp)).1 (hm n (by simp)).2
            have hp2 : (a2, oe) ∈ (Cx.suite (cxOf (L2.CX X.prog X.w) X.prog X.w X.K X.mg X.base [a, n] x sg g cdv X.A X.stack s' H1 fun _ _ _ => False) a2 ((a2, oe) :: pn)).pn := List.mem_cons_self
            have ez := pe_z (X := Cx.suite (cxOf (L2.CX X.prog X.w) X.prog X.w X.K X.mg X.base [a, n] x sg g cdv X.A X.stack s' H1 fun _ _ _ => False) a2 ((a2, oe) :: pn)) (p := (a2, oe)) (q := r3) (pos := r5) Td.FZ (L2H.RoomH.mono (k := kb + 1) ⟨hr2.dp, hr2.un⟩ (by omega)) hp2 Td.nf Td.mf Td.kf Td.BF
              (pa_cons (hvar (q := r4)) pa_nil) (hm fz (by simp)).1 rfl rfl
            exact (pss_one (ps_ret (pe_tup (pa_cons (pe_xp (p := (a2, oe)) hp2 Xf hz hf2 (hvar (q := r1))) (pa_cons ez pa_nil))))).run pins2 s2 σ2 H2 D I2
              ⟨.ref a2, h1, rfl, hcn, ws, .str code, hdd, hcode, .ref a2, h1, rfl, C, dd, ws, code, ⟨hz, hf2, Xf, hcn, hns, hcode⟩, hdd, fun H' gH => outZ_imp (hout H' gH) fun v z => ⟨by rw [sizeLine_eq]; simp, z⟩⟩
          · refine ⟨fun cls d H' => PySem.W.exmAny X.K cls [.ref (G c1), .ref (G c2), .ref (G c3)] = some true ∧ ∀ a2, H' a2 = none → ∀ σ' : L2.St, ∃ C dd ws code, cls = .ref C ∧ d = some dd ∧ XfC X.K C ∧ PySem.W.findIn X.K (.ref C) kCode = some none ∧ (∀ n v, ws.lookup n = some v → PySem.W.findIn X.K (.ref C) n = some none) ∧
              H' dd = some (.xd ws) ∧ ws.lookup kCode = some (.str code) ∧ ((σ'.set 1 (some (.ref a2))).length = 2 → (σ'.set 1 (some (.ref a2)))[1]? = some (some (.ref a2))) ∧ ∀ H'', (∀ a o, H' a = some o → H'' a = some o) → outZ (fieldN code) ws fun v => ∀ r, H'' r = none → Q (.ref r) (upd H'' r (.tup [.str code, v])),
              fun cls d σ' H' ⟨e1, e2⟩ => ⟨e1, fun a2 ha => e2 a2 ha σ'⟩, rfl, hco, H0, ρ, ⟨F1, c.As, c.st⟩, o1, sl1, ?_⟩
            show Post X.K G (PDen X.K G) _ ⟨F1, c.As, c.st⟩ H1 (fb ρ c.st) _
            have p := pw
            clear pw
            cases er : fb ρ c.st with
            | no => rw [er] at p; exact p.elim
            | ok d s2 =>
              rw [er] at p
              intro v F' As' H' x2 o2 t
              refine ⟨by rw [sizeLine_eq]; simp, fun r hr4 => ?_⟩
              exact Post.newTup (c := ⟨F', As', s2⟩) (Post.up (x1.trans x2) (show Post X.K G (PDen X.K G) _ c H (.ok (.tup [.str (Str.ofString ""), d]) s2) Q from p)) o2 hr4 (.cons .str (.cons t .nil))
            | err e s2 =>
              rw [er] at p
              have p : Post X.K G (PDen X.K G) _ c H (match tryE xt e with | some d => .ok d s2 | none => .no) Q := p
              intro F' As' H' cls dx x2 o2 z
              obtain ⟨rfl, dd, ws, rfl, hdd, lf⟩ := z
              unfold tryE at p
              cases el : xt.lookup e.cls with
              | none => rw [el] at p; exact p.elim
              | some ns =>
                rw [el] at p
                simp only at p
                by_cases hal : (e.fs.all fun p => decide (p.1 ∈ ns)) = true
                · rw [if_pos hal] at p
                  obtain ⟨xf, xc, xn, xm⟩ := XT.ok _ _ el
                  refine ⟨xm, fun a2 ha σ' => ?_⟩
                  cases ec : e.fs.lookup kCode with
                  | none => rw [ec] at p; exact p.elim
                  | some dc =>
                    rw [ec] at p
                    cases dc with
                    | str code =>
                      simp only at p
                      obtain ⟨vc, hvc, tc⟩ := (denF_lookup lf kCode).1 _ ec
                      cases tc
                      refine ⟨_, dd, ws, code, rfl, rfl, xf, xc, fun n v hn => ?_, hdd, hvc, fun hl => ?_, fun H'' gH => ?_⟩
                      · obtain ⟨dn, hdn⟩ := (denF_lookup lf n).2 v hn
                        have hmem : (n, dn) ∈ e.fs := PySem.mem_of_lookup hdn
                        exact xn n (of_decide_eq_true (List.all_eq_true.mp hal _ hmem))
                      · rw [List.length_set] at hl
                        rw [List.getElem?_set_self (by omega)]
                      · have xg : Ext ⟨F', As', s2⟩ H' ⟨F', As', s2⟩ H'' := Ext.heap gH
                        have og := o2.grow gH
                        cases ef : fieldN code with
                        | none =>
                          rw [ef] at p
                          intro r hr4
                          exact Post.newTup (c := ⟨F', As', s2⟩) (Post.up (x1.trans (x2.trans xg)) (show Post X.K G (PDen X.K G) _ c H (.ok (.tup [.str code, .non]) s2) Q from p)) og hr4 (.cons .str (.cons .non .nil))
                        | some n =>
                          rw [ef] at p
                          simp only at p
                          cases en : e.fs.lookup n with
                          | none => rw [en] at p; exact p.elim
                          | some dn =>
                            rw [en] at p
                            obtain ⟨vn, hvn, tn⟩ := (denF_lookup lf n).1 _ en
                            exact ⟨vn, hvn, fun r hr4 => Post.newTup (c := ⟨F', As', s2⟩) (Post.up (x1.trans (x2.trans xg)) (show Post X.K G (PDen X.K G) _ c H (.ok (.tup [.str code, dn]) s2) Q from p)) og hr4 (.cons .str (.cons tn .nil))⟩
                    | _ => exact p.elim
                · rw [if_neg hal] at p; exact p.elim
        refine wpAny_call (codeAny_mono rc fun r s2 hq' => ?_)
        cases r with
        | error e => obtain ⟨_, _, _, _, _, _, _, _, _, _, _, _, z⟩ := hq'; exact z.elim
        | ok fl =>
          cases fl with
          | ret u => exact I1.after hq'
          | next => exact False.elim hq'
          | brk => exact False.elim hq'
          | cont => exact False.elim hq'
      · rw [if_neg hc] at pw; exact pw.elim
    | _ => exact pw.elim
end
end PV
end

section
/-! the end of a law that makes lambdas: its code object's table stands in the store -/
namespace PV
open PySem PySem.Spec L2
open PyProof.Rows hiding St
theorem sp_lawT {K : PySem.W.Frag} {G : ClsAt} {m : List D → M D} {H : Hp} {a tP : Addr} {q : Str} {ns : List Int} (hT : H tP = some (.tbl #[])) (hS : SqL K H a (ns.map V.int)) (h : ∃ st, m [.lst (ns.map D.int)] [.tab q tP] = .ok (.bl true) st) :
    spPV K G (rDen K G) 1 m [.ref a] H (fun v _ => v = .bl true) fun _ _ _ => False := by
  obtain ⟨st, h⟩ := h
  have le : ∀ b u, (fun b => if b = tP then none else H b) b = some u → H b = some u := fun b u e => by
    by_cases z : b = tP
    · have e' : (if b = tP then none else H b) = some u := e
      rw [if_pos z] at e'; cases e'
    · have e' : (if b = tP then none else H b) = some u := e
      rw [if_neg z] at e'; exact e'
  have sq : SqL K (fun b => if b = tP then none else H b) a (ns.map V.int) := by
    rcases hS with (r | ⟨ob, r⟩) | r
    · refine .inl (.inl ?_)
      show (if a = tP then none else H a) = _
      rw [if_neg (fun z => by rw [z, hT] at r; cases r)]; exact r
    · refine .inl (.inr ⟨ob, ?_⟩)
      show (if a = tP then none else H a) = _
      rw [if_neg (fun z => by rw [z, hT] at r; cases r)]; exact r
    · exact .inr r
  refine ⟨rfl, ⟨fun b => if b = tP then none else H b, [tP], [.tab q tP]⟩, [.lst (ns.map D.int)], ⟨fun b u e => .inl (le b u e), rfl, by simp, fun i b d e1 e2 => ?_⟩, .cons (.lst sq (den_ints ns)) .nil, ?_⟩
  · cases i with
    | zero =>
      simp at e1 e2
      subst e1 e2
      exact ⟨if_pos rfl, rfl, #[], hT, True.intro, fun pos cv hc => by
        have z : codeAmong pos [] = some cv := hc
        simp [codeAmong] at z⟩
    | succ i => simp at e1
  · show Post K G _ _ _ H (m [.lst (ns.map D.int)] [.tab q tP]) _
    rw [h]
    intro v F' As' H' _ _ t
    cases t
    rfl
section
variable {P : Program} {w : World} {K : PySem.W.Frag} {mg : Str → Option Value} {base : Heap} {x qual : Str} {params : Arguments} {body : List Stmt} {scope : Scope} {dvs : List V} {kws : List (Str × V)} {f cC : Addr} {fd : FuncData}
theorem FunD.okC {N ps : List Str} {k : Nat} {sp : Sp} (F : FunD K x qual params body scope dvs kws f fd) (S : FnScope N ps scope) (hc : ∀ oc od fd' osl, K.lookup f = some ⟨oc, od, .func fd', osl⟩ → fd'.code = .ref cC) (len : ∀ vs H Q E, sp vs H Q E → vs.length = ps.length)
    (hbody : ∀ (cdv : Value) (A : Around) (outer : List PySem.Env) (s : Shared) (H : Hp) (vs : List V) (Q : VK) (E : XK), cdv = .ref cC → Room k (A.deeper (envOfC qual scope s.heap.objs.size f cdv)) → sp vs H Q E →
      ∃ t, PSs (cxOf (L2.CX P w) P w K mg base N qual scope f cdv A outer s H E) body t ∧ t { nx := fun _ H' => Q .non H', rt := Q } (L2.start N vs) H) : FnOk P w K mg base (L2.CX P w) (k + 1) f fd ps sp := by
  obtain ⟨oc, od, dV, kV, doc, pm, an, cdv, ct, osl, rfl, lk, hcd, _, _⟩ := F.ex
  have e : cdv = .ref cC := hc _ _ _ _ lk
  exact fn_of lk hcd S len fun A outer s H vs Q E hr hsp => hbody cdv A outer s H vs Q E e hr hsp
/-- a def's body, its code object known -/
theorem fn_bodyT {G : ClsAt} {RP : RPT} {Ns ps : List Str} {N k : Nat} {m : SM} {mm : List D → M D} (F : FunD K x qual params body scope dvs kws f fd) (S : FnScope Ns ps scope) (hc : ∀ oc od fd' osl, K.lookup f = some ⟨oc, od, .func fd', osl⟩ → fd'.code = .ref cC)
    (hN : Ns.length = N)
    (hm : ∀ ds s, (match mm ds s with
      | .ok d s' => m (ds.map .val ++ List.replicate (N - ds.length) .no) s = .rt d s' ∨ ((∃ ρ, m (ds.map .val ++ List.replicate (N - ds.length) .no) s = .nx ρ s') ∧ d = .non ∧ ∀ H0 c H, RP H0 c H .non .non)
      | .err e s' => ∃ ρ, m (ds.map .val ++ List.replicate (N - ds.length) .no) s = .err e ρ s'
      | .no => True))
    (hb : ∀ (X : Cx) (E : XK), X.prog = P → X.w = w → X.K = K → X.mg = mg → X.base = base → X.calm = true → X.N = Ns → X.env.scope = scope → (∀ x, X.fn x = true) → Room k X.A → Takes X (WE0 E) → (X.stack = X.env :: X.outer ∧ X.env.frame = some X.env.locals) → PassesOwn (model X.prog X.w) X.A X.env X.xe →
      lamQ X = qual ++ ".<locals>." ++ "<lambda>" → X.env.code = .ref cC → VSs G X (WE0 E) RP body m) :
    FnOk P w K mg base (L2.CX P w) (k + 1) f fd ps (spPV K G RP ps.length mm) := by
  refine FunD.okC F S hc (fun vs H Q E h => h.1) fun cdv A outer s H vs Q E hcd hr h => ?_
  obtain ⟨hl, c, ds, o, l, p⟩ := h
  refine ⟨_, hb (cxOf (L2.CX P w) P w K mg base Ns qual scope f cdv A outer s H E) E rfl rfl rfl rfl rfl rfl rfl rfl (fun _ => rfl) hr (takes_of rfl rfl rfl rfl) ⟨rfl, rfl⟩ PassesOwn.leaving rfl hcd, ?_⟩
  refine ⟨c, H, _, c, Ext.refl c H, o, slots_start hN l, ?_⟩
  have q := hm ds c.st
  cases e : mm ds c.st with
  | no => rw [e] at p; exact p.elim
  | err e' s' =>
    rw [e] at p q
    obtain ⟨ρ, q⟩ := q
    rw [q]
    exact fun σ' F' As' H' cls dx x o _ z => p F' As' H' cls dx x o z
  | ok d s' =>
    rw [e] at p q
    rcases q with q | ⟨⟨ρ, q⟩, rfl, z⟩
    · rw [q]; exact fun v F' As' H' x o r => p v F' As' H' x o r
    · rw [q]; exact fun σ' F' As' H' x o _ => p .non F' As' H' x o (z _ _ _)
/-- a lambda's body runs in the maker's names -/
theorem ct_lam {X : Cx} {N : List Str} {sc scope : Scope} {T T' : NT} {W : WX} {j k : Nat} (c : Ct P w K mg base N sc T j X W) (h : ntB scope N T' = true) (hk : scope.kind = .function) (A : Around) (outer : List PySem.Env) (s : Shared) (H : Hp) (E : XK) (f b : Addr) (hr : Room k (A.deeper (LamX.lamEnv X scope s.heap.objs.size f b))) :
    Ct P w K mg base N scope T' k (LamX.lamCx X A outer s H E scope f b) (WE0 E) :=
  ⟨⟨c.inn.p, c.inn.w, c.inn.K, c.inn.mg, c.inn.b⟩, On.of rfl c.n rfl c.nd h, c.n, rfl, c.nd, hk, hr, takes_of rfl rfl rfl rfl⟩
end
/-! the hook: with a def's table -/
def obTG (n : Nat) (fa : List FB) (fn : List DP) (tf : List He.Defn) (g : Addr → Option Obj) : He.AlD × Bool := (obP fa fn (He.frT g (cStatics :: asQ g n)), He.tabsB g tf (He.frT g (cStatics :: asQ g n)))
structure TabK (K : PySem.W.Frag) (h : Heap) (p : He.Defn) : Prop where
  hd : PySem.W.codeHdIn K (He.cT K p).1 (He.cT K p).2 = true
  out : K.lookup (He.cT K p).2 = none
  em : h.get? (He.cT K p).2 = some { cls := .none, data := .fields #[] }
theorem tabK_of {h : Heap} {as : List Addr} {tf : List He.Defn} (e : He.tabsB h.get? tf (He.frT h.get? as) = true) : ∀ p ∈ tf, TabK (He.frT h.get? as) h p := fun p hp => by
  obtain ⟨h1, h2⟩ := Bool.and_eq_true_iff.mp (List.all_eq_true.mp e p hp)
  cases q : h.get? (He.cT (He.frT h.get? as) p).2 with
  | none => rw [q] at h2; cases h2
  | some o =>
    rw [q] at h2
    have h2 : He.emptyTab o = true := h2
    exact ⟨h1, He.frT_none q h2, by rw [q, He.emptyTab_eq h2]⟩
def hkT (n : Nat) (fa : List FB) (fn : List DP) (tf : List He.Defn) : PySem.W.Hook where
  α := He.AlD × Bool
  obs := fun s => obTG n fa fn tf s.heap.get?
  val := fun _ => (vaP fn, true)
  says := fun _ h => ∃ K : PySem.W.Frag, K.In h ∧ SaysP fa fn K ∧ ∀ p ∈ tf, TabK K h p
  of := fun _ s e => ⟨_, He.frT_in, congrArg (fun z : He.AlD × Bool => z.1) e, tabK_of (congrArg (fun z : He.AlD × Bool => z.2) e)⟩
  keeps := fun _ _ _ ⟨K, hK, c, t⟩ k => ⟨K, PySem.W.Frag.In.keeps hK k, c, fun p hp => ⟨(t p hp).hd, (t p hp).out, k _ _ (t p hp).em⟩⟩
theorem obTG_eq {n : Nat} {fa : List FB} {fn : List DP} {tf : List He.Defn} (s : PySem.W.SharedT) : obTG n fa fn tf (HandSHeadRun.getT s) = (hkT n fa fn tf).obs s.abs := by
  have e : HandSHeadRun.getT s = s.abs.heap.get? := funext (HandSHeadRun.getT_eq s)
  show _ = obTG n fa fn tf s.abs.heap.get?
  rw [e]
/-- the end -/
theorem walk_pvT {l : PySem.W.OpenLaw} {n k : Nat} {q : Program} {loose : List Str} {XP : (Str → Option Value) → Heap → Prop} {YP : World → Heap → Prop} {d : DefRec} {x lq : Str} {tf : He.Defn}
    (hn : l.most = some n) (hn2 : n ≤ sizeLine) (hdf : d.params.defaults = []) (hr : Room k callerA)
    (F : ∀ (w : World) (mg : Str → Option Value) (fa : Addr) (h : Heap), YP w h → h.Ns mainGlobals mg → mg d.name = some (.ref fa) →
      ∃ (K : PySem.W.Frag) (G : ClsAt) (fd : FuncData) (m : List D → M D), K.In h ∧ TabK K h tf ∧ (∀ (s : Shared) (u : Value), BindsTo s fd ⟨[u], []⟩ [(x, u)]) ∧
        (∀ ns : List Int, ns.length ≤ n → (∀ z ∈ ns, Builtin.Int.intBits z ≤ 1048576) → ∃ st, m [.lst (ns.map D.int)] [.tab lq (He.cT K tf).2] = .ok (.bl true) st) ∧
        ∀ base : Heap, K.In base → LamX.TabB base mg (He.cT K tf).1 (He.cT K tf).2 → FnOk l.prog w K mg base (L2.CX l.prog w) k fa fd [x] (spPV K G (rDen K G) 1 m)) :
    PySem.W.WalkO q loose XP YP l.row.toRowW d [] (fun f vs => PySem.call f vs) := by
  refine LamX.walk_ofTsE (x := x) (CX := fun w => L2.CX l.prog w) hn hn2 hdf hr (fun w mg fa h Y G hmg => ?_) fun w H s e s' z => by
    obtain ⟨_, _, _, _, _, _, _, _, _, _, _, _, z⟩ := z; exact z
  obtain ⟨K, G', fd, m, KX, tk, hb, hm, hF⟩ := F w mg fa h Y G hmg
  refine ⟨K, KX, fd, [He.cT K tf], spPV K G' (rDen K G') 1 m, fun p hp => ?_, fun p hp => ?_, fun p hp => ?_, hb, fun H a ns h1 h2 hH hS => ?_, fun base hK hB hT => ?_⟩
  · rw [List.mem_singleton.mp hp]; exact tk.em
  · rw [List.mem_singleton.mp hp]; exact tk.out
  · rw [List.mem_singleton.mp hp]; exact PySem.W.codeHd_of_K KX tk.hd
  · exact sp_lawT (hH _ (List.mem_singleton.mpr rfl)) hS (hm ns h1 h2)
  · exact hF base hK (hT _ (List.mem_singleton.mpr rfl))
end PV
end

section
/-! facts of own exception classes -/
namespace PV
open PySem PySem.Spec L2
open PyProof.Rows hiding St
def bOx (x : Str) (bn : String) (bm : List Value) : FB := fun K => PySem.W.excInitIn K (He.ga K x) bm (bn ++ ".__new__") && (PySem.W.excOver K (He.ga K x) bm && (He.eqO (PySem.W.findIn K (.ref (He.ga K x)) "__setattr__") (some (some (.builtin "object.__setattr__"))) &&
  (PySem.W.hasDictIn K (He.ga K x) && (decide (PySem.W.subIn K (.ref (He.ga K x)) (.type "BaseException") = some true) && (decide (PySem.W.typeIn K (.ref (He.ga K x)) = some (.type "type")) && PySem.W.keepIn K (.ref (He.ga K x)))))))
theorem bOx_ok {x : Str} {bn : String} {bm : List Value} {K : PySem.W.Frag} (h : bOx x bn bm K = true) : OxC K (He.ga K x) bn bm := by
  obtain ⟨h1, h⟩ := Bool.and_eq_true_iff.mp h
  obtain ⟨h2, h⟩ := Bool.and_eq_true_iff.mp h
  obtain ⟨h3, h⟩ := Bool.and_eq_true_iff.mp h
  obtain ⟨h4, h⟩ := Bool.and_eq_true_iff.mp h
  obtain ⟨h5, h⟩ := Bool.and_eq_true_iff.mp h
  obtain ⟨h6, h7⟩ := Bool.and_eq_true_iff.mp h
  exact ⟨h1, h2, He.eqO_ok h3, h4, of_decide_eq_true h5, of_decide_eq_true h6, h7⟩
def bInit (x : Str) : FB := fun K => He.eqO (PySem.W.findIn K (.ref (He.ga K x)) "__init__") (some (some (.ref (maA x "__init__" K)))) && decide (PySem.W.typeIn K (.ref (maA x "__init__" K)) = some (.type "function"))
theorem bInit_ok {x : Str} {K : PySem.W.Frag} (h : bInit x K = true) : PySem.W.findIn K (.ref (He.ga K x)) "__init__" = some (some (.ref (maA x "__init__" K))) ∧ PySem.W.typeIn K (.ref (maA x "__init__" K)) = some (.type "function") := by
  obtain ⟨h1, h2⟩ := Bool.and_eq_true_iff.mp h
  exact ⟨He.eqO_ok h1, of_decide_eq_true h2⟩
def bNx (x : Str) (ns : List Str) : FB := fun K => ns.all fun n => He.eqO (PySem.W.findIn K (.ref (He.ga K x)) n) (some none)
theorem bNx_ok {x n : Str} {ns : List Str} {K : PySem.W.Frag} (h : bNx x ns K = true) (hn : n ∈ ns) : PySem.W.findIn K (.ref (He.ga K x)) n = some none := He.eqO_ok (List.all_eq_true.mp h n hn)
def bXf (x c1 c2 c3 : Str) : FB := fun K => xfB K (He.ga K x) && decide (PySem.W.exmAny K (.ref (He.ga K x)) [.ref (He.ga K c1), .ref (He.ga K c2), .ref (He.ga K c3)] = some true)
theorem bXf_ok {x c1 c2 c3 : Str} {K : PySem.W.Frag} (h : bXf x c1 c2 c3 K = true) : XfC K (He.ga K x) ∧ PySem.W.exmAny K (.ref (He.ga K x)) [.ref (He.ga K c1), .ref (He.ga K c2), .ref (He.ga K c3)] = some true := by
  obtain ⟨h1, h2⟩ := Bool.and_eq_true_iff.mp h
  exact ⟨xfB_ok h1, of_decide_eq_true h2⟩
section
variable {P : Program} {w : World} {K : PySem.W.Frag} {mg : Str → Option Value} {base : Heap} {c f code slf prm qual : Str} {bn : String} {bm : List Value} {params : Arguments} {body : List Stmt} {scope : Scope} {fd : FuncData} {j : Nat} {p1 p2 p3 p4 p5 p6 p7 p8 : Pos} {ns : List Str}
theorem xok1 (EB : ExB bn bm) (F : FunD K "__init__" qual params body scope [] [] (maA c "__init__" K) fd) (S : FnScope [slf, prm] [slf, prm] scope) (B : Binds K fd [slf, prm] []) (h1 : bOx c bn bm K = true) (h2 : bInit c K = true) (h3 : bNx c [f, kCode] K = true) (hm : mg c = some (.ref (He.ga K c)))
    (hb : body = [.Assign [.Attribute (.Name slf p1) f p2] (.Name prm p3) p4, .Assign [.Attribute (.Name slf p5) kCode p6] (.Constant (.str code) j p7) p8]) (d1 : (slf == ("__debug__" : Str)) = false) (d2 : (slf == ("__classdict__" : Str)) = false) (d3 : (prm == ("__debug__" : Str)) = false) (d4 : (prm == ("__classdict__" : Str)) = false) :
    XOk1 P w K mg base (He.ga K) c f code :=
  ⟨⟨bn, bm, _, fd, _, EB, bOx_ok h1, (bInit_ok h2).1, (bInit_ok h2).2, init1_ok EB (bOx_ok h1) (bNx_ok h3 (by simp)) (bNx_ok h3 (by simp)) F S hb d1 d2 d3 d4, B⟩, hm⟩
theorem xok0 (EB : ExB bn bm) (F : FunD K "__init__" qual params body scope [] [] (maA c "__init__" K) fd) (S : FnScope [slf] [slf] scope) (B : Binds K fd [slf] []) (h1 : bOx c bn bm K = true) (h2 : bInit c K = true) (h3 : bNx c [kCode] K = true) (hm : mg c = some (.ref (He.ga K c)))
    (hb : body = [.Assign [.Attribute (.Name slf p5) kCode p6] (.Constant (.str code) j p7) p8]) (d1 : (slf == ("__debug__" : Str)) = false) (d2 : (slf == ("__classdict__" : Str)) = false) :
    XOk0 P w K mg base (He.ga K) c code :=
  ⟨⟨bn, bm, _, fd, _, EB, bOx_ok h1, (bInit_ok h2).1, (bInit_ok h2).2, init0_ok EB (bOx_ok h1) (bNx_ok h3 (by simp)) F S hb d1 d2, B⟩, hm⟩
theorem xt_nil {c1 c2 c3 : Str} : XtOk K (He.ga K) c1 c2 c3 [] := ⟨fun _ _ h => nomatch h⟩
theorem xt_cons {c1 c2 c3 : Str} {xt : XTab} (h1 : bXf c c1 c2 c3 K = true) (h2 : bNx c ns K = true) (hc : kCode ∈ ns) (r : XtOk K (He.ga K) c1 c2 c3 xt) : XtOk K (He.ga K) c1 c2 c3 ((c, ns) :: xt) := ⟨fun d ms h => by
  by_cases e : d = c
  · subst e
    simp [List.lookup] at h
    subst h
    exact ⟨(bXf_ok h1).1, bNx_ok h2 hc, fun n hn => bNx_ok h2 hn, (bXf_ok h1).2⟩
  · have e' : (d == c) = false := by simpa using e
    simp only [List.lookup, e'] at h
    exact r.ok d ms h⟩
theorem code_cT {x qual2 : Str} {dvs : List V} {kws : List (Str × V)} (F : FunD K x qual2 params body scope dvs kws (He.ga K x) fd) : ∀ oc od fd' osl, K.lookup (He.ga K x) = some ⟨oc, od, .func fd', osl⟩ → fd'.code = .ref (He.cT K (x, none)).1 := fun oc od fd' osl lk => by
  obtain ⟨oc2, od2, dV, kV, doc, pm, an, cdv, ct, osl2, rfl, lk2, hcd, _, _⟩ := F.ex
  obtain ⟨cc, rfl⟩ := He.codeIn_ref hcd
  have e := He.codeOf_eq (p := (x, none)) lk2 rfl
  rw [lk] at lk2
  cases lk2
  show Value.ref cc = .ref (He.codeOf K (x, none))
  rw [e]
end
end PV
end

section
namespace PV.LW
open PySem PySem.Spec L2
open PyProof.Rows hiding St
def mth (i j : Nat) : Stmt := match PySem.Challenge.pw_forkmeet_k07_texts_that_are_no_heaps.main.body.getD i (.Pass ⟨0, 0, 0, 0⟩) with
  | .ClassDef (body := b) .. => b.getD j (.Pass ⟨0, 0, 0, 0⟩)
  | _ => .Pass ⟨0, 0, 0, 0⟩
def top (i : Nat) : Stmt := PySem.Challenge.pw_forkmeet_k07_texts_that_are_no_heaps.main.body.getD i (.Pass ⟨0, 0, 0, 0⟩)
abbrev tg_Heap : List Tag := [.inl "NoneType", .inl "bool", .inl "int", .inl "str", .inl "list", .inl "tuple", .inl "dict", .inr (Str.ofString "Heap")]
def sbt_Heap : List (Tag × Bool) := [(.inl "NoneType", false), (.inl "bool", false), (.inl "int", false), (.inl "str", false), (.inl "list", false), (.inl "tuple", false), (.inl "dict", false), (.inr (Str.ofString "Heap"), true)]
abbrev qLam : Str := Str.ofString "law.<locals>.<lambda>"
theorem qlam : (Str.ofString "law" ++ ".<locals>." ++ "<lambda>" : Str) = qLam := by decide +kernel
def xtab : XTab := [((Str.ofString "InvalidName"), [(Str.ofString "given"), kCode]), ((Str.ofString "InvalidText"), [(Str.ofString "line"), kCode]), ((Str.ofString "InvalidCount"), [(Str.ofString "given"), kCode])]
abbrev st_law_try : Stmt := top 25
theorem fs_law_try : FnScope [(Str.ofString "_law_ask"), (Str.ofString "_law_e")] [(Str.ofString "_law_ask")] (defScope st_law_try) := ⟨rfl, rfl, rfl, by decide +kernel, rfl, by decide +kernel, by decide +kernel⟩
abbrev st_law_field : Stmt := top 24
theorem fs_law_field : FnScope [(Str.ofString "_law_e")] [(Str.ofString "_law_e")] (defScope st_law_field) := ⟨rfl, rfl, rfl, by decide +kernel, rfl, by decide +kernel, by decide +kernel⟩
abbrev st_InvalidName_init : Stmt := mth 4 0
theorem fs_InvalidName_init : FnScope [(Str.ofString "self"), (Str.ofString "given")] [(Str.ofString "self"), (Str.ofString "given")] (defScope st_InvalidName_init) := ⟨rfl, rfl, rfl, by decide +kernel, rfl, by decide +kernel, by decide +kernel⟩
abbrev st_InvalidText_init : Stmt := mth 6 0
theorem fs_InvalidText_init : FnScope [(Str.ofString "self"), (Str.ofString "line")] [(Str.ofString "self"), (Str.ofString "line")] (defScope st_InvalidText_init) := ⟨rfl, rfl, rfl, by decide +kernel, rfl, by decide +kernel, by decide +kernel⟩
abbrev st_InvalidCount_init : Stmt := mth 5 0
theorem fs_InvalidCount_init : FnScope [(Str.ofString "self"), (Str.ofString "given")] [(Str.ofString "self"), (Str.ofString "given")] (defScope st_InvalidCount_init) := ⟨rfl, rfl, rfl, by decide +kernel, rfl, by decide +kernel, by decide +kernel⟩
/-! is_name -/
abbrev st_is_name : Stmt := top 14
abbrev N_is_name : List Str := [(Str.ofString "value"), (Str.ofString "sign")]
abbrev ps_is_name : List Str := [(Str.ofString "value")]
def T_is_name : NT := [((Str.ofString "value"), .local, 0), ((Str.ofString "isinstance"), .globalImplicit, 0), ((Str.ofString "str"), .globalImplicit, 0), ((Str.ofString "len"), .globalImplicit, 0), ((Str.ofString "MOST_LETTERS"), .globalImplicit, 0), ((Str.ofString "all"), .globalImplicit, 0)]
theorem nt_is_name : ntB (defScope st_is_name) N_is_name T_is_name = true := by decide +kernel
def T_is_name_1 : NT := [((Str.ofString "sign"), .local, 1), ((Str.ofString "LETTERS"), .globalImplicit, 0)]
abbrev sc_is_name_1 : Scope := ⟨.function, [((Str.ofString ".0"), .local), ((Str.ofString "sign"), .local), ((Str.ofString "LETTERS"), .globalImplicit)], false, false, []⟩
theorem nt_is_name_1 : ntB (relS sc_is_name_1 (defScope st_is_name)) N_is_name T_is_name_1 = true := by decide +kernel
theorem bo_is_name_1 : blkC N_is_name (defScope st_is_name) sc_is_name_1 [((Str.ofString "sign"), 1)] = true := by decide +kernel
theorem fs_is_name : FnScope N_is_name ps_is_name (defScope st_is_name) := ⟨rfl, rfl, rfl, by decide +kernel, rfl, by decide +kernel, by decide +kernel⟩
def b_is_name : SM := (sSeq (sIf (tOr (tNot (e1 truD (eIsi (sbTy "str") (getR 0)))) (tNot (tChn leD leD (kI 1) (e1 lenD (getR 0)) (kI 6)))) (sRet (kB false)) sNil)
  (sRet (e1 allD (lcD (e1 seqM (getV 0)) (gNm 1) tYesM (e2 inD (getR 1) (kS (Str.ofString "abcdefghijklmnopqrstuvwxyz"))) [1]))))
def m_is_name : List D → M D := runM 2 b_is_name
def fm_is_name : List Form := [(1, [], (fmt [0]))]
/-! is_integer -/
abbrev st_is_integer : Stmt := top 15
abbrev N_is_integer : List Str := [(Str.ofString "value")]
abbrev ps_is_integer : List Str := [(Str.ofString "value")]
def T_is_integer : NT := [((Str.ofString "value"), .local, 0), ((Str.ofString "isinstance"), .globalImplicit, 0), ((Str.ofString "int"), .globalImplicit, 0), ((Str.ofString "bool"), .globalImplicit, 0)]
theorem nt_is_integer : ntB (defScope st_is_integer) N_is_integer T_is_integer = true := by decide +kernel
theorem fs_is_integer : FnScope N_is_integer ps_is_integer (defScope st_is_integer) := ⟨rfl, rfl, rfl, by decide +kernel, rfl, by decide +kernel, by decide +kernel⟩
def b_is_integer : SM := (sRet (eAnd (eIsi (sbTy "int") (getR 0)) (e1 notD (eIsi (sbTy "bool") (getR 0)))))
def m_is_integer : List D → M D := runM 1 b_is_integer
def fm_is_integer : List Form := [(1, [], (fmt [0]))]
/-! is_figure -/
abbrev st_is_figure : Stmt := top 17
abbrev N_is_figure : List Str := [(Str.ofString "word"), (Str.ofString "most"), (Str.ofString "sign")]
abbrev ps_is_figure : List Str := [(Str.ofString "word"), (Str.ofString "most")]
def T_is_figure : NT := [((Str.ofString "word"), .local, 0), ((Str.ofString "most"), .local, 1), ((Str.ofString "len"), .globalImplicit, 0), ((Str.ofString "all"), .globalImplicit, 0)]
theorem nt_is_figure : ntB (defScope st_is_figure) N_is_figure T_is_figure = true := by decide +kernel
def T_is_figure_1 : NT := [((Str.ofString "sign"), .local, 2), ((Str.ofString "DIGITS"), .globalImplicit, 0)]
abbrev sc_is_figure_1 : Scope := ⟨.function, [((Str.ofString ".0"), .local), ((Str.ofString "sign"), .local), ((Str.ofString "DIGITS"), .globalImplicit)], false, false, []⟩
theorem nt_is_figure_1 : ntB (relS sc_is_figure_1 (defScope st_is_figure)) N_is_figure T_is_figure_1 = true := by decide +kernel
theorem bo_is_figure_1 : blkC N_is_figure (defScope st_is_figure) sc_is_figure_1 [((Str.ofString "sign"), 2)] = true := by decide +kernel
theorem fs_is_figure : FnScope N_is_figure ps_is_figure (defScope st_is_figure) := ⟨rfl, rfl, rfl, by decide +kernel, rfl, by decide +kernel, by decide +kernel⟩
def b_is_figure : SM := (sSeq (sIf (tOr (tNot (tChn leD leD (kI 1) (e1 lenD (getR 0)) (getR 1))) (tNot (e1 truD (e1 allD (lcD (e1 seqM (getV 0)) (gNm 2) tYesM (e2 inD (getR 2) (kS (Str.ofString "0123456789"))) [2]))))) (sRet (kB false)) sNil)
  (sRet (eOr (e2 eqD (getR 0) (kS (Str.ofString "0"))) (e2 neD (e2 ixD (getR 0) (kI 0)) (kS (Str.ofString "0"))))))
def m_is_figure : List D → M D := runM 3 b_is_figure
def fm_is_figure : List Form := [(2, [], (fmt [0, 1]))]
/-! law_bag -/
abbrev st_law_bag : Stmt := top 20
abbrev N_law_bag : List Str := [(Str.ofString "_law_script"), (Str.ofString "_law_mixed"), (Str.ofString "_law_cell")]
abbrev ps_law_bag : List Str := [(Str.ofString "_law_script")]
def T_law_bag : NT := [((Str.ofString "_law_script"), .local, 0), ((Str.ofString "_law_mixed"), .local, 1), ((Str.ofString "_law_cell"), .local, 2), ((Str.ofString "int"), .globalImplicit, 0), ((Str.ofString "list"), .globalImplicit, 0)]
theorem nt_law_bag : ntB (defScope st_law_bag) N_law_bag T_law_bag = true := by decide +kernel
theorem fs_law_bag : FnScope N_law_bag ps_law_bag (defScope st_law_bag) := ⟨rfl, rfl, rfl, by decide +kernel, rfl, by decide +kernel, by decide +kernel⟩
abbrev b_law_bag := CM.b_law_bag
abbrev m_law_bag := CM.m_law_bag
def fm_law_bag : List Form := [(1, [], (fmt [0]))]
/-! law_draw -/
abbrev st_law_draw : Stmt := top 21
abbrev N_law_draw : List Str := [(Str.ofString "_law_bag_here"), (Str.ofString "_law_many"), (Str.ofString "_law_cell"), (Str.ofString "_law_digit"), (Str.ofString "_law_late")]
abbrev ps_law_draw : List Str := [(Str.ofString "_law_bag_here"), (Str.ofString "_law_many")]
def T_law_draw : NT := [((Str.ofString "_law_bag_here"), .local, 0), ((Str.ofString "_law_many"), .local, 1), ((Str.ofString "_law_cell"), .local, 2), ((Str.ofString "_law_digit"), .local, 3), ((Str.ofString "_law_late"), .local, 4), ((Str.ofString "len"), .globalImplicit, 0), ((Str.ofString "int"), .globalImplicit, 0)]
theorem nt_law_draw : ntB (defScope st_law_draw) N_law_draw T_law_draw = true := by decide +kernel
theorem fs_law_draw : FnScope N_law_draw ps_law_draw (defScope st_law_draw) := ⟨rfl, rfl, rfl, by decide +kernel, rfl, by decide +kernel, by decide +kernel⟩
abbrev b_law_draw := CM.b_law_draw
abbrev m_law_draw := CM.m_law_draw
def fm_law_draw : List Form := [(2, [], (fmt [0, 1]))]
/-! law_same -/
abbrev st_law_same : Stmt := top 23
abbrev N_law_same : List Str := [(Str.ofString "_law_found"), (Str.ofString "_law_due"), (Str.ofString "_law_one"), (Str.ofString "_law_two")]
abbrev ps_law_same : List Str := [(Str.ofString "_law_found"), (Str.ofString "_law_due")]
def T_law_same : NT := [((Str.ofString "_law_found"), .local, 0), ((Str.ofString "_law_due"), .local, 1), ((Str.ofString "isinstance"), .globalImplicit, 0), ((Str.ofString "list"), .globalImplicit, 0), ((Str.ofString "tuple"), .globalImplicit, 0), ((Str.ofString "len"), .globalImplicit, 0), ((Str.ofString "all"), .globalImplicit, 0), ((Str.ofString "zip"), .globalImplicit, 0), ((Str.ofString "bool"), .globalImplicit, 0), ((Str.ofString "int"), .globalImplicit, 0), ((Str.ofString "str"), .globalImplicit, 0)]
theorem nt_law_same : ntB (defScope st_law_same) N_law_same T_law_same = true := by decide +kernel
def T_law_same_1 : NT := [((Str.ofString "_law_one"), .local, 2), ((Str.ofString "_law_two"), .local, 3), ((Str.ofString "_law_same"), .globalImplicit, 0)]
abbrev sc_law_same_1 : Scope := ⟨.function, [((Str.ofString ".0"), .local), ((Str.ofString "_law_one"), .local), ((Str.ofString "_law_two"), .local), ((Str.ofString "_law_same"), .globalImplicit)], false, false, []⟩
theorem nt_law_same_1 : ntB (relS sc_law_same_1 (defScope st_law_same)) N_law_same T_law_same_1 = true := by decide +kernel
theorem bo_law_same_1 : blkC N_law_same (defScope st_law_same) sc_law_same_1 [((Str.ofString "_law_one"), 2), ((Str.ofString "_law_two"), 3)] = true := by decide +kernel
theorem fs_law_same : FnScope N_law_same ps_law_same (defScope st_law_same) := ⟨rfl, rfl, rfl, by decide +kernel, rfl, by decide +kernel, by decide +kernel⟩
abbrev b_law_same := CM.b_law_same
abbrev m_law_same := CM.m_law_same
def fm_law_same : List Form := [(2, [], (fmt [0, 1]))]
/-! law_pairs -/
abbrev st_law_pairs : Stmt := top 28
abbrev N_law_pairs : List Str := [(Str.ofString "_law_counts_here"), (Str.ofString "_law_name")]
abbrev ps_law_pairs : List Str := [(Str.ofString "_law_counts_here")]
def T_law_pairs : NT := [((Str.ofString "_law_counts_here"), .cell, 0), ((Str.ofString "sorted"), .globalImplicit, 0), ((Str.ofString "list"), .globalImplicit, 0)]
theorem nt_law_pairs : ntB (defScope st_law_pairs) N_law_pairs T_law_pairs = true := by decide +kernel
def T_law_pairs_1 : NT := [((Str.ofString "_law_name"), .local, 1), ((Str.ofString "_law_counts_here"), .cell, 0)]
abbrev sc_law_pairs_1 : Scope := ⟨.function, [((Str.ofString ".0"), .local), ((Str.ofString "_law_name"), .local), ((Str.ofString "_law_counts_here"), .free)], false, false, []⟩
theorem nt_law_pairs_1 : ntB (relS sc_law_pairs_1 (defScope st_law_pairs)) N_law_pairs T_law_pairs_1 = true := by decide +kernel
theorem bo_law_pairs_1 : blkC N_law_pairs (defScope st_law_pairs) sc_law_pairs_1 [((Str.ofString "_law_name"), 1)] = true := by decide +kernel
theorem fs_law_pairs : FnScope N_law_pairs ps_law_pairs (defScope st_law_pairs) := ⟨rfl, rfl, rfl, by decide +kernel, rfl, by decide +kernel, by decide +kernel⟩
def b_law_pairs : SM := (sRet (lcD (e1 seqM (e1 sortedD (e1 listD (getR 0)))) (gNm 1) (tCmp neD (e2 ixD (getR 0) (getR 1)) (kI 0)) (e1 tupD (eCons (getV 1) (eCons (e2 ixD (getR 0) (getR 1)) eNil))) [1]))
def m_law_pairs : List D → M D := runM 2 b_law_pairs
def fm_law_pairs : List Form := [(1, [], (fmt [0]))]
/-! Heap_pairs -/
abbrev st_Heap_pairs : Stmt := mth 18 4
abbrev N_Heap_pairs : List Str := [(Str.ofString "self"), (Str.ofString "name")]
abbrev ps_Heap_pairs : List Str := [(Str.ofString "self")]
def T_Heap_pairs : NT := [((Str.ofString "self"), .cell, 0)]
theorem nt_Heap_pairs : ntB (defScope st_Heap_pairs) N_Heap_pairs T_Heap_pairs = true := by decide +kernel
def T_Heap_pairs_1 : NT := [((Str.ofString "name"), .local, 1), ((Str.ofString "self"), .cell, 0)]
abbrev sc_Heap_pairs_1 : Scope := ⟨.function, [((Str.ofString ".0"), .local), ((Str.ofString "name"), .local), ((Str.ofString "self"), .free)], false, false, []⟩
theorem nt_Heap_pairs_1 : ntB (relS sc_Heap_pairs_1 (defScope st_Heap_pairs)) N_Heap_pairs T_Heap_pairs_1 = true := by decide +kernel
theorem bo_Heap_pairs_1 : blkC N_Heap_pairs (defScope st_Heap_pairs) sc_Heap_pairs_1 [((Str.ofString "name"), 1)] = true := by decide +kernel
theorem fs_Heap_pairs : FnScope N_Heap_pairs ps_Heap_pairs (defScope st_Heap_pairs) := ⟨rfl, rfl, rfl, by decide +kernel, rfl, by decide +kernel, by decide +kernel⟩
def b_Heap_pairs : SM := (sRet (lcD (e1 seqM (e1 (fldD [(Str.ofString "Heap")] (Str.ofString "_counts")) (getR 0))) (gNm 1) tYesM (e1 tupD (eCons (getV 1) (eCons (e2 ixD (e1 (fldD [(Str.ofString "Heap")] (Str.ofString "_counts")) (getR 0)) (getR 1)) eNil))) [1]))
def m_Heap_pairs : List D → M D := runM 2 b_Heap_pairs
def fm_Heap_pairs : List Form := [(1, [], (fmt [0]))]
/-! Heap_text -/
abbrev st_Heap_text : Stmt := mth 18 10
abbrev N_Heap_text : List Str := [(Str.ofString "self"), (Str.ofString "name")]
abbrev ps_Heap_text : List Str := [(Str.ofString "self")]
def T_Heap_text : NT := [((Str.ofString "self"), .cell, 0), ((Str.ofString "len"), .globalImplicit, 0)]
theorem nt_Heap_text : ntB (defScope st_Heap_text) N_Heap_text T_Heap_text = true := by decide +kernel
def T_Heap_text_1 : NT := [((Str.ofString "name"), .local, 1), ((Str.ofString "self"), .cell, 0)]
abbrev sc_Heap_text_1 : Scope := ⟨.function, [((Str.ofString ".0"), .local), ((Str.ofString "name"), .local), ((Str.ofString "self"), .free)], false, false, []⟩
theorem nt_Heap_text_1 : ntB (relS sc_Heap_text_1 (defScope st_Heap_text)) N_Heap_text T_Heap_text_1 = true := by decide +kernel
theorem bo_Heap_text_1 : blkC N_Heap_text (defScope st_Heap_text) sc_Heap_text_1 [((Str.ofString "name"), 1)] = true := by decide +kernel
theorem fs_Heap_text : FnScope N_Heap_text ps_Heap_text (defScope st_Heap_text) := ⟨rfl, rfl, rfl, by decide +kernel, rfl, by decide +kernel, by decide +kernel⟩
def b_Heap_text : SM := (sSeq (sIf (tCmp eqD (e1 lenD (e1 (fldD [(Str.ofString "Heap")] (Str.ofString "_counts")) (getR 0))) (kI 0)) (sRet (kS (Str.ofString "0"))) sNil)
  (sRet (eJoin (kS (Str.ofString " + ")) (lcD (e1 seqM (e1 (fldD [(Str.ofString "Heap")] (Str.ofString "_counts")) (getR 0))) (gNm 1) tYesM (fstD [(eFm (e2 ixD (e1 (fldD [(Str.ofString "Heap")] (Str.ofString "_counts")) (getR 0)) (getR 1))), (kF (Str.ofString " ")), (eFm (getR 1))]) [1]))))
def m_Heap_text : List D → M D := runM 2 b_Heap_text
def fm_Heap_text : List Form := [(1, [], (fmt [0]))]
/-! Heap_eq -/
abbrev st_Heap_eq : Stmt := mth 18 15
abbrev N_Heap_eq : List Str := [(Str.ofString "self"), (Str.ofString "other")]
abbrev ps_Heap_eq : List Str := [(Str.ofString "self"), (Str.ofString "other")]
def T_Heap_eq : NT := [((Str.ofString "self"), .local, 0), ((Str.ofString "other"), .local, 1), ((Str.ofString "isinstance"), .globalImplicit, 0), ((Str.ofString "Heap"), .globalImplicit, 0)]
theorem nt_Heap_eq : ntB (defScope st_Heap_eq) N_Heap_eq T_Heap_eq = true := by decide +kernel
theorem fs_Heap_eq : FnScope N_Heap_eq ps_Heap_eq (defScope st_Heap_eq) := ⟨rfl, rfl, rfl, by decide +kernel, rfl, by decide +kernel, by decide +kernel⟩
def b_Heap_eq : SM := (sRet (eAnd (eIsi (sbTab sbt_Heap) (getR 1)) (e2 eqD2 (e1 (fldD [(Str.ofString "Heap")] (Str.ofString "_counts")) (getR 0)) (e1 (fldD [(Str.ofString "Heap")] (Str.ofString "_counts")) (getR 1)))))
def m_Heap_eq : List D → M D := runM 2 b_Heap_eq
def fm_Heap_eq : List Form := [(2, [], (fmt [0, 1]))]
/-! is_number -/
abbrev st_is_number : Stmt := top 16
abbrev N_is_number : List Str := [(Str.ofString "value"), (Str.ofString "least")]
abbrev ps_is_number : List Str := [(Str.ofString "value"), (Str.ofString "least")]
def T_is_number : NT := [((Str.ofString "value"), .local, 0), ((Str.ofString "least"), .local, 1), ((Str.ofString "is_integer"), .globalImplicit, 0)]
theorem nt_is_number : ntB (defScope st_is_number) N_is_number T_is_number = true := by decide +kernel
theorem fs_is_number : FnScope N_is_number ps_is_number (defScope st_is_number) := ⟨rfl, rfl, rfl, by decide +kernel, rfl, by decide +kernel, by decide +kernel⟩
def b_is_number : SM := (sRet (eAnd (eCal 1 0 1 (fmt [0]) m_is_integer (eCons (getV 0) eNil) eNil) (e2 geD (getR 0) (getR 1))))
def m_is_number : List D → M D := runM 2 b_is_number
def fm_is_number : List Form := [(2, [], (fmt [0, 1]))]
/-! law_of -/
abbrev st_law_of : Stmt := top 22
abbrev N_law_of : List Str := [(Str.ofString "_law_bag_here"), (Str.ofString "_law_some")]
abbrev ps_law_of : List Str := [(Str.ofString "_law_bag_here"), (Str.ofString "_law_some")]
def T_law_of : NT := [((Str.ofString "_law_bag_here"), .local, 0), ((Str.ofString "_law_some"), .local, 1), ((Str.ofString "_law_draw"), .globalImplicit, 0), ((Str.ofString "len"), .globalImplicit, 0)]
theorem nt_law_of : ntB (defScope st_law_of) N_law_of T_law_of = true := by decide +kernel
theorem fs_law_of : FnScope N_law_of ps_law_of (defScope st_law_of) := ⟨rfl, rfl, rfl, by decide +kernel, rfl, by decide +kernel, by decide +kernel⟩
abbrev b_law_of := CM.b_law_of
abbrev m_law_of := CM.m_law_of
def fm_law_of : List Form := [(2, [], (fmt [0, 1]))]
/-! law_heap_so -/
abbrev st_law_heap_so : Stmt := top 29
abbrev N_law_heap_so : List Str := [(Str.ofString "_law_found"), (Str.ofString "_law_counts_here")]
abbrev ps_law_heap_so : List Str := [(Str.ofString "_law_found"), (Str.ofString "_law_counts_here")]
def T_law_heap_so : NT := [((Str.ofString "_law_found"), .local, 0), ((Str.ofString "_law_counts_here"), .local, 1), ((Str.ofString "isinstance"), .globalImplicit, 0), ((Str.ofString "Heap"), .globalImplicit, 0), ((Str.ofString "_law_same"), .globalImplicit, 0), ((Str.ofString "_law_pairs"), .globalImplicit, 0)]
theorem nt_law_heap_so : ntB (defScope st_law_heap_so) N_law_heap_so T_law_heap_so = true := by decide +kernel
theorem fs_law_heap_so : FnScope N_law_heap_so ps_law_heap_so (defScope st_law_heap_so) := ⟨rfl, rfl, rfl, by decide +kernel, rfl, by decide +kernel, by decide +kernel⟩
def b_law_heap_so : SM := (sRet (eAnd (eIsi (sbTab sbt_Heap) (getR 0)) (eCal 2 0 2 (fmt [0, 1]) (m_law_same 12) (eCons (eMeth0 [((Str.ofString "Heap"), (1, (fmt [0]), m_Heap_pairs))] (Str.ofString "pairs") 0 (getV 0) eNil) (eCons (eCal 1 0 1 (fmt [0]) m_law_pairs (eCons (getV 1) eNil) eNil) eNil)) eNil)))
def m_law_heap_so : List D → M D := runM 2 b_law_heap_so
def fm_law_heap_so : List Form := [(2, [], (fmt [0, 1]))]
/-! law_text -/
abbrev st_law_text : Stmt := top 30
abbrev N_law_text : List Str := [(Str.ofString "_law_counts_here"), (Str.ofString "_law_rows"), (Str.ofString "_law_name"), (Str.ofString "_law_many")]
abbrev ps_law_text : List Str := [(Str.ofString "_law_counts_here")]
def T_law_text : NT := [((Str.ofString "_law_counts_here"), .local, 0), ((Str.ofString "_law_rows"), .local, 1), ((Str.ofString "_law_pairs"), .globalImplicit, 0)]
theorem nt_law_text : ntB (defScope st_law_text) N_law_text T_law_text = true := by decide +kernel
def T_law_text_1 : NT := [((Str.ofString "_law_name"), .local, 2), ((Str.ofString "_law_many"), .local, 3), ((Str.ofString "str"), .globalImplicit, 0)]
abbrev sc_law_text_1 : Scope := ⟨.function, [((Str.ofString ".0"), .local), ((Str.ofString "_law_name"), .local), ((Str.ofString "_law_many"), .local), ((Str.ofString "str"), .globalImplicit)], false, false, []⟩
theorem nt_law_text_1 : ntB (relS sc_law_text_1 (defScope st_law_text)) N_law_text T_law_text_1 = true := by decide +kernel
theorem bo_law_text_1 : blkC N_law_text (defScope st_law_text) sc_law_text_1 [((Str.ofString "_law_name"), 2), ((Str.ofString "_law_many"), 3)] = true := by decide +kernel
theorem fs_law_text : FnScope N_law_text ps_law_text (defScope st_law_text) := ⟨rfl, rfl, rfl, by decide +kernel, rfl, by decide +kernel, by decide +kernel⟩
def b_law_text : SM := (sSeq (sSetO 1 (lcD (e1 seqM (eCal 1 0 1 (fmt [0]) m_law_pairs (eCons (getV 0) eNil) eNil)) (gTp 2 (gsCons (gNm 2) (gsCons (gNm 3) gsNil))) tYesM (e2 addD (e2 addD (e1 strD (getR 3)) (kS (Str.ofString " "))) (getR 2)) [2, 3]))
  (sSeq (sFrz 1) (sRet (eIf (tCmp neD (getR 1) (e1 lstD eNil)) (eJoin (kS (Str.ofString " + ")) (getR 1)) (kS (Str.ofString "0"))))))
def m_law_text : List D → M D := runM 4 b_law_text
def fm_law_text : List Form := [(1, [], (fmt [0]))]
/-! law_words -/
abbrev st_law_words : Stmt := top 26
abbrev N_law_words : List Str := [(Str.ofString "_law_bag_here"), (Str.ofString "_law_many"), (Str.ofString "_law_letters"), (Str.ofString "_law_stem"), (Str.ofString "_law_k"), (Str.ofString "_law_at"), (Str.ofString "_law_first"), (Str.ofString "_law_tail"), (Str.ofString "_law_found"), (Str.ofString "_law_side"), (Str.ofString "_law_word")]
abbrev ps_law_words : List Str := [(Str.ofString "_law_bag_here"), (Str.ofString "_law_many")]
def T_law_words : NT := [((Str.ofString "_law_bag_here"), .local, 0), ((Str.ofString "_law_many"), .local, 1), ((Str.ofString "_law_letters"), .local, 2), ((Str.ofString "_law_stem"), .local, 3), ((Str.ofString "_law_k"), .local, 4), ((Str.ofString "_law_at"), .local, 5), ((Str.ofString "_law_first"), .local, 6), ((Str.ofString "_law_tail"), .local, 7), ((Str.ofString "_law_found"), .local, 8), ((Str.ofString "_law_side"), .local, 9), ((Str.ofString "_law_word"), .local, 10), ((Str.ofString "range"), .globalImplicit, 0), ((Str.ofString "_law_draw"), .globalImplicit, 0), ((Str.ofString "_law_of"), .globalImplicit, 0), ((Str.ofString "len"), .globalImplicit, 0), ((Str.ofString "int"), .globalImplicit, 0)]
theorem nt_law_words : ntB (defScope st_law_words) N_law_words T_law_words = true := by decide +kernel
theorem fs_law_words : FnScope N_law_words ps_law_words (defScope st_law_words) := ⟨rfl, rfl, rfl, by decide +kernel, rfl, by decide +kernel, by decide +kernel⟩
def b_law_words : SM := (sSeq (sAsg (gTp 2 (gsCons (gNm 2) (gsCons (gNm 3) gsNil))) (e1 tupD (eCons (kS (Str.ofString "abcdefghijklmnopqrstuvwxyz")) (eCons (kS (Str.ofString "")) eNil))))
  (sSeq (sForM (e1 rng1 (eCal 2 0 2 (fmt [0, 1]) m_law_draw (eCons (getV 0) (eCons (kI 3) eNil)) eNil)) (gNm 4) (sSet 3 (e2 addD (getR 3) (eCal 2 0 2 (fmt [0, 1]) m_law_of (eCons (getV 0) (eCons (getV 2) eNil)) eNil))))
  (sSeq (sPar3 5 6 7 false false false (eCal 2 0 2 (fmt [0, 1]) m_law_draw (eCons (getV 0) (eCons (e2 addD (e1 lenD (getR 3)) (kI 1)) eNil)) eNil) (eCal 2 0 2 (fmt [0, 1]) m_law_draw (eCons (getV 0) (eCons (kI 26) eNil)) eNil) (eCal 2 0 2 (fmt [0, 1]) m_law_of (eCons (getV 0) (eCons (e1 lstD (eCons (kS (Str.ofString "")) (eCons (kS (Str.ofString "a")) (eCons (kS (Str.ofString "zz")) eNil)))) eNil)) eNil))
  (sSeq (sPar 8 9 true false (e1 lstD eNil) (eCal 2 0 2 (fmt [0, 1]) m_law_draw (eCons (getV 0) (eCons (kI 2) eNil)) eNil))
  (sSeq (sForM (e1 rng1 (getR 1)) (gNm 4) (sSeq (sSet 10 (e2 addD (e2 addD (eSl slD (getR 3) pN (e1 asI (getR 5))) (e2 ixD (getR 2) (e2 modD (e1 intD (e2 addD (getR 6) (e2 mulD (kI 7) (getR 4)))) (kI 26)))) (eSl slD (getR 3) (e1 asI (getR 5)) pN)))
  (sApp 8 (eIf (tCmp eqD (e2 modD (e1 intD (getR 4)) (kI 2)) (getR 9)) (e2 addD (getR 10) (getR 7)) (getV 10)))))
  (sSeq (sFrz 8) (sRet (getV 8))))))))
def m_law_words : List D → M D := runM 11 b_law_words
def fm_law_words : List Form := [(2, [], (fmt [0, 1]))]
/-! law_counts -/
abbrev st_law_counts : Stmt := top 27
abbrev N_law_counts : List Str := [(Str.ofString "_law_bag_here"), (Str.ofString "_law_words_here"), (Str.ofString "_law_menu"), (Str.ofString "_law_found"), (Str.ofString "_law_word"), (Str.ofString "_law_many")]
abbrev ps_law_counts : List Str := [(Str.ofString "_law_bag_here"), (Str.ofString "_law_words_here"), (Str.ofString "_law_menu")]
def T_law_counts : NT := [((Str.ofString "_law_bag_here"), .local, 0), ((Str.ofString "_law_words_here"), .local, 1), ((Str.ofString "_law_menu"), .local, 2), ((Str.ofString "_law_found"), .local, 3), ((Str.ofString "_law_word"), .local, 4), ((Str.ofString "_law_many"), .local, 5), ((Str.ofString "_law_of"), .globalImplicit, 0)]
theorem nt_law_counts : ntB (defScope st_law_counts) N_law_counts T_law_counts = true := by decide +kernel
theorem fs_law_counts : FnScope N_law_counts ps_law_counts (defScope st_law_counts) := ⟨rfl, rfl, rfl, by decide +kernel, rfl, by decide +kernel, by decide +kernel⟩
def b_law_counts : SM := (sSeq (sSetO 3 kD0)
  (sSeq (sForM (e1 seqM (getV 1)) (gNm 4) (sSeq (sSet 5 (eCal 2 0 2 (fmt [0, 1]) m_law_of (eCons (getV 0) (eCons (getV 2) eNil)) eNil))
  (sIf (tCmp gtD (getR 5) (kI 0)) (sPut 3 (getR 4) (getV 5)) sNil)))
  (sSeq (sFrz 3) (sRet (getV 3)))))
def m_law_counts : List D → M D := runM 6 b_law_counts
def fm_law_counts : List Form := [(3, [], (fmt [0, 1, 2]))]
/-! Heap_init -/
abbrev st_Heap_init : Stmt := mth 18 0
abbrev N_Heap_init : List Str := [(Str.ofString "self"), (Str.ofString "counts"), (Str.ofString "table"), (Str.ofString "name")]
abbrev ps_Heap_init : List Str := [(Str.ofString "self"), (Str.ofString "counts")]
def T_Heap_init : NT := [((Str.ofString "self"), .local, 0), ((Str.ofString "counts"), .local, 1), ((Str.ofString "table"), .cell, 2), ((Str.ofString "name"), .local, 3), ((Str.ofString "is_name"), .globalImplicit, 0), ((Str.ofString "InvalidName"), .globalImplicit, 0), ((Str.ofString "is_number"), .globalImplicit, 0), ((Str.ofString "InvalidCount"), .globalImplicit, 0), ((Str.ofString "sorted"), .globalImplicit, 0), ((Str.ofString "list"), .globalImplicit, 0)]
theorem nt_Heap_init : ntB (defScope st_Heap_init) N_Heap_init T_Heap_init = true := by decide +kernel
def T_Heap_init_1 : NT := [((Str.ofString "name"), .local, 3), ((Str.ofString "table"), .cell, 2)]
abbrev sc_Heap_init_1 : Scope := ⟨.function, [((Str.ofString ".0"), .local), ((Str.ofString "name"), .local), ((Str.ofString "table"), .free)], false, false, []⟩
theorem nt_Heap_init_1 : ntB (relS sc_Heap_init_1 (defScope st_Heap_init)) N_Heap_init T_Heap_init_1 = true := by decide +kernel
theorem bo_Heap_init_1 : blkC N_Heap_init (defScope st_Heap_init) sc_Heap_init_1 [((Str.ofString "name"), 3)] = true := by decide +kernel
theorem fs_Heap_init : FnScope N_Heap_init ps_Heap_init (defScope st_Heap_init) := ⟨rfl, rfl, rfl, by decide +kernel, rfl, by decide +kernel, by decide +kernel⟩
def b_Heap_init : SM := (sSeq (sSet 2 (eIf (tIsN (getR 1)) kD0 (getV 1)))
  (sSeq (sForM (e1 seqM (getV 2)) (gNm 3) (sIf (tNot (e1 truD (eCal 1 0 1 (fmt [0]) m_is_name (eCons (getV 3) eNil) eNil))) (sRs1 (Str.ofString "InvalidName") (Str.ofString "given") (Str.ofString "InvalidName") (getV 3)) sNil))
  (sSeq (sForM (e1 seqM (getV 2)) (gNm 3) (sIf (tNot (e1 truD (eCal 2 0 2 (fmt [0, 1]) m_is_number (eCons (e2 ixD (getR 2) (getR 3)) (eCons (kI 0) eNil)) eNil))) (sRs1 (Str.ofString "InvalidCount") (Str.ofString "given") (Str.ofString "InvalidCount") (e2 ixD (getR 2) (getR 3))) sNil))
  (sFldS [(Str.ofString "Heap")] (Str.ofString "_counts") (getV 0) (dcD (e1 seqM (e1 sortedD (e1 listD (getR 2)))) (gNm 3) (tCmp gtD (e2 ixD (getR 2) (getR 3)) (kI 0)) (getV 3) (e2 ixD (getR 2) (getR 3)) [3])))))
def m_Heap_init : List D → M D := runM 4 b_Heap_init
def dd_Heap_init_d : List D := [.non]
def fm_Heap_init : List Form := [(1, [], (fmtX dd_Heap_init_d [0, 1]))]
/-! Heap_of -/
abbrev st_Heap_of : Stmt := mth 18 1
abbrev N_Heap_of : List Str := [(Str.ofString "names"), (Str.ofString "counts"), (Str.ofString "name")]
abbrev ps_Heap_of : List Str := []
def T_Heap_of : NT := [((Str.ofString "names"), .local, 0), ((Str.ofString "counts"), .local, 1), ((Str.ofString "name"), .local, 2), ((Str.ofString "is_name"), .globalImplicit, 0), ((Str.ofString "InvalidName"), .globalImplicit, 0), ((Str.ofString "Heap"), .globalImplicit, 0)]
theorem nt_Heap_of : ntB (defScope st_Heap_of) N_Heap_of T_Heap_of = true := by decide +kernel
theorem fs_Heap_of : FnScope N_Heap_of (ps_Heap_of ++ [(Str.ofString "names")]) (defScope st_Heap_of) := ⟨rfl, rfl, rfl, by decide +kernel, rfl, by decide +kernel, by decide +kernel⟩
def b_Heap_of : SM := (sSeq (sSetO 1 kD0)
  (sSeq (sForM (e1 seqM (getV 0)) (gNm 2) (sSeq (sIf (tNot (e1 truD (eCal 1 0 1 (fmt [0]) m_is_name (eCons (getV 2) eNil) eNil))) (sRs1 (Str.ofString "InvalidName") (Str.ofString "given") (Str.ofString "InvalidName") (getV 2)) sNil)
  (sPut 1 (getR 2) (e2 addD (eGet2 (getR 1) (getV 2) (kI 0)) (kI 1)))))
  (sSeq (sFrz 1) (sRet (eMk (Str.ofString "Heap") 1 0 2 (fmtX dd_Heap_init_d [0, 1]) m_Heap_init (eCons (getV 1) eNil) eNil)))))
def m_Heap_of : List D → M D := runM 3 b_Heap_of
def fm_Heap_of : List Form := []
/-! Heap_read -/
abbrev st_Heap_read : Stmt := mth 18 2
abbrev N_Heap_read : List Str := [(Str.ofString "text"), (Str.ofString "counts"), (Str.ofString "last"), (Str.ofString "part"), (Str.ofString "words")]
abbrev ps_Heap_read : List Str := [(Str.ofString "text")]
def T_Heap_read : NT := [((Str.ofString "text"), .local, 0), ((Str.ofString "counts"), .local, 1), ((Str.ofString "last"), .local, 2), ((Str.ofString "part"), .local, 3), ((Str.ofString "words"), .local, 4), ((Str.ofString "isinstance"), .globalImplicit, 0), ((Str.ofString "str"), .globalImplicit, 0), ((Str.ofString "InvalidText"), .globalImplicit, 0), ((Str.ofString "len"), .globalImplicit, 0), ((Str.ofString "is_figure"), .globalImplicit, 0), ((Str.ofString "MOST_DIGITS"), .globalImplicit, 0), ((Str.ofString "is_name"), .globalImplicit, 0), ((Str.ofString "int"), .globalImplicit, 0), ((Str.ofString "Heap"), .globalImplicit, 0)]
theorem nt_Heap_read : ntB (defScope st_Heap_read) N_Heap_read T_Heap_read = true := by decide +kernel
theorem fs_Heap_read : FnScope N_Heap_read ps_Heap_read (defScope st_Heap_read) := ⟨rfl, rfl, rfl, by decide +kernel, rfl, by decide +kernel, by decide +kernel⟩
def b_Heap_read : SM := (sSeq (sIf (tNot (e1 truD (eIsi (sbTy "str") (getR 0)))) (sRs1 (Str.ofString "InvalidText") (Str.ofString "line") (Str.ofString "InvalidText") (kI 0)) sNil)
  (sSeq (sPar 1 2 true false kD0 (kS (Str.ofString "")))
  (sSeq (sForM (e1 seqM (eIf (tCmp neD (getR 0) (kS (Str.ofString "0"))) (eTx splitD (getR 0) (kS (Str.ofString " + "))) (e1 lstD eNil))) (gNm 3) (sSeq (sSet 4 (eTx splitD (getR 3) (kS (Str.ofString " "))))
  (sSeq (sIf (tOr (tCmp neD (e1 lenD (getR 4)) (kI 2)) (tOr (tNot (e1 truD (eCal 2 0 2 (fmt [0, 1]) m_is_figure (eCons (e2 ixD (getR 4) (kI 0)) (eCons (kI 60) eNil)) eNil))) (tCmp eqD (e2 ixD (getR 4) (kI 0)) (kS (Str.ofString "0"))))) (sRs1 (Str.ofString "InvalidText") (Str.ofString "line") (Str.ofString "InvalidText") (kI 0)) sNil)
  (sSeq (sIf (tOr (tNot (e1 truD (eCal 1 0 1 (fmt [0]) m_is_name (eCons (e2 ixD (getR 4) (kI 1)) eNil) eNil))) (tCmp leD (e2 ixD (getR 4) (kI 1)) (getR 2))) (sRs1 (Str.ofString "InvalidText") (Str.ofString "line") (Str.ofString "InvalidText") (kI 0)) sNil)
  (sSeq (sSet 2 (e2 ixD (getR 4) (kI 1)))
  (sPut 1 (getR 2) (e1 intD (e2 ixD (getR 4) (kI 0)))))))))
  (sSeq (sFrz 1) (sRet (eMk (Str.ofString "Heap") 1 0 2 (fmtX dd_Heap_init_d [0, 1]) m_Heap_init (eCons (getV 1) eNil) eNil))))))
def m_Heap_read : List D → M D := runM 5 b_Heap_read
def fm_Heap_read : List Form := [(1, [], (fmt [0]))]
/-! law -/
abbrev st_law : Stmt := top 31
abbrev N_law : List Str := [(Str.ofString "_law_script"), (Str.ofString "_law_bag_here"), (Str.ofString "_law_turn"), (Str.ofString "_law_words_here"), (Str.ofString "_law_counts_here"), (Str.ofString "_law_text_here"), (Str.ofString "_law_parts"), (Str.ofString "_law_at"), (Str.ofString "_law_sign"), (Str.ofString "_law_found"), (Str.ofString "_law_bent"), (Str.ofString "_law_odd")]
abbrev ps_law : List Str := [(Str.ofString "_law_script")]
def T_law : NT := [((Str.ofString "_law_script"), .local, 0), ((Str.ofString "_law_bag_here"), .local, 1), ((Str.ofString "_law_turn"), .local, 2), ((Str.ofString "_law_words_here"), .local, 3), ((Str.ofString "_law_counts_here"), .local, 4), ((Str.ofString "_law_text_here"), .local, 5), ((Str.ofString "_law_parts"), .local, 6), ((Str.ofString "_law_at"), .local, 7), ((Str.ofString "_law_sign"), .local, 8), ((Str.ofString "_law_found"), .local, 9), ((Str.ofString "_law_bent"), .cell, 10), ((Str.ofString "_law_odd"), .cell, 11), ((Str.ofString "_law_bag"), .globalImplicit, 0), ((Str.ofString "range"), .globalImplicit, 0), ((Str.ofString "_law_words"), .globalImplicit, 0), ((Str.ofString "_law_draw"), .globalImplicit, 0), ((Str.ofString "_law_counts"), .globalImplicit, 0), ((Str.ofString "_law_text"), .globalImplicit, 0), ((Str.ofString "len"), .globalImplicit, 0), ((Str.ofString "_law_of"), .globalImplicit, 0), ((Str.ofString "_law_try"), .globalImplicit, 0), ((Str.ofString "_law_same"), .globalImplicit, 0), ((Str.ofString "_law_heap_so"), .globalImplicit, 0), ((Str.ofString "Heap"), .globalImplicit, 0)]
theorem nt_law : ntB (defScope st_law) N_law T_law = true := by decide +kernel
def T_law_1 : NT := [((Str.ofString "_law_bent"), .free, 10), ((Str.ofString "Heap"), .globalImplicit, 0)]
abbrev sc_law_1 : Scope := ⟨.function, [((Str.ofString "_law_bent"), .free), ((Str.ofString "Heap"), .globalImplicit)], false, false, []⟩
theorem nt_law_1 : ntB sc_law_1 N_law T_law_1 = true := by decide +kernel
theorem lm_law_1 : LamX.lamSB (defScope st_law) sc_law_1 = true := by decide +kernel
def T_law_2 : NT := [((Str.ofString "_law_odd"), .free, 11), ((Str.ofString "Heap"), .globalImplicit, 0)]
abbrev sc_law_2 : Scope := ⟨.function, [((Str.ofString "_law_odd"), .free), ((Str.ofString "Heap"), .globalImplicit)], false, false, []⟩
theorem nt_law_2 : ntB sc_law_2 N_law T_law_2 = true := by decide +kernel
theorem lm_law_2 : LamX.lamSB (defScope st_law) sc_law_2 = true := by decide +kernel
theorem fs_law : FnScope N_law ps_law (defScope st_law) := ⟨rfl, rfl, rfl, by decide +kernel, rfl, by decide +kernel, by decide +kernel⟩
def b_law (tP : Addr) : SM := (sSeq (sSetO 1 (eCal 1 0 1 (fmt [0]) m_law_bag (eCons (getV 0) eNil) eNil))
  (sSeq (sSto 1) (sSeq (sForM (e1 rng1 (kI 6)) (gNm 2) (sSeq (sSet 3 (eCal 2 0 2 (fmt [0, 1]) m_law_words (eCons (getV 1) (eCons (e2 addD (kI 1) (eCal 2 0 2 (fmt [0, 1]) m_law_draw (eCons (getV 1) (eCons (kI 4) eNil)) eNil)) eNil)) eNil))
  (sSeq (sSet 4 (eCal 3 0 3 (fmt [0, 1, 2]) m_law_counts (eCons (getV 1) (eCons (getV 3) (eCons (e1 lstD (eCons (kI 0) (eCons (kI 1) (eCons (kI 2) (eCons (kI 30) (eCons (e2 addD (kI 1) (eCal 2 0 2 (fmt [0, 1]) m_law_draw (eCons (getV 1) (eCons (e2 powD (kI 10) (kI 9)) eNil)) eNil)) eNil)))))) eNil))) eNil))
  (sSeq (sPar 5 6 false false (eCal 1 0 1 (fmt [0]) m_law_text (eCons (getV 4) eNil) eNil) (eTx splitD (eCal 1 0 1 (fmt [0]) m_law_text (eCons (getV 4) eNil) eNil) (kS (Str.ofString " + "))))
  (sSeq (sPar 7 8 false false (eCal 2 0 2 (fmt [0, 1]) m_law_draw (eCons (getV 1) (eCons (e2 addD (e1 lenD (getR 5)) (kI 1)) eNil)) eNil) (eCal 2 0 2 (fmt [0, 1]) m_law_of (eCons (getV 1) (eCons (e1 lstD (eCons (kS (Str.ofString "0")) (eCons (kS (Str.ofString "1")) (eCons (kS (Str.ofString " ")) (eCons (kS (Str.ofString "a")) (eCons (kS (Str.ofString "z")) (eCons (kS (Str.ofString "+")) (eCons (kS (Str.ofString "-")) (eCons (kS (Str.ofString "\n")) (eCons (kS (Str.ofString "A")) (eCons (kS (Str.ofString " + ")) eNil))))))))))) eNil)) eNil))
  (sSeq (sSet 10 (eCal 2 0 2 (fmt [0, 1]) m_law_of (eCons (getV 1) (eCons (e1 lstD (eCons (e2 addD (e2 addD (eSl slD (getR 5) pN (e1 asI (getR 7))) (getR 8)) (eSl slD (getR 5) (e1 asI (getR 7)) pN)) (eCons (e2 addD (eSl slD (getR 5) pN (e1 asI (getR 7))) (eSl slD (getR 5) (e1 asI (e2 addD (getR 7) (kI 1))) pN)) (eCons (e2 addD (e2 addD (eSl slD (getR 5) pN (e1 asI (getR 7))) (getR 8)) (eSl slD (getR 5) (e1 asI (e2 addD (getR 7) (kI 1))) pN)) (eCons (eJoin (kS (Str.ofString " + ")) (e1 revD (getR 6))) eNil))))) eNil)) eNil))
  (sSeq (sSet 9 (eTry tP 0 qLam xtab (eSm 1 0 1 (fmt [0]) m_Heap_read (eCons (getV 10) eNil) eNil)))
  (sSeq (sIf (tOr (tAnd (tCmp eqD (e2 ixD (getR 9) (kI 0)) (kS (Str.ofString ""))) (tNot (e1 truD (eCal 2 0 2 (fmt [0, 1]) (m_law_same 12) (eCons (eMeth0 [((Str.ofString "Heap"), (1, (fmt [0]), m_Heap_text))] (Str.ofString "text") 0 (e2 ixD (getR 9) (kI 1)) eNil) (eCons (getV 10) eNil)) eNil)))) (tOr (tCmp notInD (e2 ixD (getR 9) (kI 0)) (e1 tupD (eCons (kS (Str.ofString "")) (eCons (kS (Str.ofString "InvalidText")) eNil)))) (tAnd (tCmp neD (e2 ixD (getR 9) (kI 0)) (kS (Str.ofString ""))) (tCmp (dunNe [((Str.ofString "Heap"), ⟨inT tg_Heap, m_Heap_eq⟩)] neD) (e2 ixD (getR 9) (kI 1)) (kI 0))))) (sRet (kB false)) sNil)
  (sSeq (sSet 11 (eCal 2 0 2 (fmt [0, 1]) m_law_of (eCons (getV 1) (eCons (e1 lstD (eCons (kS (Str.ofString "")) (eCons (kS (Str.ofString " ")) (eCons (kS (Str.ofString "0 a")) (eCons (kS (Str.ofString "1 a +")) (eCons (kS (Str.ofString "1 a + 0")) (eCons (kS (Str.ofString "01 a")) (eCons (kS (Str.ofString "1 A")) (eCons (kS (Str.ofString "1 abcdefg")) (eCons (kS (Str.ofString "1  a")) (eCons (kS (Str.ofString " 1 a")) (eCons (kS (Str.ofString "1 a ")) (eCons (kS (Str.ofString "1 a+1 b")) (eCons (kS (Str.ofString "1 b + 1 a")) (eCons (kS (Str.ofString "1 a + 1 a")) (eCons (kS (Str.ofString "a")) (eCons (kS (Str.ofString "1")) (eCons (kS (Str.ofString "-1 a")) (eCons (kS (Str.ofString "1 a\n")) (eCons (kS (Str.ofString "00")) (eCons (kS (Str.ofString "1 a + 0 b")) (eCons kN (eCons (kI 3) (eCons (kB true) (eCons (e1 lstD (eCons (kS (Str.ofString "1 a")) eNil)) (eCons (e1 tupD (eCons (kS (Str.ofString "1 a")) eNil)) (eCons (e2 addD (e2 addD (kS (Str.ofString "1")) (e2 mulX (kS (Str.ofString "0")) (kI 60))) (kS (Str.ofString " a"))) (eCons (kS (Str.ofString "0 + 1 a")) eNil)))))))))))))))))))))))))))) eNil)) eNil))
  (sSeq (sIf (tNot (e1 truD (eCal 2 0 2 (fmt [0, 1]) (m_law_same 12) (eCons (eTry tP 0 qLam xtab (eSm 1 0 1 (fmt [0]) m_Heap_read (eCons (getV 11) eNil) eNil)) (eCons (e1 tupD (eCons (kS (Str.ofString "InvalidText")) (eCons (kI 0) eNil))) eNil)) eNil))) (sRet (kB false)) sNil)
  (sIf (tNot (e1 truD (eCal 2 0 2 (fmt [0, 1]) m_law_heap_so (eCons (eSm 1 0 1 (fmt [0]) m_Heap_read (eCons (getV 5) eNil) eNil) (eCons (getV 4) eNil)) eNil))) (sRet (kB false)) sNil)))))))))))
  (sRet (e2 (dunEq [((Str.ofString "Heap"), ⟨inT tg_Heap, m_Heap_eq⟩)] eqD) (eSm 1 0 1 (fmt [0]) m_Heap_read (eCons (kS (Str.ofString "1 a + 1 b")) eNil) eNil) (eSmR 2 0 m_Heap_of (eCons (kS (Str.ofString "b")) (eCons (kS (Str.ofString "a")) eNil))))))))
def m_law (tP : Addr) : List D → M D := runM 12 (b_law tP)
def fm_law : List Form := []
structure Hd (K : PySem.W.Frag) (mg : Str → Option Value) : Prop where
  d_is_name : ∃ fd, FunD K (Str.ofString "is_name") (Str.ofString "is_name") (defArgs st_is_name) (defBody st_is_name) (defScope st_is_name) [] [] (He.ga K (Str.ofString "is_name")) fd
  d_is_integer : ∃ fd, FunD K (Str.ofString "is_integer") (Str.ofString "is_integer") (defArgs st_is_integer) (defBody st_is_integer) (defScope st_is_integer) [] [] (He.ga K (Str.ofString "is_integer")) fd
  d_is_number : ∃ fd, FunD K (Str.ofString "is_number") (Str.ofString "is_number") (defArgs st_is_number) (defBody st_is_number) (defScope st_is_number) [] [] (He.ga K (Str.ofString "is_number")) fd
  d_is_figure : ∃ fd, FunD K (Str.ofString "is_figure") (Str.ofString "is_figure") (defArgs st_is_figure) (defBody st_is_figure) (defScope st_is_figure) [] [] (He.ga K (Str.ofString "is_figure")) fd
  d_law_bag : ∃ fd, FunD K (Str.ofString "_law_bag") (Str.ofString "_law_bag") (defArgs st_law_bag) (defBody st_law_bag) (defScope st_law_bag) [] [] (He.ga K (Str.ofString "_law_bag")) fd
  d_law_draw : ∃ fd, FunD K (Str.ofString "_law_draw") (Str.ofString "_law_draw") (defArgs st_law_draw) (defBody st_law_draw) (defScope st_law_draw) [] [] (He.ga K (Str.ofString "_law_draw")) fd
  d_law_of : ∃ fd, FunD K (Str.ofString "_law_of") (Str.ofString "_law_of") (defArgs st_law_of) (defBody st_law_of) (defScope st_law_of) [] [] (He.ga K (Str.ofString "_law_of")) fd
  d_law_same : ∃ fd, FunD K (Str.ofString "_law_same") (Str.ofString "_law_same") (defArgs st_law_same) (defBody st_law_same) (defScope st_law_same) [] [] (He.ga K (Str.ofString "_law_same")) fd
  d_law_words : ∃ fd, FunD K (Str.ofString "_law_words") (Str.ofString "_law_words") (defArgs st_law_words) (defBody st_law_words) (defScope st_law_words) [] [] (He.ga K (Str.ofString "_law_words")) fd
  d_law_counts : ∃ fd, FunD K (Str.ofString "_law_counts") (Str.ofString "_law_counts") (defArgs st_law_counts) (defBody st_law_counts) (defScope st_law_counts) [] [] (He.ga K (Str.ofString "_law_counts")) fd
  d_law_pairs : ∃ fd, FunD K (Str.ofString "_law_pairs") (Str.ofString "_law_pairs") (defArgs st_law_pairs) (defBody st_law_pairs) (defScope st_law_pairs) [] [] (He.ga K (Str.ofString "_law_pairs")) fd
  d_law_heap_so : ∃ fd, FunD K (Str.ofString "_law_heap_so") (Str.ofString "_law_heap_so") (defArgs st_law_heap_so) (defBody st_law_heap_so) (defScope st_law_heap_so) [] [] (He.ga K (Str.ofString "_law_heap_so")) fd
  d_law_text : ∃ fd, FunD K (Str.ofString "_law_text") (Str.ofString "_law_text") (defArgs st_law_text) (defBody st_law_text) (defScope st_law_text) [] [] (He.ga K (Str.ofString "_law_text")) fd
  d_law : ∃ fd, FunD K (Str.ofString "law") (Str.ofString "law") (defArgs st_law) (defBody st_law) (defScope st_law) [] [] (He.ga K (Str.ofString "law")) fd
  d_Heap_init : ∃ fd, FunD K (Str.ofString "__init__") (Str.ofString "Heap.__init__") (defArgs st_Heap_init) (defBody st_Heap_init) (defScope st_Heap_init) [.non] [] (maA (Str.ofString "Heap") (Str.ofString "__init__") K) fd
  d_Heap_of : ∃ fd, FunD K (Str.ofString "of") (Str.ofString "Heap.of") (defArgs st_Heap_of) (defBody st_Heap_of) (defScope st_Heap_of) [] [] (smA (Str.ofString "Heap") (Str.ofString "of") K) fd
  d_Heap_read : ∃ fd, FunD K (Str.ofString "read") (Str.ofString "Heap.read") (defArgs st_Heap_read) (defBody st_Heap_read) (defScope st_Heap_read) [] [] (smA (Str.ofString "Heap") (Str.ofString "read") K) fd
  d_Heap_pairs : ∃ fd, FunD K (Str.ofString "pairs") (Str.ofString "Heap.pairs") (defArgs st_Heap_pairs) (defBody st_Heap_pairs) (defScope st_Heap_pairs) [] [] (maA (Str.ofString "Heap") (Str.ofString "pairs") K) fd
  d_Heap_text : ∃ fd, FunD K (Str.ofString "text") (Str.ofString "Heap.text") (defArgs st_Heap_text) (defBody st_Heap_text) (defScope st_Heap_text) [] [] (maA (Str.ofString "Heap") (Str.ofString "text") K) fd
  d_Heap_eq : ∃ fd, FunD K (Str.ofString "__eq__") (Str.ofString "Heap.__eq__") (defArgs st_Heap_eq) (defBody st_Heap_eq) (defScope st_Heap_eq) [] [] (maA (Str.ofString "Heap") (Str.ofString "__eq__") K) fd
  d_law_try : ∃ fd, FunD K (Str.ofString "_law_try") (Str.ofString "_law_try") (defArgs st_law_try) (defBody st_law_try) (defScope st_law_try) [] [] (He.ga K (Str.ofString "_law_try")) fd
  d_law_field : ∃ fd, FunD K (Str.ofString "_law_field") (Str.ofString "_law_field") (defArgs st_law_field) (defBody st_law_field) (defScope st_law_field) [] [] (He.ga K (Str.ofString "_law_field")) fd
  d_InvalidName_init : ∃ fd, FunD K (Str.ofString "__init__") (Str.ofString "InvalidName.__init__") (defArgs st_InvalidName_init) (defBody st_InvalidName_init) (defScope st_InvalidName_init) [] [] (maA (Str.ofString "InvalidName") (Str.ofString "__init__") K) fd
  d_InvalidText_init : ∃ fd, FunD K (Str.ofString "__init__") (Str.ofString "InvalidText.__init__") (defArgs st_InvalidText_init) (defBody st_InvalidText_init) (defScope st_InvalidText_init) [] [] (maA (Str.ofString "InvalidText") (Str.ofString "__init__") K) fd
  d_InvalidCount_init : ∃ fd, FunD K (Str.ofString "__init__") (Str.ofString "InvalidCount.__init__") (defArgs st_InvalidCount_init) (defBody st_InvalidCount_init) (defScope st_InvalidCount_init) [] [] (maA (Str.ofString "InvalidCount") (Str.ofString "__init__") K) fd
  g_is_name : mg (Str.ofString "is_name") = some (.ref (He.ga K (Str.ofString "is_name")))
  g_is_integer : mg (Str.ofString "is_integer") = some (.ref (He.ga K (Str.ofString "is_integer")))
  g_is_number : mg (Str.ofString "is_number") = some (.ref (He.ga K (Str.ofString "is_number")))
  g_is_figure : mg (Str.ofString "is_figure") = some (.ref (He.ga K (Str.ofString "is_figure")))
  g_law_bag : mg (Str.ofString "_law_bag") = some (.ref (He.ga K (Str.ofString "_law_bag")))
  g_law_draw : mg (Str.ofString "_law_draw") = some (.ref (He.ga K (Str.ofString "_law_draw")))
  g_law_of : mg (Str.ofString "_law_of") = some (.ref (He.ga K (Str.ofString "_law_of")))
  g_law_same : mg (Str.ofString "_law_same") = some (.ref (He.ga K (Str.ofString "_law_same")))
  g_law_words : mg (Str.ofString "_law_words") = some (.ref (He.ga K (Str.ofString "_law_words")))
  g_law_counts : mg (Str.ofString "_law_counts") = some (.ref (He.ga K (Str.ofString "_law_counts")))
  g_law_pairs : mg (Str.ofString "_law_pairs") = some (.ref (He.ga K (Str.ofString "_law_pairs")))
  g_law_heap_so : mg (Str.ofString "_law_heap_so") = some (.ref (He.ga K (Str.ofString "_law_heap_so")))
  g_law_text : mg (Str.ofString "_law_text") = some (.ref (He.ga K (Str.ofString "_law_text")))
  g_law : mg (Str.ofString "law") = some (.ref (He.ga K (Str.ofString "law")))
  mk_Heap : Mk K (He.ga K (Str.ofString "Heap")) (maA (Str.ofString "Heap") (Str.ofString "__init__") K)
  sm_Heap_of : bSm (Str.ofString "Heap") (Str.ofString "of") K = true
  sm_Heap_read : bSm (Str.ofString "Heap") (Str.ofString "read") K = true
  me_Heap_pairs : Meth K (He.ga K (Str.ofString "Heap")) (Str.ofString "pairs") (maA (Str.ofString "Heap") (Str.ofString "pairs") K)
  me_Heap_text : Meth K (He.ga K (Str.ofString "Heap")) (Str.ofString "text") (maA (Str.ofString "Heap") (Str.ofString "text") K)
  dn_Heap_eq : bDun (Str.ofString "Heap") (Str.ofString "__eq__") K = true
  g_Heap : mg (Str.ofString "Heap") = some (.ref (He.ga K (Str.ofString "Heap")))
  cl_Heap : ClsF K (He.ga K (Str.ofString "Heap"))
  sf_Heap : PySem.W.selfFirst K (He.ga K (Str.ofString "Heap")) = true
  nf_Heap : bNf (Str.ofString "Heap") tg_Heap K = true
  ne_Heap : bNe (Str.ofString "Heap") K = true
  sx_Heap : bSub (Str.ofString "Heap") sbt_Heap K = true
  na_Heap_counts : NoAttr K (He.ga K (Str.ofString "Heap")) (Str.ofString "_counts")
  g_law_try : mg (Str.ofString "_law_try") = some (.ref (He.ga K (Str.ofString "_law_try")))
  g_law_field : mg (Str.ofString "_law_field") = some (.ref (He.ga K (Str.ofString "_law_field")))
  g_InvalidName : mg (Str.ofString "InvalidName") = some (.ref (He.ga K (Str.ofString "InvalidName")))
  g_InvalidText : mg (Str.ofString "InvalidText") = some (.ref (He.ga K (Str.ofString "InvalidText")))
  g_InvalidCount : mg (Str.ofString "InvalidCount") = some (.ref (He.ga K (Str.ofString "InvalidCount")))
  g_ForkError : mg (Str.ofString "ForkError") = some (.ref (He.ga K (Str.ofString "ForkError")))
  g_Missing : mg (Str.ofString "Missing") = some (.ref (He.ga K (Str.ofString "Missing")))
  g_NothingLeft : mg (Str.ofString "NothingLeft") = some (.ref (He.ga K (Str.ofString "NothingLeft")))
  ox_InvalidName : bOx (Str.ofString "InvalidName") "ValueError" tlV K = true
  oi_InvalidName : bInit (Str.ofString "InvalidName") K = true
  on_InvalidName : bNx (Str.ofString "InvalidName") [(Str.ofString "given"), kCode] K = true
  of_InvalidName : bXf (Str.ofString "InvalidName") (Str.ofString "ForkError") (Str.ofString "Missing") (Str.ofString "NothingLeft") K = true
  ox_InvalidText : bOx (Str.ofString "InvalidText") "ValueError" tlV K = true
  oi_InvalidText : bInit (Str.ofString "InvalidText") K = true
  on_InvalidText : bNx (Str.ofString "InvalidText") [(Str.ofString "line"), kCode] K = true
  of_InvalidText : bXf (Str.ofString "InvalidText") (Str.ofString "ForkError") (Str.ofString "Missing") (Str.ofString "NothingLeft") K = true
  ox_InvalidCount : bOx (Str.ofString "InvalidCount") "ValueError" tlV K = true
  oi_InvalidCount : bInit (Str.ofString "InvalidCount") K = true
  on_InvalidCount : bNx (Str.ofString "InvalidCount") [(Str.ofString "given"), kCode] K = true
  of_InvalidCount : bXf (Str.ofString "InvalidCount") (Str.ofString "ForkError") (Str.ofString "Missing") (Str.ofString "NothingLeft") K = true
  f_all : mg (Str.ofString "all") = none
  f_bool : mg (Str.ofString "bool") = none
  f_int : mg (Str.ofString "int") = none
  f_isinstance : mg (Str.ofString "isinstance") = none
  f_len : mg (Str.ofString "len") = none
  f_list : mg (Str.ofString "list") = none
  f_range : mg (Str.ofString "range") = none
  f_sorted : mg (Str.ofString "sorted") = none
  f_str : mg (Str.ofString "str") = none
  f_tuple : mg (Str.ofString "tuple") = none
  f_zip : mg (Str.ofString "zip") = none
  c_LETTERS : ∃ t, mg (Str.ofString "LETTERS") = some (.str (Str.ofString "abcdefghijklmnopqrstuvwxyz") t)
  c_DIGITS : ∃ t, mg (Str.ofString "DIGITS") = some (.str (Str.ofString "0123456789") t)
  c_MOST_LETTERS : ∃ t, mg (Str.ofString "MOST_LETTERS") = some (.int 6 t)
  c_MOST_DIGITS : ∃ t, mg (Str.ofString "MOST_DIGITS") = some (.int 60 t)
end PV.LW
end

section
namespace PV.LW
open PySem PySem.Spec L2
open PyProof.Rows hiding St
def dp_is_name : DP := ⟨fun K => He.ga K (Str.ofString "is_name"), ⟨((Str.ofString "is_name"), none), (Str.ofString "is_name"), (Str.ofString "is_name"), defArgs st_is_name, defBody st_is_name, defScope st_is_name, [], []⟩⟩
def dp_is_integer : DP := ⟨fun K => He.ga K (Str.ofString "is_integer"), ⟨((Str.ofString "is_integer"), none), (Str.ofString "is_integer"), (Str.ofString "is_integer"), defArgs st_is_integer, defBody st_is_integer, defScope st_is_integer, [], []⟩⟩
def dp_is_number : DP := ⟨fun K => He.ga K (Str.ofString "is_number"), ⟨((Str.ofString "is_number"), none), (Str.ofString "is_number"), (Str.ofString "is_number"), defArgs st_is_number, defBody st_is_number, defScope st_is_number, [], []⟩⟩
def dp_is_figure : DP := ⟨fun K => He.ga K (Str.ofString "is_figure"), ⟨((Str.ofString "is_figure"), none), (Str.ofString "is_figure"), (Str.ofString "is_figure"), defArgs st_is_figure, defBody st_is_figure, defScope st_is_figure, [], []⟩⟩
def dp_law_bag : DP := ⟨fun K => He.ga K (Str.ofString "_law_bag"), ⟨((Str.ofString "_law_bag"), none), (Str.ofString "_law_bag"), (Str.ofString "_law_bag"), defArgs st_law_bag, defBody st_law_bag, defScope st_law_bag, [], []⟩⟩
def dp_law_draw : DP := ⟨fun K => He.ga K (Str.ofString "_law_draw"), ⟨((Str.ofString "_law_draw"), none), (Str.ofString "_law_draw"), (Str.ofString "_law_draw"), defArgs st_law_draw, defBody st_law_draw, defScope st_law_draw, [], []⟩⟩
def dp_law_of : DP := ⟨fun K => He.ga K (Str.ofString "_law_of"), ⟨((Str.ofString "_law_of"), none), (Str.ofString "_law_of"), (Str.ofString "_law_of"), defArgs st_law_of, defBody st_law_of, defScope st_law_of, [], []⟩⟩
def dp_law_same : DP := ⟨fun K => He.ga K (Str.ofString "_law_same"), ⟨((Str.ofString "_law_same"), none), (Str.ofString "_law_same"), (Str.ofString "_law_same"), defArgs st_law_same, defBody st_law_same, defScope st_law_same, [], []⟩⟩
def dp_law_words : DP := ⟨fun K => He.ga K (Str.ofString "_law_words"), ⟨((Str.ofString "_law_words"), none), (Str.ofString "_law_words"), (Str.ofString "_law_words"), defArgs st_law_words, defBody st_law_words, defScope st_law_words, [], []⟩⟩
def dp_law_counts : DP := ⟨fun K => He.ga K (Str.ofString "_law_counts"), ⟨((Str.ofString "_law_counts"), none), (Str.ofString "_law_counts"), (Str.ofString "_law_counts"), defArgs st_law_counts, defBody st_law_counts, defScope st_law_counts, [], []⟩⟩
def dp_law_pairs : DP := ⟨fun K => He.ga K (Str.ofString "_law_pairs"), ⟨((Str.ofString "_law_pairs"), none), (Str.ofString "_law_pairs"), (Str.ofString "_law_pairs"), defArgs st_law_pairs, defBody st_law_pairs, defScope st_law_pairs, [], []⟩⟩
def dp_law_heap_so : DP := ⟨fun K => He.ga K (Str.ofString "_law_heap_so"), ⟨((Str.ofString "_law_heap_so"), none), (Str.ofString "_law_heap_so"), (Str.ofString "_law_heap_so"), defArgs st_law_heap_so, defBody st_law_heap_so, defScope st_law_heap_so, [], []⟩⟩
def dp_law_text : DP := ⟨fun K => He.ga K (Str.ofString "_law_text"), ⟨((Str.ofString "_law_text"), none), (Str.ofString "_law_text"), (Str.ofString "_law_text"), defArgs st_law_text, defBody st_law_text, defScope st_law_text, [], []⟩⟩
def dp_law : DP := ⟨fun K => He.ga K (Str.ofString "law"), ⟨((Str.ofString "law"), none), (Str.ofString "law"), (Str.ofString "law"), defArgs st_law, defBody st_law, defScope st_law, [], []⟩⟩
def dp_Heap_init : DP := ⟨fun K => maA (Str.ofString "Heap") (Str.ofString "__init__") K, ⟨((Str.ofString "__init__"), none), (Str.ofString "__init__"), (Str.ofString "Heap.__init__"), defArgs st_Heap_init, defBody st_Heap_init, defScope st_Heap_init, [.non], []⟩⟩
def dp_Heap_of : DP := ⟨fun K => smA (Str.ofString "Heap") (Str.ofString "of") K, ⟨((Str.ofString "of"), none), (Str.ofString "of"), (Str.ofString "Heap.of"), defArgs st_Heap_of, defBody st_Heap_of, defScope st_Heap_of, [], []⟩⟩
def dp_Heap_read : DP := ⟨fun K => smA (Str.ofString "Heap") (Str.ofString "read") K, ⟨((Str.ofString "read"), none), (Str.ofString "read"), (Str.ofString "Heap.read"), defArgs st_Heap_read, defBody st_Heap_read, defScope st_Heap_read, [], []⟩⟩
def dp_Heap_pairs : DP := ⟨fun K => maA (Str.ofString "Heap") (Str.ofString "pairs") K, ⟨((Str.ofString "pairs"), none), (Str.ofString "pairs"), (Str.ofString "Heap.pairs"), defArgs st_Heap_pairs, defBody st_Heap_pairs, defScope st_Heap_pairs, [], []⟩⟩
def dp_Heap_text : DP := ⟨fun K => maA (Str.ofString "Heap") (Str.ofString "text") K, ⟨((Str.ofString "text"), none), (Str.ofString "text"), (Str.ofString "Heap.text"), defArgs st_Heap_text, defBody st_Heap_text, defScope st_Heap_text, [], []⟩⟩
def dp_Heap_eq : DP := ⟨fun K => maA (Str.ofString "Heap") (Str.ofString "__eq__") K, ⟨((Str.ofString "__eq__"), none), (Str.ofString "__eq__"), (Str.ofString "Heap.__eq__"), defArgs st_Heap_eq, defBody st_Heap_eq, defScope st_Heap_eq, [], []⟩⟩
def dp_law_try : DP := ⟨fun K => He.ga K (Str.ofString "_law_try"), ⟨((Str.ofString "_law_try"), none), (Str.ofString "_law_try"), (Str.ofString "_law_try"), defArgs st_law_try, defBody st_law_try, defScope st_law_try, [], []⟩⟩
def dp_law_field : DP := ⟨fun K => He.ga K (Str.ofString "_law_field"), ⟨((Str.ofString "_law_field"), none), (Str.ofString "_law_field"), (Str.ofString "_law_field"), defArgs st_law_field, defBody st_law_field, defScope st_law_field, [], []⟩⟩
def dp_InvalidName_init : DP := ⟨fun K => maA (Str.ofString "InvalidName") (Str.ofString "__init__") K, ⟨((Str.ofString "__init__"), none), (Str.ofString "__init__"), (Str.ofString "InvalidName.__init__"), defArgs st_InvalidName_init, defBody st_InvalidName_init, defScope st_InvalidName_init, [], []⟩⟩
def dp_InvalidText_init : DP := ⟨fun K => maA (Str.ofString "InvalidText") (Str.ofString "__init__") K, ⟨((Str.ofString "__init__"), none), (Str.ofString "__init__"), (Str.ofString "InvalidText.__init__"), defArgs st_InvalidText_init, defBody st_InvalidText_init, defScope st_InvalidText_init, [], []⟩⟩
def dp_InvalidCount_init : DP := ⟨fun K => maA (Str.ofString "InvalidCount") (Str.ofString "__init__") K, ⟨((Str.ofString "__init__"), none), (Str.ofString "__init__"), (Str.ofString "InvalidCount.__init__"), defArgs st_InvalidCount_init, defBody st_InvalidCount_init, defScope st_InvalidCount_init, [], []⟩⟩
def hfn : List DP := [dp_is_name, dp_is_integer, dp_is_number, dp_is_figure, dp_law_bag, dp_law_draw, dp_law_of, dp_law_same, dp_law_words, dp_law_counts, dp_law_pairs, dp_law_heap_so, dp_law_text, dp_law, dp_Heap_init, dp_Heap_of, dp_Heap_read, dp_Heap_pairs, dp_Heap_text, dp_Heap_eq, dp_law_try, dp_law_field, dp_InvalidName_init, dp_InvalidText_init, dp_InvalidCount_init]
def hfa : List FB := [bFa (.glo (Str.ofString "is_name")), bFa (.glo (Str.ofString "is_integer")), bFa (.glo (Str.ofString "is_number")), bFa (.glo (Str.ofString "is_figure")), bFa (.glo (Str.ofString "_law_bag")), bFa (.glo (Str.ofString "_law_draw")), bFa (.glo (Str.ofString "_law_of")), bFa (.glo (Str.ofString "_law_same")), bFa (.glo (Str.ofString "_law_words")), bFa (.glo (Str.ofString "_law_counts")), bFa (.glo (Str.ofString "_law_pairs")), bFa (.glo (Str.ofString "_law_heap_so")), bFa (.glo (Str.ofString "_law_text")), bFa (.glo (Str.ofString "law")), bFa (.mkr (Str.ofString "Heap")), bSm (Str.ofString "Heap") (Str.ofString "of"), bSm (Str.ofString "Heap") (Str.ofString "read"), bFa (.meth (Str.ofString "Heap") (Str.ofString "pairs")), bFa (.meth (Str.ofString "Heap") (Str.ofString "text")), bDun (Str.ofString "Heap") (Str.ofString "__eq__"), bFa (.glo (Str.ofString "Heap")), bClsF (Str.ofString "Heap"), bSelf (Str.ofString "Heap"), bNf (Str.ofString "Heap") tg_Heap, bNe (Str.ofString "Heap"), bSub (Str.ofString "Heap") sbt_Heap, bFa (.noat (Str.ofString "Heap") (Str.ofString "_counts")), bFa (.glo (Str.ofString "_law_try")), bFa (.glo (Str.ofString "_law_field")), bFa (.glo (Str.ofString "InvalidName")), bFa (.glo (Str.ofString "InvalidText")), bFa (.glo (Str.ofString "InvalidCount")), bFa (.glo (Str.ofString "ForkError")), bFa (.glo (Str.ofString "Missing")), bFa (.glo (Str.ofString "NothingLeft")), bOx (Str.ofString "InvalidName") "ValueError" tlV, bInit (Str.ofString "InvalidName"), bNx (Str.ofString "InvalidName") [(Str.ofString "given"), kCode], bXf (Str.ofString "InvalidName") (Str.ofString "ForkError") (Str.ofString "Missing") (Str.ofString "NothingLeft"), bOx (Str.ofString "InvalidText") "ValueError" tlV, bInit (Str.ofString "InvalidText"), bNx (Str.ofString "InvalidText") [(Str.ofString "line"), kCode], bXf (Str.ofString "InvalidText") (Str.ofString "ForkError") (Str.ofString "Missing") (Str.ofString "NothingLeft"), bOx (Str.ofString "InvalidCount") "ValueError" tlV, bInit (Str.ofString "InvalidCount"), bNx (Str.ofString "InvalidCount") [(Str.ofString "given"), kCode], bXf (Str.ofString "InvalidCount") (Str.ofString "ForkError") (Str.ofString "Missing") (Str.ofString "NothingLeft"), bFa (.free (Str.ofString "all")), bFa (.free (Str.ofString "bool")), bFa (.free (Str.ofString "int")), bFa (.free (Str.ofString "isinstance")), bFa (.free (Str.ofString "len")), bFa (.free (Str.ofString "list")), bFa (.free (Str.ofString "range")), bFa (.free (Str.ofString "sorted")), bFa (.free (Str.ofString "str")), bFa (.free (Str.ofString "tuple")), bFa (.free (Str.ofString "zip")), bFa (.str (Str.ofString "LETTERS") (Str.ofString "abcdefghijklmnopqrstuvwxyz")), bFa (.str (Str.ofString "DIGITS") (Str.ofString "0123456789")), bFa (.int (Str.ofString "MOST_LETTERS") 6), bFa (.int (Str.ofString "MOST_DIGITS") 60)]
abbrev loose : List Str := ([(Str.ofString "__name__"), (Str.ofString "LETTERS"), (Str.ofString "DIGITS"), (Str.ofString "MOST_LETTERS"), (Str.ofString "MOST_DIGITS"), (Str.ofString "_wall"), (Str.ofString "is_name"), (Str.ofString "is_integer"), (Str.ofString "is_number"), (Str.ofString "is_figure"), (Str.ofString "_law_bag"), (Str.ofString "_law_draw"), (Str.ofString "_law_of"), (Str.ofString "_law_same"), (Str.ofString "_law_field"), (Str.ofString "_law_try"), (Str.ofString "_law_words"), (Str.ofString "_law_counts"), (Str.ofString "_law_pairs"), (Str.ofString "_law_heap_so"), (Str.ofString "_law_text"), (Str.ofString "ForkError"), (Str.ofString "Missing"), (Str.ofString "InvalidName"), (Str.ofString "InvalidCount"), (Str.ofString "InvalidText"), (Str.ofString "Lacking"), (Str.ofString "NothingLeft"), (Str.ofString "Heap")] : List Str)
abbrev R : PySem.W.OpenRow := PySem.W.OpenLaw.row PySem.Challenge.rw_forkmeet_k07_texts_that_are_no_heaps
abbrev hk : PySem.W.Hook := hkT 6 hfa hfn [((Str.ofString "law"), none)]
def ob (s : PySem.W.SharedT) : He.AlD × Bool := obTG 6 hfa hfn [((Str.ofString "law"), none)] (HandSHeadRun.getT s)
theorem ob_eq (s : PySem.W.SharedT) : ob s = hk.obs s.abs := obTG_eq s
theorem run (w : World) : HandSHeadRun.RunEq R (PySem.W.view R.prog [31]) hk ob 40000 loose w := by
  intro os
  kernel_rfl
theorem facts {K : PySem.W.Frag} {h : Heap} {mg : Str → Option Value} (X : K.In h) (G : h.Ns mainGlobals mg) (c : SaysP hfa hfn K) : Hd K mg where
  d_is_name := c.def_ 0 (d := dp_is_name) rfl
  d_is_integer := c.def_ 1 (d := dp_is_integer) rfl
  d_is_number := c.def_ 2 (d := dp_is_number) rfl
  d_is_figure := c.def_ 3 (d := dp_is_figure) rfl
  d_law_bag := c.def_ 4 (d := dp_law_bag) rfl
  d_law_draw := c.def_ 5 (d := dp_law_draw) rfl
  d_law_of := c.def_ 6 (d := dp_law_of) rfl
  d_law_same := c.def_ 7 (d := dp_law_same) rfl
  d_law_words := c.def_ 8 (d := dp_law_words) rfl
  d_law_counts := c.def_ 9 (d := dp_law_counts) rfl
  d_law_pairs := c.def_ 10 (d := dp_law_pairs) rfl
  d_law_heap_so := c.def_ 11 (d := dp_law_heap_so) rfl
  d_law_text := c.def_ 12 (d := dp_law_text) rfl
  d_law := c.def_ 13 (d := dp_law) rfl
  d_Heap_init := c.def_ 14 (d := dp_Heap_init) rfl
  d_Heap_of := c.def_ 15 (d := dp_Heap_of) rfl
  d_Heap_read := c.def_ 16 (d := dp_Heap_read) rfl
  d_Heap_pairs := c.def_ 17 (d := dp_Heap_pairs) rfl
  d_Heap_text := c.def_ 18 (d := dp_Heap_text) rfl
  d_Heap_eq := c.def_ 19 (d := dp_Heap_eq) rfl
  d_law_try := c.def_ 20 (d := dp_law_try) rfl
  d_law_field := c.def_ 21 (d := dp_law_field) rfl
  d_InvalidName_init := c.def_ 22 (d := dp_InvalidName_init) rfl
  d_InvalidText_init := c.def_ 23 (d := dp_InvalidText_init) rfl
  d_InvalidCount_init := c.def_ 24 (d := dp_InvalidCount_init) rfl
  g_is_name := He.glo_ok X G (c.fact 0 (f := bFa (.glo (Str.ofString "is_name"))) rfl)
  g_is_integer := He.glo_ok X G (c.fact 1 (f := bFa (.glo (Str.ofString "is_integer"))) rfl)
  g_is_number := He.glo_ok X G (c.fact 2 (f := bFa (.glo (Str.ofString "is_number"))) rfl)
  g_is_figure := He.glo_ok X G (c.fact 3 (f := bFa (.glo (Str.ofString "is_figure"))) rfl)
  g_law_bag := He.glo_ok X G (c.fact 4 (f := bFa (.glo (Str.ofString "_law_bag"))) rfl)
  g_law_draw := He.glo_ok X G (c.fact 5 (f := bFa (.glo (Str.ofString "_law_draw"))) rfl)
  g_law_of := He.glo_ok X G (c.fact 6 (f := bFa (.glo (Str.ofString "_law_of"))) rfl)
  g_law_same := He.glo_ok X G (c.fact 7 (f := bFa (.glo (Str.ofString "_law_same"))) rfl)
  g_law_words := He.glo_ok X G (c.fact 8 (f := bFa (.glo (Str.ofString "_law_words"))) rfl)
  g_law_counts := He.glo_ok X G (c.fact 9 (f := bFa (.glo (Str.ofString "_law_counts"))) rfl)
  g_law_pairs := He.glo_ok X G (c.fact 10 (f := bFa (.glo (Str.ofString "_law_pairs"))) rfl)
  g_law_heap_so := He.glo_ok X G (c.fact 11 (f := bFa (.glo (Str.ofString "_law_heap_so"))) rfl)
  g_law_text := He.glo_ok X G (c.fact 12 (f := bFa (.glo (Str.ofString "_law_text"))) rfl)
  g_law := He.glo_ok X G (c.fact 13 (f := bFa (.glo (Str.ofString "law"))) rfl)
  mk_Heap := He.mkr_ok (c.fact 14 (f := bFa (.mkr (Str.ofString "Heap"))) rfl)
  sm_Heap_of := (c.fact 15 (f := bSm (Str.ofString "Heap") (Str.ofString "of")) rfl)
  sm_Heap_read := (c.fact 16 (f := bSm (Str.ofString "Heap") (Str.ofString "read")) rfl)
  me_Heap_pairs := He.meth_ok (c.fact 17 (f := bFa (.meth (Str.ofString "Heap") (Str.ofString "pairs"))) rfl)
  me_Heap_text := He.meth_ok (c.fact 18 (f := bFa (.meth (Str.ofString "Heap") (Str.ofString "text"))) rfl)
  dn_Heap_eq := (c.fact 19 (f := bDun (Str.ofString "Heap") (Str.ofString "__eq__")) rfl)
  g_Heap := He.glo_ok X G (c.fact 20 (f := bFa (.glo (Str.ofString "Heap"))) rfl)
  cl_Heap := bClsF_ok (c.fact 21 (f := bClsF (Str.ofString "Heap")) rfl)
  sf_Heap := (c.fact 22 (f := bSelf (Str.ofString "Heap")) rfl)
  nf_Heap := (c.fact 23 (f := bNf (Str.ofString "Heap") tg_Heap) rfl)
  ne_Heap := (c.fact 24 (f := bNe (Str.ofString "Heap")) rfl)
  sx_Heap := (c.fact 25 (f := bSub (Str.ofString "Heap") sbt_Heap) rfl)
  na_Heap_counts := He.noat_ok (c.fact 26 (f := bFa (.noat (Str.ofString "Heap") (Str.ofString "_counts"))) rfl)
  g_law_try := He.glo_ok X G (c.fact 27 (f := bFa (.glo (Str.ofString "_law_try"))) rfl)
  g_law_field := He.glo_ok X G (c.fact 28 (f := bFa (.glo (Str.ofString "_law_field"))) rfl)
  g_InvalidName := He.glo_ok X G (c.fact 29 (f := bFa (.glo (Str.ofString "InvalidName"))) rfl)
  g_InvalidText := He.glo_ok X G (c.fact 30 (f := bFa (.glo (Str.ofString "InvalidText"))) rfl)
  g_InvalidCount := He.glo_ok X G (c.fact 31 (f := bFa (.glo (Str.ofString "InvalidCount"))) rfl)
  g_ForkError := He.glo_ok X G (c.fact 32 (f := bFa (.glo (Str.ofString "ForkError"))) rfl)
  g_Missing := He.glo_ok X G (c.fact 33 (f := bFa (.glo (Str.ofString "Missing"))) rfl)
  g_NothingLeft := He.glo_ok X G (c.fact 34 (f := bFa (.glo (Str.ofString "NothingLeft"))) rfl)
  ox_InvalidName := (c.fact 35 (f := bOx (Str.ofString "InvalidName") "ValueError" tlV) rfl)
  oi_InvalidName := (c.fact 36 (f := bInit (Str.ofString "InvalidName")) rfl)
  on_InvalidName := (c.fact 37 (f := bNx (Str.ofString "InvalidName") [(Str.ofString "given"), kCode]) rfl)
  of_InvalidName := (c.fact 38 (f := bXf (Str.ofString "InvalidName") (Str.ofString "ForkError") (Str.ofString "Missing") (Str.ofString "NothingLeft")) rfl)
  ox_InvalidText := (c.fact 39 (f := bOx (Str.ofString "InvalidText") "ValueError" tlV) rfl)
  oi_InvalidText := (c.fact 40 (f := bInit (Str.ofString "InvalidText")) rfl)
  on_InvalidText := (c.fact 41 (f := bNx (Str.ofString "InvalidText") [(Str.ofString "line"), kCode]) rfl)
  of_InvalidText := (c.fact 42 (f := bXf (Str.ofString "InvalidText") (Str.ofString "ForkError") (Str.ofString "Missing") (Str.ofString "NothingLeft")) rfl)
  ox_InvalidCount := (c.fact 43 (f := bOx (Str.ofString "InvalidCount") "ValueError" tlV) rfl)
  oi_InvalidCount := (c.fact 44 (f := bInit (Str.ofString "InvalidCount")) rfl)
  on_InvalidCount := (c.fact 45 (f := bNx (Str.ofString "InvalidCount") [(Str.ofString "given"), kCode]) rfl)
  of_InvalidCount := (c.fact 46 (f := bXf (Str.ofString "InvalidCount") (Str.ofString "ForkError") (Str.ofString "Missing") (Str.ofString "NothingLeft")) rfl)
  f_all := He.free_ok X G (c.fact 47 (f := bFa (.free (Str.ofString "all"))) rfl)
  f_bool := He.free_ok X G (c.fact 48 (f := bFa (.free (Str.ofString "bool"))) rfl)
  f_int := He.free_ok X G (c.fact 49 (f := bFa (.free (Str.ofString "int"))) rfl)
  f_isinstance := He.free_ok X G (c.fact 50 (f := bFa (.free (Str.ofString "isinstance"))) rfl)
  f_len := He.free_ok X G (c.fact 51 (f := bFa (.free (Str.ofString "len"))) rfl)
  f_list := He.free_ok X G (c.fact 52 (f := bFa (.free (Str.ofString "list"))) rfl)
  f_range := He.free_ok X G (c.fact 53 (f := bFa (.free (Str.ofString "range"))) rfl)
  f_sorted := He.free_ok X G (c.fact 54 (f := bFa (.free (Str.ofString "sorted"))) rfl)
  f_str := He.free_ok X G (c.fact 55 (f := bFa (.free (Str.ofString "str"))) rfl)
  f_tuple := He.free_ok X G (c.fact 56 (f := bFa (.free (Str.ofString "tuple"))) rfl)
  f_zip := He.free_ok X G (c.fact 57 (f := bFa (.free (Str.ofString "zip"))) rfl)
  c_LETTERS := He.str_ok X G (c.fact 58 (f := bFa (.str (Str.ofString "LETTERS") (Str.ofString "abcdefghijklmnopqrstuvwxyz"))) rfl)
  c_DIGITS := He.str_ok X G (c.fact 59 (f := bFa (.str (Str.ofString "DIGITS") (Str.ofString "0123456789"))) rfl)
  c_MOST_LETTERS := He.int_ok X G (c.fact 60 (f := bFa (.int (Str.ofString "MOST_LETTERS") 6)) rfl)
  c_MOST_DIGITS := He.int_ok X G (c.fact 61 (f := bFa (.int (Str.ofString "MOST_DIGITS") 60)) rfl)
end PV.LW
end

section
namespace PV.LW
open PySem PySem.Spec L2
open PyProof.Rows hiding St
theorem Hd.tg_Heap {K : PySem.W.Frag} {mg : Str → Option Value} (hd : Hd K mg) : ∀ q, (Sum.inr q : Tag) ∈ tg_Heap → ClsF K (He.ga K q) := (in_ty (in_ty (in_ty (in_ty (in_ty (in_ty (in_ty (in_cl (P := fun q => ClsF K (He.ga K q)) hd.cl_Heap in_nil))))))))
theorem Hd.sb_Heap {K : PySem.W.Frag} {mg : Str → Option Value} (hd : Hd K mg) : SubOk K (He.ga K) (.ref (He.ga K (Str.ofString "Heap"))) (sbTab sbt_Heap) := bSub_ok hd.sx_Heap (inb_of (P := fun q => ClsF K (He.ga K q)) (in_ty (in_ty (in_ty (in_ty (in_ty (in_ty (in_ty (in_cl (P := fun q => ClsF K (He.ga K q)) hd.cl_Heap in_nil)))))))))
section
variable {P : Program} {w : World} {K : PySem.W.Frag} {mg : Str → Option Value} {base : Heap}
theorem xo_InvalidName (hd : Hd K mg) : XOk1 P w K mg base (He.ga K) (Str.ofString "InvalidName") (Str.ofString "given") (Str.ofString "InvalidName") := by
  obtain ⟨fd, F⟩ := hd.d_InvalidName_init
  exact xok1 exV F fs_InvalidName_init (FunD.bindsN F fun _ _ _ _ _ _ us hl => match us, hl with | [_, _], _ => rfl) hd.ox_InvalidName hd.oi_InvalidName hd.on_InvalidName hd.g_InvalidName rfl (by decide +kernel) (by decide +kernel) (by decide +kernel) (by decide +kernel)
theorem xo_InvalidText (hd : Hd K mg) : XOk1 P w K mg base (He.ga K) (Str.ofString "InvalidText") (Str.ofString "line") (Str.ofString "InvalidText") := by
  obtain ⟨fd, F⟩ := hd.d_InvalidText_init
  exact xok1 exV F fs_InvalidText_init (FunD.bindsN F fun _ _ _ _ _ _ us hl => match us, hl with | [_, _], _ => rfl) hd.ox_InvalidText hd.oi_InvalidText hd.on_InvalidText hd.g_InvalidText rfl (by decide +kernel) (by decide +kernel) (by decide +kernel) (by decide +kernel)
theorem xo_InvalidCount (hd : Hd K mg) : XOk1 P w K mg base (He.ga K) (Str.ofString "InvalidCount") (Str.ofString "given") (Str.ofString "InvalidCount") := by
  obtain ⟨fd, F⟩ := hd.d_InvalidCount_init
  exact xok1 exV F fs_InvalidCount_init (FunD.bindsN F fun _ _ _ _ _ _ us hl => match us, hl with | [_, _], _ => rfl) hd.ox_InvalidCount hd.oi_InvalidCount hd.on_InvalidCount hd.g_InvalidCount rfl (by decide +kernel) (by decide +kernel) (by decide +kernel) (by decide +kernel)
theorem xto (hd : Hd K mg) : XtOk K (He.ga K) (Str.ofString "ForkError") (Str.ofString "Missing") (Str.ofString "NothingLeft") xtab := (xt_cons hd.of_InvalidName hd.on_InvalidName (by decide +kernel) (xt_cons hd.of_InvalidText hd.on_InvalidText (by decide +kernel) (xt_cons hd.of_InvalidCount hd.on_InvalidCount (by decide +kernel) xt_nil)))
theorem fz {fd : FuncData} (F : FunD K (Str.ofString "_law_field") (Str.ofString "_law_field") (defArgs st_law_field) (defBody st_law_field) (defScope st_law_field) [] [] (He.ga K (Str.ofString "_law_field")) fd) : FnZ P w K mg base 1 (He.ga K (Str.ofString "_law_field")) fd [(Str.ofString "_law_e")] (spF K) := by
  refine field_ok F fs_law_field fun X p C dd ws code hK hN hs hp Pz => ?_
  have h0 : X.N[0]? = some (Str.ofString "_law_e") := by rw [hN] <;> rfl
  have hv : Vis X.env.scope (Str.ofString "_law_e") := .inl (by rw [hs]; decide +kernel)
  unfold fieldN
  exact (zif (cs := zc1) Pz hp h0 hv (by decide +kernel) (by decide +kernel) (pac_cons (pac_cons (pac_cons (pac_cons (pac_cons pac_nil))))) (by decide) (by first | exact nomark _ | rfl) (zif (cs := zc2) Pz hp h0 hv (by decide +kernel) (by decide +kernel) (pac_cons (pac_cons (pac_cons (pac_cons (pac_cons (pac_cons pac_nil)))))) (by decide) (by first | exact nomark _ | rfl) (zif (cs := zc3) Pz hp h0 hv (by decide +kernel) (by decide +kernel) (pac_cons (pac_cons pac_nil)) (by decide) (by first | exact nomark _ | rfl) (zif (cs := zc4) Pz hp h0 hv (by decide +kernel) (by decide +kernel) (pac_cons (pac_cons pac_nil)) (by decide) (by first | exact nomark _ | rfl) (zif (cs := zc5) Pz hp h0 hv (by decide +kernel) (by decide +kernel) (pac_cons (pac_cons (pac_cons pac_nil))) (by decide) (by first | exact nomark _ | rfl) (zif (cs := zc6) Pz hp h0 hv (by decide +kernel) (by decide +kernel) (pac_cons (pac_cons pac_nil)) (by decide) (by first | exact nomark _ | rfl) (zlast Pz hp h0 hv (by decide +kernel) (by decide +kernel) (by first | exact nomark _ | rfl) (by first | exact nomark _ | rfl))))))))
theorem td (hd : Hd K mg) : ∃ g fF pg bg sg fd fdF a n fz ev, TryD P w K mg base (He.ga K) (Str.ofString "_law_try") (Str.ofString "ForkError") (Str.ofString "Missing") (Str.ofString "NothingLeft") g fF pg bg sg fd fdF a n fz ev := by
  obtain ⟨fd, F⟩ := hd.d_law_try
  obtain ⟨fdF, FF⟩ := hd.d_law_field
  exact ⟨_, _, _, _, _, fd, fdF, (Str.ofString "_law_ask"), (Str.ofString "_law_e"), (Str.ofString "_law_field"), (Str.ofString "_law_e"), F, fs_law_try, (FunD.bindsN F fun _ _ _ _ _ _ us hl => match us, hl with | [_], _ => rfl), hd.g_law_try, (by decide +kernel), (by decide +kernel), (by decide +kernel), (by decide +kernel), (by decide +kernel), (by decide +kernel), (by decide +kernel), hd.g_ForkError, hd.g_Missing, hd.g_NothingLeft, fz FF, hd.g_law_field, FF.kp, (FunD.bindsN FF fun _ _ _ _ _ _ us hl => match us, hl with | [_], _ => rfl), ⟨_, _, _, _, _, _, _, _, _, _, _, _, _, _, _, _, _, _, _, _, _, _, rfl⟩⟩
end
section
variable {P : Program} {w : World} {K : PySem.W.Frag} {mg : Str → Option Value} {base : Heap}
theorem fn_is_name {fd : FuncData} (hd : Hd K mg) (F : FunD K (Str.ofString "is_name") (Str.ofString "is_name") (defArgs st_is_name) (defBody st_is_name) (defScope st_is_name) [] [] (He.ga K (Str.ofString "is_name")) fd) : FnOk P w K mg base (L2.CX P w) 1 (He.ga K (Str.ofString "is_name")) fd ps_is_name (spPV K (He.ga K) (rDen K (He.ga K)) 1 m_is_name) := by
  obtain ⟨t_MOST_LETTERS, h_MOST_LETTERS⟩ := hd.c_MOST_LETTERS
  obtain ⟨t_LETTERS, h_LETTERS⟩ := hd.c_LETTERS
  refine fn_body (N := 2) (m := b_is_name) (fun len hbody => FunD.ok (CX := L2.CX P w) F fs_is_name len hbody) rfl hm_run fun X E hP hw hK hmg hb hcalm hN hs hfn hr tk hst hpo => ?_
  subst hK
  have c0 : Ct P w X.K mg base N_is_name (defScope st_is_name) T_is_name 0 X (WE0 E) := ⟨⟨hP, hw, rfl, hmg, hb⟩, On.of hcalm hN hs fs_is_name.nd nt_is_name, hN, hs, fs_is_name.nd, rfl, hr, tk⟩
  exact (vss_cons (vs_if (vt_w (vw_or (vt_not (vt_of (VE.r (ve_isi (c0.mg' hd.f_isinstance) (r_var c0.on 0) (pe_ty (c0.mg' hd.f_str) (by decide +kernel) (c0.gl 2)) (.ty _) sbTy_ok (c0.gl 1))))) (vw_or1 (vt_not (vt_chain op_leA h_le op_leA h_le (VE.r ve_int) (VE.r (ve_len (c0.mg' hd.f_len) (r_var c0.on 0) (c0.gl 3))) (VE.r (ve_gint (c0.mg' h_MOST_LETTERS) (c0.gl 4) (c0.on.dbg (j := 4) rfl)))))))) (vss_one (vs_ret ve_bl)) vss_nil)
      (vss_one (vs_ret (ve_all c0.calm (c0.mg' hd.f_all) (VE.r (VN.e (vn_lc c0.on (vi_seq (v_var c0.on 0)) (c0.bo bo_is_name_1) rfl (fun s H C cl fp => have c1 := c0.blk T_is_name_1 nt_is_name_1 rfl s H C cl fp; (vg_name c1.on 0 (by decide))) (fun s H C cl fp => have c1 := c0.blk T_is_name_1 nt_is_name_1 rfl s H C cl fp; vts_nil) (fun s H C cl fp => have c1 := c0.blk T_is_name_1 nt_is_name_1 rfl s H C cl fp; (ve_cmp (op_inA c1.hu) h_in (r_var c1.on 0) (VE.r (ve_gstr (c1.mg' h_LETTERS) (c1.gl 1) (c1.on.dbg (j := 1) rfl)))))))) (c0.gl 5)))))
theorem cal_is_name (hd : Hd K mg) : Cal P w K mg base (He.ga K) 1 1 (Str.ofString "is_name") (rDen K (He.ga K)) fm_is_name (m_is_name) := by
  obtain ⟨fd, F⟩ := hd.d_is_name
  exact ⟨_, fd, ps_is_name, rfl, fn_is_name hd F, hd.g_is_name, F.kp, (List.forall_mem_cons.mpr ⟨bnd0 F 1 [] [0] (fun _ _ _ _ _ _ us ws h1 h2 => match us, ws, h1, h2 with | [_], [], _, _ => rfl), (fun _ h => nomatch h)⟩)⟩
end
section
variable {P : Program} {w : World} {K : PySem.W.Frag} {mg : Str → Option Value} {base : Heap}
theorem fn_is_integer {fd : FuncData} (hd : Hd K mg) (F : FunD K (Str.ofString "is_integer") (Str.ofString "is_integer") (defArgs st_is_integer) (defBody st_is_integer) (defScope st_is_integer) [] [] (He.ga K (Str.ofString "is_integer")) fd) : FnOk P w K mg base (L2.CX P w) 1 (He.ga K (Str.ofString "is_integer")) fd ps_is_integer (spPV K (He.ga K) (rDen K (He.ga K)) 1 m_is_integer) := by
  refine fn_body (N := 1) (m := b_is_integer) (fun len hbody => FunD.ok (CX := L2.CX P w) F fs_is_integer len hbody) rfl hm_run fun X E hP hw hK hmg hb hcalm hN hs hfn hr tk hst hpo => ?_
  subst hK
  have c0 : Ct P w X.K mg base N_is_integer (defScope st_is_integer) T_is_integer 0 X (WE0 E) := ⟨⟨hP, hw, rfl, hmg, hb⟩, On.of hcalm hN hs fs_is_integer.nd nt_is_integer, hN, hs, fs_is_integer.nd, rfl, hr, tk⟩
  exact (vss_one (vs_ret (ve_and (VE.r (ve_isi (c0.mg' hd.f_isinstance) (r_var c0.on 0) (pe_ty (c0.mg' hd.f_int) (by decide +kernel) (c0.gl 2)) (.ty _) sbTy_ok (c0.gl 1))) (ve_one (ve_not (VE.r (ve_isi (c0.mg' hd.f_isinstance) (r_var c0.on 0) (pe_ty (c0.mg' hd.f_bool) (by decide +kernel) (c0.gl 3)) (.ty _) sbTy_ok (c0.gl 1))))))))
theorem cal_is_integer (hd : Hd K mg) : Cal P w K mg base (He.ga K) 1 1 (Str.ofString "is_integer") (rDen K (He.ga K)) fm_is_integer (m_is_integer) := by
  obtain ⟨fd, F⟩ := hd.d_is_integer
  exact ⟨_, fd, ps_is_integer, rfl, fn_is_integer hd F, hd.g_is_integer, F.kp, (List.forall_mem_cons.mpr ⟨bnd0 F 1 [] [0] (fun _ _ _ _ _ _ us ws h1 h2 => match us, ws, h1, h2 with | [_], [], _, _ => rfl), (fun _ h => nomatch h)⟩)⟩
end
section
variable {P : Program} {w : World} {K : PySem.W.Frag} {mg : Str → Option Value} {base : Heap}
theorem fn_is_figure {fd : FuncData} (hd : Hd K mg) (F : FunD K (Str.ofString "is_figure") (Str.ofString "is_figure") (defArgs st_is_figure) (defBody st_is_figure) (defScope st_is_figure) [] [] (He.ga K (Str.ofString "is_figure")) fd) : FnOk P w K mg base (L2.CX P w) 1 (He.ga K (Str.ofString "is_figure")) fd ps_is_figure (spPV K (He.ga K) (rDen K (He.ga K)) 2 m_is_figure) := by
  obtain ⟨t_DIGITS, h_DIGITS⟩ := hd.c_DIGITS
  refine fn_body (N := 3) (m := b_is_figure) (fun len hbody => FunD.ok (CX := L2.CX P w) F fs_is_figure len hbody) rfl hm_run fun X E hP hw hK hmg hb hcalm hN hs hfn hr tk hst hpo => ?_
  subst hK
  have c0 : Ct P w X.K mg base N_is_figure (defScope st_is_figure) T_is_figure 0 X (WE0 E) := ⟨⟨hP, hw, rfl, hmg, hb⟩, On.of hcalm hN hs fs_is_figure.nd nt_is_figure, hN, hs, fs_is_figure.nd, rfl, hr, tk⟩
  exact (vss_cons (vs_if (vt_w (vw_or (vt_not (vt_chain op_leA h_le op_leA h_le (VE.r ve_int) (VE.r (ve_len (c0.mg' hd.f_len) (r_var c0.on 0) (c0.gl 2))) (r_var c0.on 1))) (vw_or1 (vt_not (vt_of (VE.r (ve_all c0.calm (c0.mg' hd.f_all) (VE.r (VN.e (vn_lc c0.on (vi_seq (v_var c0.on 0)) (c0.bo bo_is_figure_1) rfl (fun s H C cl fp => have c1 := c0.blk T_is_figure_1 nt_is_figure_1 rfl s H C cl fp; (vg_name c1.on 0 (by decide))) (fun s H C cl fp => have c1 := c0.blk T_is_figure_1 nt_is_figure_1 rfl s H C cl fp; vts_nil) (fun s H C cl fp => have c1 := c0.blk T_is_figure_1 nt_is_figure_1 rfl s H C cl fp; (ve_cmp (op_inA c1.hu) h_in (r_var c1.on 0) (VE.r (ve_gstr (c1.mg' h_DIGITS) (c1.gl 1) (c1.on.dbg (j := 1) rfl)))))))) (c0.gl 3)))))))) (vss_one (vs_ret ve_bl)) vss_nil)
      (vss_one (vs_ret (ve_or (VE.r (ve_cmp (op_eqA c0.room.units) h_eq (r_var c0.on 0) (VE.r ve_str))) (ve_one (ve_cmp (op_neA c0.room.units) h_ne (VE.r (ve_ix c0.hu (r_var c0.on 0) (VE.r ve_int))) (VE.r ve_str)))))))
theorem cal_is_figure (hd : Hd K mg) : Cal P w K mg base (He.ga K) 1 2 (Str.ofString "is_figure") (rDen K (He.ga K)) fm_is_figure (m_is_figure) := by
  obtain ⟨fd, F⟩ := hd.d_is_figure
  exact ⟨_, fd, ps_is_figure, rfl, fn_is_figure hd F, hd.g_is_figure, F.kp, (List.forall_mem_cons.mpr ⟨bnd0 F 2 [] [0, 1] (fun _ _ _ _ _ _ us ws h1 h2 => match us, ws, h1, h2 with | [_, _], [], _, _ => rfl), (fun _ h => nomatch h)⟩)⟩
end
section
variable {P : Program} {w : World} {K : PySem.W.Frag} {mg : Str → Option Value} {base : Heap}
theorem fn_law_bag {fd : FuncData} (hd : Hd K mg) (F : FunD K (Str.ofString "_law_bag") (Str.ofString "_law_bag") (defArgs st_law_bag) (defBody st_law_bag) (defScope st_law_bag) [] [] (He.ga K (Str.ofString "_law_bag")) fd) : FnOk P w K mg base (L2.CX P w) 1 (He.ga K (Str.ofString "_law_bag")) fd ps_law_bag (spPV K (He.ga K) (rOwn K (He.ga K)) 1 m_law_bag) := by
  refine fn_body (N := 3) (m := b_law_bag) (fun len hbody => FunD.ok (CX := L2.CX P w) F fs_law_bag len hbody) rfl hm_runO fun X E hP hw hK hmg hb hcalm hN hs hfn hr tk hst hpo => ?_
  subst hK
  have c0 : Ct P w X.K mg base N_law_bag (defScope st_law_bag) T_law_bag 0 X (WE0 E) := ⟨⟨hP, hw, rfl, hmg, hb⟩, On.of hcalm hN hs fs_law_bag.nd nt_law_bag, hN, hs, fs_law_bag.nd, rfl, hr, tk⟩
  exact (vss_cons (vs_set c0.on 1 ve_int)
      (vss_cons (vs_for (vs := [2]) hpo c0.on (vi_seq (ve_sl (r_var c0.on 0) vp_none (vp_some (VE.r ve_int)))) (vg_name c0.on 2 (by decide)) (vss_one (vs_set c0.on 1 (ve_op op_modN h_mod (VE.r (ve_toint (c0.mg' hd.f_int) (VE.r (ve_op op_addA h_add (VE.r (ve_op op_addA h_add (VE.r (ve_op op_mulW h_mul (r_var c0.on 1) (VE.r ve_int))) (VE.r (ve_op op_mulW h_mul (VE.r (ve_op op_modN h_mod (VE.r (ve_toint (c0.mg' hd.f_int) (r_var c0.on 2) (c0.gl 3))) (VE.r ve_int))) (VE.r ve_int))))) (VE.r ve_int))) (c0.gl 3))) (VE.r ve_int)))))
      (vss_one (vs_retO (vn_lst (va_cons (VN.e (vn_list c0.calm (c0.mg' hd.f_list) (VE.r (ve_sl (r_var c0.on 0) vp_none (vp_some (VE.r ve_int)))) (c0.gl 4))) (va_cons ve_int (va_cons ve_int (va_cons (v_var c0.on 1) (va_cons ve_int va_nil))))))))))
theorem cal_law_bag (hd : Hd K mg) : Cal P w K mg base (He.ga K) 1 1 (Str.ofString "_law_bag") (rOwn K (He.ga K)) fm_law_bag (m_law_bag) := by
  obtain ⟨fd, F⟩ := hd.d_law_bag
  exact ⟨_, fd, ps_law_bag, rfl, fn_law_bag hd F, hd.g_law_bag, F.kp, (List.forall_mem_cons.mpr ⟨bnd0 F 1 [] [0] (fun _ _ _ _ _ _ us ws h1 h2 => match us, ws, h1, h2 with | [_], [], _, _ => rfl), (fun _ h => nomatch h)⟩)⟩
end
section
variable {P : Program} {w : World} {K : PySem.W.Frag} {mg : Str → Option Value} {base : Heap}
theorem fn_law_draw {fd : FuncData} (hd : Hd K mg) (F : FunD K (Str.ofString "_law_draw") (Str.ofString "_law_draw") (defArgs st_law_draw) (defBody st_law_draw) (defScope st_law_draw) [] [] (He.ga K (Str.ofString "_law_draw")) fd) : FnOk P w K mg base (L2.CX P w) 1 (He.ga K (Str.ofString "_law_draw")) fd ps_law_draw (spPV K (He.ga K) (rDen K (He.ga K)) 2 m_law_draw) := by
  refine fn_body (N := 5) (m := b_law_draw) (fun len hbody => FunD.ok (CX := L2.CX P w) F fs_law_draw len hbody) rfl hm_run fun X E hP hw hK hmg hb hcalm hN hs hfn hr tk hst hpo => ?_
  subst hK
  have c0 : Ct P w X.K mg base N_law_draw (defScope st_law_draw) T_law_draw 0 X (WE0 E) := ⟨⟨hP, hw, rfl, hmg, hb⟩, On.of hcalm hN hs fs_law_draw.nd nt_law_draw, hN, hs, fs_law_draw.nd, rfl, hr, tk⟩
  exact (vss_cons (vs_put c0.on 0 c0.hu (VE.r ve_int) (ve_op op_addA h_add (VE.r (ve_ix c0.hu (r_var c0.on 0) (VE.r ve_int))) (VE.r ve_int)))
      (vss_cons (vs_if (vt_w (vw_and (vt_cmp (op_eqA c0.room.units) h_eq (VE.r (ve_ix c0.hu (r_var c0.on 0) (VE.r ve_int))) (VE.r ve_int)) (vw_and1 (vt_cmp op_ltA h_lt (VE.r (ve_ix c0.hu (r_var c0.on 0) (VE.r ve_int))) (VE.r (ve_len (c0.mg' hd.f_len) (VE.r (ve_ix c0.hu (r_var c0.on 0) (VE.r ve_int))) (c0.gl 5))))))) (vss_cons (vs_set c0.on 2 (ve_ix c0.hu (VE.r (ve_ix c0.hu (r_var c0.on 0) (VE.r ve_int))) (VE.r (ve_ix c0.hu (r_var c0.on 0) (VE.r ve_int)))))
      (vss_cons (vs_put c0.on 0 c0.hu (VE.r ve_int) (ve_op op_addA h_add (VE.r (ve_ix c0.hu (r_var c0.on 0) (VE.r ve_int))) (VE.r ve_int)))
      (vss_one (vs_if (vt_cmp op_geA h_ge (r_var c0.on 2) (VE.r (ve_op op_pow h_pow (VE.r ve_int) (VE.r ve_int)))) (vss_one (vs_put c0.on 0 c0.hu (VE.r ve_int) (v_var c0.on 2))) (vss_one (vs_put c0.on 0 c0.hu (VE.r ve_int) (ve_op op_modN h_mod (VE.r (ve_toint (c0.mg' hd.f_int) (VE.r (ve_op op_addA h_add (VE.r (ve_op op_addA h_add (VE.r (ve_op op_mulW h_mul (VE.r (ve_ix c0.hu (r_var c0.on 0) (VE.r ve_int))) (VE.r ve_int))) (VE.r (ve_op op_mulW h_mul (VE.r (ve_op op_modN h_mod (VE.r (ve_toint (c0.mg' hd.f_int) (r_var c0.on 2) (c0.gl 6))) (VE.r ve_int))) (VE.r ve_int))))) (VE.r ve_int))) (c0.gl 6))) (VE.r ve_int)))))))) vss_nil)
      (vss_cons (vs_if (vt_cmp op_gtA h_gt (VE.r (ve_ix c0.hu (r_var c0.on 0) (VE.r ve_int))) (VE.r ve_int)) (vss_cons (vs_set c0.on 3 (ve_op op_modN h_mod (VE.r (ve_toint (c0.mg' hd.f_int) (VE.r (ve_ix c0.hu (r_var c0.on 0) (VE.r ve_int))) (c0.gl 6))) (r_var c0.on 1)))
      (vss_cons (vs_put c0.on 0 c0.hu (VE.r ve_int) (ve_op op_fdivA h_fdiv (VE.r (ve_ix c0.hu (r_var c0.on 0) (VE.r ve_int))) (r_var c0.on 1)))
      (vss_one (vs_ret (v_var c0.on 3))))) vss_nil)
      (vss_cons (vs_set c0.on 4 (ve_op op_modN h_mod (VE.r (ve_toint (c0.mg' hd.f_int) (VE.r (ve_op op_addA h_add (VE.r (ve_op op_mulW h_mul (VE.r (ve_ix c0.hu (r_var c0.on 0) (VE.r ve_int))) (VE.r (ve_ix c0.hu (r_var c0.on 0) (VE.r ve_int))))) (VE.r (ve_op op_mulW h_mul (VE.r (ve_ix c0.hu (r_var c0.on 0) (VE.r ve_int))) (VE.r ve_int))))) (c0.gl 6))) (VE.r ve_int)))
      (vss_cons (vs_put c0.on 0 c0.hu (VE.r ve_int) (ve_op op_modN h_mod (VE.r (ve_toint (c0.mg' hd.f_int) (VE.r (ve_op op_addA h_add (VE.r (ve_op op_addA h_add (VE.r (ve_op op_mulW h_mul (r_var c0.on 4) (VE.r ve_int))) (VE.r (ve_op op_mulW h_mul (VE.r (ve_ix c0.hu (r_var c0.on 0) (VE.r ve_int))) (VE.r ve_int))))) (VE.r ve_int))) (c0.gl 6))) (VE.r ve_int)))
      (vss_one (vs_ret (ve_op op_modN h_mod (VE.r (ve_toint (c0.mg' hd.f_int) (VE.r (ve_op op_fdivA h_fdiv (VE.r (ve_ix c0.hu (r_var c0.on 0) (VE.r ve_int))) (VE.r ve_int))) (c0.gl 6))) (r_var c0.on 1)))))))))
theorem cal_law_draw (hd : Hd K mg) : Cal P w K mg base (He.ga K) 1 2 (Str.ofString "_law_draw") (rDen K (He.ga K)) fm_law_draw (m_law_draw) := by
  obtain ⟨fd, F⟩ := hd.d_law_draw
  exact ⟨_, fd, ps_law_draw, rfl, fn_law_draw hd F, hd.g_law_draw, F.kp, (List.forall_mem_cons.mpr ⟨bnd0 F 2 [] [0, 1] (fun _ _ _ _ _ _ us ws h1 h2 => match us, ws, h1, h2 with | [_, _], [], _, _ => rfl), (fun _ h => nomatch h)⟩)⟩
end
section
variable {P : Program} {w : World} {K : PySem.W.Frag} {mg : Str → Option Value} {base : Heap}
theorem cal_law_same (hd : Hd K mg) : ∀ n, Cal P w K mg base (He.ga K) (0 + n) 2 (Str.ofString "_law_same") (rDen K (He.ga K)) fm_law_same (m_law_same n)
  | 0 => by
    obtain ⟨fd, F⟩ := hd.d_law_same
    exact ⟨_, fd, ps_law_same, rfl, ⟨fun _ _ _ _ h => h.1, fun _ _ _ _ _ _ _ _ _ _ _ _ _ h => False.elim (by obtain ⟨_, c, ds, _, _, p⟩ := h; exact p)⟩, hd.g_law_same, F.kp, (List.forall_mem_cons.mpr ⟨bnd0 F 2 [] [0, 1] (fun _ _ _ _ _ _ us ws h1 h2 => match us, ws, h1, h2 with | [_, _], [], _, _ => rfl), (fun _ h => nomatch h)⟩)⟩
  | n + 1 => by
    have ih := cal_law_same hd n
    obtain ⟨fd, F⟩ := hd.d_law_same
    refine ⟨_, fd, ps_law_same, rfl, ?_, hd.g_law_same, F.kp, (List.forall_mem_cons.mpr ⟨bnd0 F 2 [] [0, 1] (fun _ _ _ _ _ _ us ws h1 h2 => match us, ws, h1, h2 with | [_, _], [], _, _ => rfl), (fun _ h => nomatch h)⟩)⟩
    refine fn_body (N := 4) (m := b_law_same (m_law_same n)) (k := 0 + n) (fun len hbody => FunD.ok (CX := L2.CX P w) F fs_law_same len hbody) rfl hm_run fun X E hP hw hK hmg hb hcalm hN hs hfn hr tk hst hpo => ?_
    subst hK
    have c0 : Ct P w X.K mg base N_law_same (defScope st_law_same) T_law_same (0 + n) X (WE0 E) := ⟨⟨hP, hw, rfl, hmg, hb⟩, On.of hcalm hN hs fs_law_same.nd nt_law_same, hN, hs, fs_law_same.nd, rfl, hr, tk⟩
    exact (vss_cons (vs_if (vt_of (VE.r (ve_isiT (c0.mg' hd.f_isinstance) (r_var c0.on 1) (.cons (pe_ty (c0.mg' hd.f_list) (by decide +kernel) (c0.gl 3)) (.ty _) sbTy_ok rfl (.cons (pe_ty (c0.mg' hd.f_tuple) (by decide +kernel) (c0.gl 4)) (.ty _) sbTy_ok rfl .nil)) (by decide) (c0.gl 2)))) (vss_cons (vs_if (vt_w (vw_or (vt_cmp (op_neA c0.room.units) h_ne (VE.r (ve_isi (c0.mg' hd.f_isinstance) (r_var c0.on 0) (pe_ty (c0.mg' hd.f_list) (by decide +kernel) (c0.gl 3)) (.ty _) sbTy_ok (c0.gl 2))) (VE.r (ve_isi (c0.mg' hd.f_isinstance) (r_var c0.on 1) (pe_ty (c0.mg' hd.f_list) (by decide +kernel) (c0.gl 3)) (.ty _) sbTy_ok (c0.gl 2)))) (vw_or1 (vt_cmp (op_neA c0.room.units) h_ne (VE.r (ve_isi (c0.mg' hd.f_isinstance) (r_var c0.on 0) (pe_ty (c0.mg' hd.f_tuple) (by decide +kernel) (c0.gl 4)) (.ty _) sbTy_ok (c0.gl 2))) (VE.r (ve_isi (c0.mg' hd.f_isinstance) (r_var c0.on 1) (pe_ty (c0.mg' hd.f_tuple) (by decide +kernel) (c0.gl 4)) (.ty _) sbTy_ok (c0.gl 2))))))) (vss_one (vs_ret ve_bl)) vss_nil)
      (vss_one (vs_ret (ve_and (VE.r (ve_cmp (op_eqA c0.room.units) h_eq (VE.r (ve_len (c0.mg' hd.f_len) (r_var c0.on 0) (c0.gl 5))) (VE.r (ve_len (c0.mg' hd.f_len) (r_var c0.on 1) (c0.gl 5))))) (ve_one (ve_all c0.calm (c0.mg' hd.f_all) (VE.r (VN.e (vn_lc c0.on (vi_zip (c0.mg' hd.f_zip) (v_var c0.on 0) (v_var c0.on 1) (c0.gl 7)) (c0.bo bo_law_same_1) rfl (fun s H C cl fp => have c1 := c0.blk T_law_same_1 nt_law_same_1 rfl s H C cl fp; (vg_tup c1.on (vgs_cons (vg_name c1.on 0 (by decide)) (vgs_cons (vg_name c1.on 1 (by decide)) vgs_nil)))) (fun s H C cl fp => have c1 := c0.blk T_law_same_1 nt_law_same_1 rfl s H C cl fp; vts_nil) (fun s H C cl fp => have c1 := c0.blk T_law_same_1 nt_law_same_1 rfl s H C cl fp; (ve_call (ks := []) c1 ih (by omega) 2 (.head _) (va_cons (v_var c1.on 0) (va_cons (v_var c1.on 1) va_nil)) vk_nil))))) (c0.gl 6))))))) vss_nil)
      (vss_cons (vs_if (vt_w (vw_or (vt_isN (r_var c0.on 1)) (vw_or1 (vt_isN (r_var c0.on 0))))) (vss_one (vs_ret (ve_and (VE.r (ve_isN (r_var c0.on 1))) (ve_one (ve_isN (r_var c0.on 0)))))) vss_nil)
      (vss_cons (vs_if (vt_w (vw_or (vt_cmp (op_neA c0.room.units) h_ne (VE.r (ve_isi (c0.mg' hd.f_isinstance) (r_var c0.on 0) (pe_ty (c0.mg' hd.f_bool) (by decide +kernel) (c0.gl 8)) (.ty _) sbTy_ok (c0.gl 2))) (VE.r (ve_isi (c0.mg' hd.f_isinstance) (r_var c0.on 1) (pe_ty (c0.mg' hd.f_bool) (by decide +kernel) (c0.gl 8)) (.ty _) sbTy_ok (c0.gl 2)))) (vw_or1 (vt_cmp (op_neA c0.room.units) h_ne (VE.r (ve_isi (c0.mg' hd.f_isinstance) (r_var c0.on 0) (pe_ty (c0.mg' hd.f_int) (by decide +kernel) (c0.gl 9)) (.ty _) sbTy_ok (c0.gl 2))) (VE.r (ve_isi (c0.mg' hd.f_isinstance) (r_var c0.on 1) (pe_ty (c0.mg' hd.f_int) (by decide +kernel) (c0.gl 9)) (.ty _) sbTy_ok (c0.gl 2))))))) (vss_one (vs_ret ve_bl)) vss_nil)
      (vss_one (vs_ret (ve_and (VE.r (ve_cmp (op_eqA c0.room.units) h_eq (VE.r (ve_isi (c0.mg' hd.f_isinstance) (r_var c0.on 0) (pe_ty (c0.mg' hd.f_str) (by decide +kernel) (c0.gl 10)) (.ty _) sbTy_ok (c0.gl 2))) (VE.r (ve_isi (c0.mg' hd.f_isinstance) (r_var c0.on 1) (pe_ty (c0.mg' hd.f_str) (by decide +kernel) (c0.gl 10)) (.ty _) sbTy_ok (c0.gl 2))))) (ve_one (ve_cmp (op_eqA c0.room.units) h_eq (r_var c0.on 0) (r_var c0.on 1)))))))))
end
section
variable {P : Program} {w : World} {K : PySem.W.Frag} {mg : Str → Option Value} {base : Heap}
theorem fn_law_pairs {fd : FuncData} (hd : Hd K mg) (F : FunD K (Str.ofString "_law_pairs") (Str.ofString "_law_pairs") (defArgs st_law_pairs) (defBody st_law_pairs) (defScope st_law_pairs) [] [] (He.ga K (Str.ofString "_law_pairs")) fd) : FnOk P w K mg base (L2.CX P w) 1 (He.ga K (Str.ofString "_law_pairs")) fd ps_law_pairs (spPV K (He.ga K) (rDen K (He.ga K)) 1 m_law_pairs) := by
  refine fn_body (N := 2) (m := b_law_pairs) (fun len hbody => FunD.ok (CX := L2.CX P w) F fs_law_pairs len hbody) rfl hm_run fun X E hP hw hK hmg hb hcalm hN hs hfn hr tk hst hpo => ?_
  subst hK
  have c0 : Ct P w X.K mg base N_law_pairs (defScope st_law_pairs) T_law_pairs 0 X (WE0 E) := ⟨⟨hP, hw, rfl, hmg, hb⟩, On.of hcalm hN hs fs_law_pairs.nd nt_law_pairs, hN, hs, fs_law_pairs.nd, rfl, hr, tk⟩
  exact (vss_one (vs_ret (VN.e (vn_lc c0.on (vi_seq (VN.e (vn_sorted (c0.mg' hd.f_sorted) (VE.r (VN.e (vn_list c0.calm (c0.mg' hd.f_list) (r_var c0.on 0) (c0.gl 2)))) (c0.gl 1)))) (c0.bo bo_law_pairs_1) rfl (fun s H C cl fp => have c1 := c0.blk T_law_pairs_1 nt_law_pairs_1 rfl s H C cl fp; (vg_name c1.on 0 (by decide))) (fun s H C cl fp => have c1 := c0.blk T_law_pairs_1 nt_law_pairs_1 rfl s H C cl fp; (vts_one (vt_cmp (op_neA c1.room.units) h_ne (VE.r (ve_ix c1.hu (r_var c1.on 1) (r_var c1.on 0))) (VE.r ve_int)))) (fun s H C cl fp => have c1 := c0.blk T_law_pairs_1 nt_law_pairs_1 rfl s H C cl fp; (ve_tup (va_cons (v_var c1.on 0) (va_cons (ve_ix c1.hu (r_var c1.on 1) (r_var c1.on 0)) va_nil))))))))
theorem cal_law_pairs (hd : Hd K mg) : Cal P w K mg base (He.ga K) 1 1 (Str.ofString "_law_pairs") (rDen K (He.ga K)) fm_law_pairs (m_law_pairs) := by
  obtain ⟨fd, F⟩ := hd.d_law_pairs
  exact ⟨_, fd, ps_law_pairs, rfl, fn_law_pairs hd F, hd.g_law_pairs, F.kp, (List.forall_mem_cons.mpr ⟨bnd0 F 1 [] [0] (fun _ _ _ _ _ _ us ws h1 h2 => match us, ws, h1, h2 with | [_], [], _, _ => rfl), (fun _ h => nomatch h)⟩)⟩
end
section
variable {P : Program} {w : World} {K : PySem.W.Frag} {mg : Str → Option Value} {base : Heap}
theorem fn_Heap_pairs {fd : FuncData} (hd : Hd K mg) (F : FunD K (Str.ofString "pairs") (Str.ofString "Heap.pairs") (defArgs st_Heap_pairs) (defBody st_Heap_pairs) (defScope st_Heap_pairs) [] [] (maA (Str.ofString "Heap") (Str.ofString "pairs") K) fd) : FnOk P w K mg base (L2.CX P w) 1 (maA (Str.ofString "Heap") (Str.ofString "pairs") K) fd ps_Heap_pairs (spPV K (He.ga K) (rDen K (He.ga K)) 1 m_Heap_pairs) := by
  refine fn_body (N := 2) (m := b_Heap_pairs) (fun len hbody => FunD.ok (CX := L2.CX P w) F fs_Heap_pairs len hbody) rfl hm_run fun X E hP hw hK hmg hb hcalm hN hs hfn hr tk hst hpo => ?_
  subst hK
  have c0 : Ct P w X.K mg base N_Heap_pairs (defScope st_Heap_pairs) T_Heap_pairs 0 X (WE0 E) := ⟨⟨hP, hw, rfl, hmg, hb⟩, On.of hcalm hN hs fs_Heap_pairs.nd nt_Heap_pairs, hN, hs, fs_Heap_pairs.nd, rfl, hr, tk⟩
  exact (vss_one (vs_ret (VN.e (vn_lc c0.on (vi_seq (ve_fld (cs := [(Str.ofString "Heap")]) (r_var c0.on 0) (List.forall_mem_cons.mpr ⟨⟨hd.cl_Heap.cl, hd.na_Heap_counts⟩, (List.forall_mem_nil _)⟩))) (c0.bo bo_Heap_pairs_1) rfl (fun s H C cl fp => have c1 := c0.blk T_Heap_pairs_1 nt_Heap_pairs_1 rfl s H C cl fp; (vg_name c1.on 0 (by decide))) (fun s H C cl fp => have c1 := c0.blk T_Heap_pairs_1 nt_Heap_pairs_1 rfl s H C cl fp; vts_nil) (fun s H C cl fp => have c1 := c0.blk T_Heap_pairs_1 nt_Heap_pairs_1 rfl s H C cl fp; (ve_tup (va_cons (v_var c1.on 0) (va_cons (ve_ix c1.hu (VE.r (ve_fld (cs := [(Str.ofString "Heap")]) (r_var c1.on 1) (List.forall_mem_cons.mpr ⟨⟨hd.cl_Heap.cl, hd.na_Heap_counts⟩, (List.forall_mem_nil _)⟩))) (r_var c1.on 0)) va_nil))))))))
theorem mo_Heap_pairs_0 (hd : Hd K mg) : MOk P w K mg base (He.ga K) 1 (Str.ofString "Heap") (Str.ofString "pairs") 0 [] 1 (fmt [0]) m_Heap_pairs := by
  obtain ⟨fd, F⟩ := hd.d_Heap_pairs
  exact ⟨hd.cl_Heap.cl, _, fd, ps_Heap_pairs, hd.me_Heap_pairs, rfl, fn_Heap_pairs hd F, bnd0 F 1 [] [0] (fun _ _ _ _ _ _ us ws h1 h2 => match us, ws, h1, h2 with | [_], [], _, _ => rfl)⟩
end
section
variable {P : Program} {w : World} {K : PySem.W.Frag} {mg : Str → Option Value} {base : Heap}
theorem fn_Heap_text {fd : FuncData} (hd : Hd K mg) (F : FunD K (Str.ofString "text") (Str.ofString "Heap.text") (defArgs st_Heap_text) (defBody st_Heap_text) (defScope st_Heap_text) [] [] (maA (Str.ofString "Heap") (Str.ofString "text") K) fd) : FnOk P w K mg base (L2.CX P w) 1 (maA (Str.ofString "Heap") (Str.ofString "text") K) fd ps_Heap_text (spPV K (He.ga K) (rDen K (He.ga K)) 1 m_Heap_text) := by
  refine fn_body (N := 2) (m := b_Heap_text) (fun len hbody => FunD.ok (CX := L2.CX P w) F fs_Heap_text len hbody) rfl hm_run fun X E hP hw hK hmg hb hcalm hN hs hfn hr tk hst hpo => ?_
  subst hK
  have c0 : Ct P w X.K mg base N_Heap_text (defScope st_Heap_text) T_Heap_text 0 X (WE0 E) := ⟨⟨hP, hw, rfl, hmg, hb⟩, On.of hcalm hN hs fs_Heap_text.nd nt_Heap_text, hN, hs, fs_Heap_text.nd, rfl, hr, tk⟩
  exact (vss_cons (vs_if (vt_cmp (op_eqA c0.room.units) h_eq (VE.r (ve_len (c0.mg' hd.f_len) (VE.r (ve_fld (cs := [(Str.ofString "Heap")]) (r_var c0.on 0) (List.forall_mem_cons.mpr ⟨⟨hd.cl_Heap.cl, hd.na_Heap_counts⟩, (List.forall_mem_nil _)⟩))) (c0.gl 1))) (VE.r ve_int)) (vss_one (vs_ret ve_str)) vss_nil)
      (vss_one (vs_ret (ve_join (VE.r ve_str) (VE.r (VN.e (vn_lc c0.on (vi_seq (ve_fld (cs := [(Str.ofString "Heap")]) (r_var c0.on 0) (List.forall_mem_cons.mpr ⟨⟨hd.cl_Heap.cl, hd.na_Heap_counts⟩, (List.forall_mem_nil _)⟩))) (c0.bo bo_Heap_text_1) rfl (fun s H C cl fp => have c1 := c0.blk T_Heap_text_1 nt_Heap_text_1 rfl s H C cl fp; (vg_name c1.on 0 (by decide))) (fun s H C cl fp => have c1 := c0.blk T_Heap_text_1 nt_Heap_text_1 rfl s H C cl fp; vts_nil) (fun s H C cl fp => have c1 := c0.blk T_Heap_text_1 nt_Heap_text_1 rfl s H C cl fp; (ve_fst (.cons (vf_fmt (VE.r (ve_ix c1.hu (VE.r (ve_fld (cs := [(Str.ofString "Heap")]) (r_var c1.on 1) (List.forall_mem_cons.mpr ⟨⟨hd.cl_Heap.cl, hd.na_Heap_counts⟩, (List.forall_mem_nil _)⟩))) (r_var c1.on 0)))) (.cons vf_lit (.cons (vf_fmt (r_var c1.on 0)) .nil))))))))))))
theorem mo_Heap_text_0 (hd : Hd K mg) : MOk P w K mg base (He.ga K) 1 (Str.ofString "Heap") (Str.ofString "text") 0 [] 1 (fmt [0]) m_Heap_text := by
  obtain ⟨fd, F⟩ := hd.d_Heap_text
  exact ⟨hd.cl_Heap.cl, _, fd, ps_Heap_text, hd.me_Heap_text, rfl, fn_Heap_text hd F, bnd0 F 1 [] [0] (fun _ _ _ _ _ _ us ws h1 h2 => match us, ws, h1, h2 with | [_], [], _, _ => rfl)⟩
end
section
variable {P : Program} {w : World} {K : PySem.W.Frag} {mg : Str → Option Value} {base : Heap}
theorem fn_Heap_eq {fd : FuncData} (hd : Hd K mg) (F : FunD K (Str.ofString "__eq__") (Str.ofString "Heap.__eq__") (defArgs st_Heap_eq) (defBody st_Heap_eq) (defScope st_Heap_eq) [] [] (maA (Str.ofString "Heap") (Str.ofString "__eq__") K) fd) : FnOk P w K mg base (L2.CX P w) 1 (maA (Str.ofString "Heap") (Str.ofString "__eq__") K) fd ps_Heap_eq (spPV K (He.ga K) (rDen K (He.ga K)) 2 m_Heap_eq) := by
  refine fn_body (N := 2) (m := b_Heap_eq) (fun len hbody => FunD.ok (CX := L2.CX P w) F fs_Heap_eq len hbody) rfl hm_run fun X E hP hw hK hmg hb hcalm hN hs hfn hr tk hst hpo => ?_
  subst hK
  have c0 : Ct P w X.K mg base N_Heap_eq (defScope st_Heap_eq) T_Heap_eq 0 X (WE0 E) := ⟨⟨hP, hw, rfl, hmg, hb⟩, On.of hcalm hN hs fs_Heap_eq.nd nt_Heap_eq, hN, hs, fs_Heap_eq.nd, rfl, hr, tk⟩
  exact (vss_one (vs_ret (ve_and (VE.r (ve_isi (c0.mg' hd.f_isinstance) (r_var c0.on 1) (pe_cls (c0.mg' hd.g_Heap) (c0.gl 3)) (.own _) hd.sb_Heap (c0.gl 2))) (ve_one (ve_cmp (op_eqX c0.room.units) h_eqX (VE.r (ve_fld (cs := [(Str.ofString "Heap")]) (r_var c0.on 0) (List.forall_mem_cons.mpr ⟨⟨hd.cl_Heap.cl, hd.na_Heap_counts⟩, (List.forall_mem_nil _)⟩))) (VE.r (ve_fld (cs := [(Str.ofString "Heap")]) (r_var c0.on 1) (List.forall_mem_cons.mpr ⟨⟨hd.cl_Heap.cl, hd.na_Heap_counts⟩, (List.forall_mem_nil _)⟩))))))))
theorem du_Heap_eq (hd : Hd K mg) : DunOk P w K mg base (He.ga K) 1 (Str.ofString "Heap") (Str.ofString "__eq__") 2 m_Heap_eq := by
  obtain ⟨fd, F⟩ := hd.d_Heap_eq
  exact ⟨hd.cl_Heap.cl, _, fd, ps_Heap_eq, (bDun_ok hd.dn_Heap_eq).1, (bDun_ok hd.dn_Heap_eq).2.1, (bDun_ok hd.dn_Heap_eq).2.2, rfl, fn_Heap_eq hd F, FunD.bindsN F fun _ _ _ _ _ _ us hl => match us, hl with | [_, _], _ => rfl⟩
end
section
variable {P : Program} {w : World} {K : PySem.W.Frag} {mg : Str → Option Value} {base : Heap}
theorem fn_is_number {fd : FuncData} (hd : Hd K mg) (F : FunD K (Str.ofString "is_number") (Str.ofString "is_number") (defArgs st_is_number) (defBody st_is_number) (defScope st_is_number) [] [] (He.ga K (Str.ofString "is_number")) fd) : FnOk P w K mg base (L2.CX P w) 2 (He.ga K (Str.ofString "is_number")) fd ps_is_number (spPV K (He.ga K) (rDen K (He.ga K)) 2 m_is_number) := by
  refine fn_body (N := 2) (m := b_is_number) (fun len hbody => FunD.ok (CX := L2.CX P w) F fs_is_number len hbody) rfl hm_run fun X E hP hw hK hmg hb hcalm hN hs hfn hr tk hst hpo => ?_
  subst hK
  have c0 : Ct P w X.K mg base N_is_number (defScope st_is_number) T_is_number 1 X (WE0 E) := ⟨⟨hP, hw, rfl, hmg, hb⟩, On.of hcalm hN hs fs_is_number.nd nt_is_number, hN, hs, fs_is_number.nd, rfl, hr, tk⟩
  exact (vss_one (vs_ret (ve_and (VE.r (ve_call (ks := []) c0 (cal_is_integer hd) (by decide) 2 (.head _) (va_cons (v_var c0.on 0) va_nil) vk_nil)) (ve_one (ve_cmp op_geA h_ge (r_var c0.on 0) (r_var c0.on 1))))))
theorem cal_is_number (hd : Hd K mg) : Cal P w K mg base (He.ga K) 2 2 (Str.ofString "is_number") (rDen K (He.ga K)) fm_is_number (m_is_number) := by
  obtain ⟨fd, F⟩ := hd.d_is_number
  exact ⟨_, fd, ps_is_number, rfl, fn_is_number hd F, hd.g_is_number, F.kp, (List.forall_mem_cons.mpr ⟨bnd0 F 2 [] [0, 1] (fun _ _ _ _ _ _ us ws h1 h2 => match us, ws, h1, h2 with | [_, _], [], _, _ => rfl), (fun _ h => nomatch h)⟩)⟩
end
section
variable {P : Program} {w : World} {K : PySem.W.Frag} {mg : Str → Option Value} {base : Heap}
theorem fn_law_of {fd : FuncData} (hd : Hd K mg) (F : FunD K (Str.ofString "_law_of") (Str.ofString "_law_of") (defArgs st_law_of) (defBody st_law_of) (defScope st_law_of) [] [] (He.ga K (Str.ofString "_law_of")) fd) : FnOk P w K mg base (L2.CX P w) 2 (He.ga K (Str.ofString "_law_of")) fd ps_law_of (spPV K (He.ga K) (rDen K (He.ga K)) 2 m_law_of) := by
  refine fn_body (N := 2) (m := b_law_of) (fun len hbody => FunD.ok (CX := L2.CX P w) F fs_law_of len hbody) rfl hm_run fun X E hP hw hK hmg hb hcalm hN hs hfn hr tk hst hpo => ?_
  subst hK
  have c0 : Ct P w X.K mg base N_law_of (defScope st_law_of) T_law_of 1 X (WE0 E) := ⟨⟨hP, hw, rfl, hmg, hb⟩, On.of hcalm hN hs fs_law_of.nd nt_law_of, hN, hs, fs_law_of.nd, rfl, hr, tk⟩
  exact (vss_one (vs_ret (ve_ix c0.hu (r_var c0.on 1) (VE.r (ve_call (ks := []) c0 (cal_law_draw hd) (by decide) 2 (.head _) (va_cons (v_var c0.on 0) (va_cons (ve_len (c0.mg' hd.f_len) (r_var c0.on 1) (c0.gl 3)) va_nil)) vk_nil)))))
theorem cal_law_of (hd : Hd K mg) : Cal P w K mg base (He.ga K) 2 2 (Str.ofString "_law_of") (rDen K (He.ga K)) fm_law_of (m_law_of) := by
  obtain ⟨fd, F⟩ := hd.d_law_of
  exact ⟨_, fd, ps_law_of, rfl, fn_law_of hd F, hd.g_law_of, F.kp, (List.forall_mem_cons.mpr ⟨bnd0 F 2 [] [0, 1] (fun _ _ _ _ _ _ us ws h1 h2 => match us, ws, h1, h2 with | [_, _], [], _, _ => rfl), (fun _ h => nomatch h)⟩)⟩
end
section
variable {P : Program} {w : World} {K : PySem.W.Frag} {mg : Str → Option Value} {base : Heap}
theorem fn_law_heap_so {fd : FuncData} (hd : Hd K mg) (F : FunD K (Str.ofString "_law_heap_so") (Str.ofString "_law_heap_so") (defArgs st_law_heap_so) (defBody st_law_heap_so) (defScope st_law_heap_so) [] [] (He.ga K (Str.ofString "_law_heap_so")) fd) : FnOk P w K mg base (L2.CX P w) 14 (He.ga K (Str.ofString "_law_heap_so")) fd ps_law_heap_so (spPV K (He.ga K) (rDen K (He.ga K)) 2 m_law_heap_so) := by
  refine fn_body (N := 2) (m := b_law_heap_so) (fun len hbody => FunD.ok (CX := L2.CX P w) F fs_law_heap_so len hbody) rfl hm_run fun X E hP hw hK hmg hb hcalm hN hs hfn hr tk hst hpo => ?_
  subst hK
  have c0 : Ct P w X.K mg base N_law_heap_so (defScope st_law_heap_so) T_law_heap_so 13 X (WE0 E) := ⟨⟨hP, hw, rfl, hmg, hb⟩, On.of hcalm hN hs fs_law_heap_so.nd nt_law_heap_so, hN, hs, fs_law_heap_so.nd, rfl, hr, tk⟩
  exact (vss_one (vs_ret (ve_and (VE.r (ve_isi (c0.mg' hd.f_isinstance) (r_var c0.on 0) (pe_cls (c0.mg' hd.g_Heap) (c0.gl 3)) (.own _) hd.sb_Heap (c0.gl 2))) (ve_one (ve_call (ks := []) c0 (cal_law_same hd 12) (by decide) 4 (.head _) (va_cons (ve_meth0 (ks := []) c0 (v_var c0.on 0) (tb_cons ((mo_Heap_pairs_0 hd).up (by decide)) tb_nil) vk_nil) (va_cons (ve_call (ks := []) c0 (cal_law_pairs hd) (by decide) 5 (.head _) (va_cons (v_var c0.on 1) va_nil) vk_nil) va_nil)) vk_nil)))))
theorem cal_law_heap_so (hd : Hd K mg) : Cal P w K mg base (He.ga K) 14 2 (Str.ofString "_law_heap_so") (rDen K (He.ga K)) fm_law_heap_so (m_law_heap_so) := by
  obtain ⟨fd, F⟩ := hd.d_law_heap_so
  exact ⟨_, fd, ps_law_heap_so, rfl, fn_law_heap_so hd F, hd.g_law_heap_so, F.kp, (List.forall_mem_cons.mpr ⟨bnd0 F 2 [] [0, 1] (fun _ _ _ _ _ _ us ws h1 h2 => match us, ws, h1, h2 with | [_, _], [], _, _ => rfl), (fun _ h => nomatch h)⟩)⟩
end
section
variable {P : Program} {w : World} {K : PySem.W.Frag} {mg : Str → Option Value} {base : Heap}
theorem fn_law_text {fd : FuncData} (hd : Hd K mg) (F : FunD K (Str.ofString "_law_text") (Str.ofString "_law_text") (defArgs st_law_text) (defBody st_law_text) (defScope st_law_text) [] [] (He.ga K (Str.ofString "_law_text")) fd) : FnOk P w K mg base (L2.CX P w) 2 (He.ga K (Str.ofString "_law_text")) fd ps_law_text (spPV K (He.ga K) (rDen K (He.ga K)) 1 m_law_text) := by
  refine fn_body (N := 4) (m := b_law_text) (fun len hbody => FunD.ok (CX := L2.CX P w) F fs_law_text len hbody) rfl hm_run fun X E hP hw hK hmg hb hcalm hN hs hfn hr tk hst hpo => ?_
  subst hK
  have c0 : Ct P w X.K mg base N_law_text (defScope st_law_text) T_law_text 1 X (WE0 E) := ⟨⟨hP, hw, rfl, hmg, hb⟩, On.of hcalm hN hs fs_law_text.nd nt_law_text, hN, hs, fs_law_text.nd, rfl, hr, tk⟩
  exact (vss_cons (vs_setLc c0.on 1 (vi_seq (ve_call (ks := []) c0 (cal_law_pairs hd) (by decide) 2 (.head _) (va_cons (v_var c0.on 0) va_nil) vk_nil)) (c0.bo bo_law_text_1) rfl (fun s H C cl fp => have c1 := c0.blk T_law_text_1 nt_law_text_1 rfl s H C cl fp; (vg_tup c1.on (vgs_cons (vg_name c1.on 0 (by decide)) (vgs_cons (vg_name c1.on 1 (by decide)) vgs_nil)))) (fun s H C cl fp => have c1 := c0.blk T_law_text_1 nt_law_text_1 rfl s H C cl fp; vts_nil) (fun s H C cl fp => have c1 := c0.blk T_law_text_1 nt_law_text_1 rfl s H C cl fp; (ve_op op_addA h_add (VE.r (ve_op op_addA h_add (VE.r (ve_tostr (c1.mg' hd.f_str) (r_var c1.on 1) (c1.gl 2))) (VE.r ve_str))) (r_var c1.on 0))) c0.kd')
      (vss_frz 1 (vss_one (vs_ret (ve_if (vt_cmp (op_neA c0.room.units) h_ne (r_var c0.on 1) (VE.r (VN.e (vn_lst va_nil)))) (ve_join (VE.r ve_str) (r_var c0.on 1)) ve_str)))))
theorem cal_law_text (hd : Hd K mg) : Cal P w K mg base (He.ga K) 2 1 (Str.ofString "_law_text") (rDen K (He.ga K)) fm_law_text (m_law_text) := by
  obtain ⟨fd, F⟩ := hd.d_law_text
  exact ⟨_, fd, ps_law_text, rfl, fn_law_text hd F, hd.g_law_text, F.kp, (List.forall_mem_cons.mpr ⟨bnd0 F 1 [] [0] (fun _ _ _ _ _ _ us ws h1 h2 => match us, ws, h1, h2 with | [_], [], _, _ => rfl), (fun _ h => nomatch h)⟩)⟩
end
section
variable {P : Program} {w : World} {K : PySem.W.Frag} {mg : Str → Option Value} {base : Heap}
theorem fn_law_words {fd : FuncData} (hd : Hd K mg) (F : FunD K (Str.ofString "_law_words") (Str.ofString "_law_words") (defArgs st_law_words) (defBody st_law_words) (defScope st_law_words) [] [] (He.ga K (Str.ofString "_law_words")) fd) : FnOk P w K mg base (L2.CX P w) 3 (He.ga K (Str.ofString "_law_words")) fd ps_law_words (spPV K (He.ga K) (rDen K (He.ga K)) 2 m_law_words) := by
  refine fn_body (N := 11) (m := b_law_words) (fun len hbody => FunD.ok (CX := L2.CX P w) F fs_law_words len hbody) rfl hm_run fun X E hP hw hK hmg hb hcalm hN hs hfn hr tk hst hpo => ?_
  subst hK
  have c0 : Ct P w X.K mg base N_law_words (defScope st_law_words) T_law_words 2 X (WE0 E) := ⟨⟨hP, hw, rfl, hmg, hb⟩, On.of hcalm hN hs fs_law_words.nd nt_law_words, hN, hs, fs_law_words.nd, rfl, hr, tk⟩
  exact (vss_cons (vs_asg (vs := [2, 3]) (ve_tup (va_cons ve_str (va_cons ve_str va_nil))) (vg_tup c0.on (vgs_cons (vg_name c0.on 2 (by decide)) (vgs_cons (vg_name c0.on 3 (by decide)) vgs_nil))) (hw := c0.sw rfl))
      (vss_cons (vs_for (vs := [4]) hpo c0.on (vi_range1 (c0.mg' hd.f_range) (VE.r (ve_call (ks := []) c0 (cal_law_draw hd) (by decide) 12 (.head _) (va_cons (v_var c0.on 0) (va_cons ve_int va_nil)) vk_nil)) (c0.gl 11)) (vg_name c0.on 4 (by decide)) (vss_one (vs_set c0.on 3 (ve_op op_addA h_add (r_var c0.on 3) (VE.r (ve_call (ks := []) c0 (cal_law_of hd) (by decide) 13 (.head _) (va_cons (v_var c0.on 0) (va_cons (v_var c0.on 2) va_nil)) vk_nil))))))
      (vss_cons (ps_par3V c0.on 5 6 7 (vnv_v (ve_call (ks := []) c0 (cal_law_draw hd) (by decide) 12 (.head _) (va_cons (v_var c0.on 0) (va_cons (ve_op op_addA h_add (VE.r (ve_len (c0.mg' hd.f_len) (r_var c0.on 3) (c0.gl 14))) (VE.r ve_int)) va_nil)) vk_nil)) (vnv_v (ve_call (ks := []) c0 (cal_law_draw hd) (by decide) 12 (.head _) (va_cons (v_var c0.on 0) (va_cons ve_int va_nil)) vk_nil)) (vnv_v (ve_call (ks := []) c0 (cal_law_of hd) (by decide) 13 (.head _) (va_cons (v_var c0.on 0) (va_cons (VN.e (vn_lst (va_cons ve_str (va_cons ve_str (va_cons ve_str va_nil))))) va_nil)) vk_nil)) (hw := c0.sw rfl))
      (vss_cons (ps_parV c0.on 8 9 (vnv_n (vn_lst va_nil)) (vnv_v (ve_call (ks := []) c0 (cal_law_draw hd) (by decide) 12 (.head _) (va_cons (v_var c0.on 0) (va_cons ve_int va_nil)) vk_nil)) (hw := c0.sw rfl))
      (vss_cons (vs_for (vs := [4]) hpo c0.on (vi_range1 (c0.mg' hd.f_range) (r_var c0.on 1) (c0.gl 11)) (vg_name c0.on 4 (by decide)) (vss_cons (vs_set c0.on 10 (ve_op op_addA h_add (VE.r (ve_op op_addA h_add (VE.r (ve_sl (r_var c0.on 3) vp_none (vp_some (r_var c0.on 5)))) (VE.r (ve_ix c0.hu (r_var c0.on 2) (VE.r (ve_op op_modN h_mod (VE.r (ve_toint (c0.mg' hd.f_int) (VE.r (ve_op op_addA h_add (r_var c0.on 6) (VE.r (ve_op op_mulW h_mul (VE.r ve_int) (r_var c0.on 4))))) (c0.gl 15))) (VE.r ve_int))))))) (VE.r (ve_sl (r_var c0.on 3) (vp_some (r_var c0.on 5)) vp_none))))
      (vss_one (vs_app c0.on 8 (ve_if (vt_cmp (op_eqA c0.room.units) h_eq (VE.r (ve_op op_modN h_mod (VE.r (ve_toint (c0.mg' hd.f_int) (r_var c0.on 4) (c0.gl 15))) (VE.r ve_int))) (r_var c0.on 9)) (ve_op op_addA h_add (r_var c0.on 10) (r_var c0.on 7)) (v_var c0.on 10))))))
      (vss_frz 8 (vss_one (vs_ret (v_var c0.on 8)))))))))
theorem cal_law_words (hd : Hd K mg) : Cal P w K mg base (He.ga K) 3 2 (Str.ofString "_law_words") (rDen K (He.ga K)) fm_law_words (m_law_words) := by
  obtain ⟨fd, F⟩ := hd.d_law_words
  exact ⟨_, fd, ps_law_words, rfl, fn_law_words hd F, hd.g_law_words, F.kp, (List.forall_mem_cons.mpr ⟨bnd0 F 2 [] [0, 1] (fun _ _ _ _ _ _ us ws h1 h2 => match us, ws, h1, h2 with | [_, _], [], _, _ => rfl), (fun _ h => nomatch h)⟩)⟩
end
section
variable {P : Program} {w : World} {K : PySem.W.Frag} {mg : Str → Option Value} {base : Heap}
theorem fn_law_counts {fd : FuncData} (hd : Hd K mg) (F : FunD K (Str.ofString "_law_counts") (Str.ofString "_law_counts") (defArgs st_law_counts) (defBody st_law_counts) (defScope st_law_counts) [] [] (He.ga K (Str.ofString "_law_counts")) fd) : FnOk P w K mg base (L2.CX P w) 3 (He.ga K (Str.ofString "_law_counts")) fd ps_law_counts (spPV K (He.ga K) (rDen K (He.ga K)) 3 m_law_counts) := by
  refine fn_body (N := 6) (m := b_law_counts) (fun len hbody => FunD.ok (CX := L2.CX P w) F fs_law_counts len hbody) rfl hm_run fun X E hP hw hK hmg hb hcalm hN hs hfn hr tk hst hpo => ?_
  subst hK
  have c0 : Ct P w X.K mg base N_law_counts (defScope st_law_counts) T_law_counts 2 X (WE0 E) := ⟨⟨hP, hw, rfl, hmg, hb⟩, On.of hcalm hN hs fs_law_counts.nd nt_law_counts, hN, hs, fs_law_counts.nd, rfl, hr, tk⟩
  exact (vss_cons (vs_setO c0.on 3 vn_dnew)
      (vss_cons (vs_for (vs := [4]) hpo c0.on (vi_seq (v_var c0.on 1)) (vg_name c0.on 4 (by decide)) (vss_cons (vs_set c0.on 5 (ve_call (ks := []) c0 (cal_law_of hd) (by decide) 6 (.head _) (va_cons (v_var c0.on 0) (va_cons (v_var c0.on 2) va_nil)) vk_nil))
      (vss_one (vs_if (vt_cmp op_gtA h_gt (r_var c0.on 5) (VE.r ve_int)) (vss_one (vs_put c0.on 3 c0.hu (r_var c0.on 4) (v_var c0.on 5))) vss_nil))))
      (vss_frz 3 (vss_one (vs_ret (v_var c0.on 3))))))
theorem cal_law_counts (hd : Hd K mg) : Cal P w K mg base (He.ga K) 3 3 (Str.ofString "_law_counts") (rDen K (He.ga K)) fm_law_counts (m_law_counts) := by
  obtain ⟨fd, F⟩ := hd.d_law_counts
  exact ⟨_, fd, ps_law_counts, rfl, fn_law_counts hd F, hd.g_law_counts, F.kp, (List.forall_mem_cons.mpr ⟨bnd0 F 3 [] [0, 1, 2] (fun _ _ _ _ _ _ us ws h1 h2 => match us, ws, h1, h2 with | [_, _, _], [], _, _ => rfl), (fun _ h => nomatch h)⟩)⟩
end
section
variable {P : Program} {w : World} {K : PySem.W.Frag} {mg : Str → Option Value} {base : Heap}
theorem fn_Heap_init {fd : FuncData} (hd : Hd K mg) (F : FunD K (Str.ofString "__init__") (Str.ofString "Heap.__init__") (defArgs st_Heap_init) (defBody st_Heap_init) (defScope st_Heap_init) [.non] [] (maA (Str.ofString "Heap") (Str.ofString "__init__") K) fd) : FnOk P w K mg base (L2.CX P w) 3 (maA (Str.ofString "Heap") (Str.ofString "__init__") K) fd ps_Heap_init (spPV K (He.ga K) (rDen K (He.ga K)) 2 m_Heap_init) := by
  refine fn_body (N := 4) (m := b_Heap_init) (fun len hbody => FunD.ok (CX := L2.CX P w) F fs_Heap_init len hbody) rfl hm_run fun X E hP hw hK hmg hb hcalm hN hs hfn hr tk hst hpo => ?_
  subst hK
  have c0 : Ct P w X.K mg base N_Heap_init (defScope st_Heap_init) T_Heap_init 2 X (WE0 E) := ⟨⟨hP, hw, rfl, hmg, hb⟩, On.of hcalm hN hs fs_Heap_init.nd nt_Heap_init, hN, hs, fs_Heap_init.nd, rfl, hr, tk⟩
  exact (vss_cons (vs_set c0.on 2 (ve_if (vt_isN (r_var c0.on 1)) (VN.e vn_dnew) (v_var c0.on 1)) (hf := .inl (hfn _)))
      (vss_cons (vs_for (vs := [3]) hpo c0.on (vi_seq (v_var c0.on 2)) (vg_name c0.on 3 (by decide)) (vss_one (vs_if (vt_not (vt_of (VE.r (ve_call (ks := []) c0 (cal_is_name hd) (by decide) 4 (.head _) (va_cons (v_var c0.on 3) va_nil) vk_nil)))) (vss_one (vs_raise1 c0 (xo_InvalidName hd) (by decide) 5 (v_var c0.on 3))) vss_nil)))
      (vss_cons (vs_for (vs := [3]) hpo c0.on (vi_seq (v_var c0.on 2)) (vg_name c0.on 3 (by decide)) (vss_one (vs_if (vt_not (vt_of (VE.r (ve_call (ks := []) c0 (cal_is_number hd) (by decide) 6 (.head _) (va_cons (ve_ix c0.hu (r_var c0.on 2) (r_var c0.on 3)) (va_cons ve_int va_nil)) vk_nil)))) (vss_one (vs_raise1 c0 (xo_InvalidCount hd) (by decide) 7 (ve_ix c0.hu (r_var c0.on 2) (r_var c0.on 3)))) vss_nil)))
      (vss_one (vs_fldS (cs := [(Str.ofString "Heap")]) (VN.e (vn_dc c0.on (vi_seq (VN.e (vn_sorted (c0.mg' hd.f_sorted) (VE.r (VN.e (vn_list c0.calm (c0.mg' hd.f_list) (r_var c0.on 2) (c0.gl 9)))) (c0.gl 8)))) (c0.bo bo_Heap_init_1) rfl (fun s H C cl fp => have c1 := c0.blk T_Heap_init_1 nt_Heap_init_1 rfl s H C cl fp; (vg_name c1.on 0 (by decide))) (fun s H C cl fp => have c1 := c0.blk T_Heap_init_1 nt_Heap_init_1 rfl s H C cl fp; (vts_one (vt_cmp op_gtA h_gt (VE.r (ve_ix c1.hu (r_var c1.on 1) (r_var c1.on 0))) (VE.r ve_int)))) (fun s H C cl fp => have c1 := c0.blk T_Heap_init_1 nt_Heap_init_1 rfl s H C cl fp; (v_var c1.on 0)) (fun s H C cl fp => have c1 := c0.blk T_Heap_init_1 nt_Heap_init_1 rfl s H C cl fp; (ve_ix c1.hu (r_var c1.on 1) (r_var c1.on 0))))) (v_var c0.on 0) (List.forall_mem_cons.mpr ⟨⟨hd.cl_Heap.cl, hd.na_Heap_counts⟩, (List.forall_mem_nil _)⟩))))))
theorem ko_Heap (hd : Hd K mg) : KOk P w K mg base (He.ga K) 3 (Str.ofString "Heap") fm_Heap_init 2 m_Heap_init := by
  obtain ⟨fd, F⟩ := hd.d_Heap_init
  exact ⟨⟨_, fd, ps_Heap_init, hd.mk_Heap, rfl, fn_Heap_init hd F, (List.forall_mem_cons.mpr ⟨bndX F 2 [] dd_Heap_init_d [0, 1] (fun h => nomatch h) (.cons .non .nil) (fun _ _ _ _ _ _ _ us its ws h1 h2 h3 => match us, its, ws, h1, h2, h3 with | [_, _], [_], [], _, _, _ => ⟨_, rfl, rfl⟩), (fun _ h => nomatch h)⟩)⟩, hd.g_Heap⟩
end
section
variable {P : Program} {w : World} {K : PySem.W.Frag} {mg : Str → Option Value} {base : Heap}
theorem fn_Heap_of {fd : FuncData} (hd : Hd K mg) (F : FunD K (Str.ofString "of") (Str.ofString "Heap.of") (defArgs st_Heap_of) (defBody st_Heap_of) (defScope st_Heap_of) [] [] (smA (Str.ofString "Heap") (Str.ofString "of") K) fd) : FnR P w K mg base (L2.CX P w) 5 (smA (Str.ofString "Heap") (Str.ofString "of") K) (spVar K (He.ga K) 0 m_Heap_of) := by
  refine fn_bodyR (pv := (Str.ofString "names")) (N := 3) (m := b_Heap_of) F fs_Heap_of (fun kV doc pm cdv ct an us rest h => match us, h with | [], _ => by cases rest <;> rfl) rfl hm_run fun X E hP hw hK hmg hb hcalm hN hs hfn hr tk hst hpo => ?_
  subst hK
  have c0 : Ct P w X.K mg base N_Heap_of (defScope st_Heap_of) T_Heap_of 4 X (WE0 E) := ⟨⟨hP, hw, rfl, hmg, hb⟩, On.of hcalm hN hs fs_Heap_of.nd nt_Heap_of, hN, hs, fs_Heap_of.nd, rfl, hr, tk⟩
  exact (vss_cons (vs_setO c0.on 1 vn_dnew)
      (vss_cons (vs_for (vs := [2]) hpo c0.on (vi_seq (v_var c0.on 0)) (vg_name c0.on 2 (by decide)) (vss_cons (vs_if (vt_not (vt_of (VE.r (ve_call (ks := []) c0 (cal_is_name hd) (by decide) 3 (.head _) (va_cons (v_var c0.on 2) va_nil) vk_nil)))) (vss_one (vs_raise1 c0 (xo_InvalidName hd) (by decide) 4 (v_var c0.on 2))) vss_nil)
      (vss_one (vs_put c0.on 1 c0.hu (r_var c0.on 2) (ve_op op_addA h_add (VE.r (ve_get2R c0.hu (r_var c0.on 1) (v_var c0.on 2) ve_int)) (VE.r ve_int))))))
      (vss_frz 1 (vss_one (vs_ret (ve_mk (ks := []) c0 (ko_Heap hd) (by decide) 5 (.head _) (va_cons (v_var c0.on 1) va_nil) vk_nil))))))
theorem sm_Heap_of (hd : Hd K mg) : SmOkR P w K mg base (He.ga K) 5 (Str.ofString "Heap") (Str.ofString "of") 0 m_Heap_of := by
  obtain ⟨fd, F⟩ := hd.d_Heap_of
  obtain ⟨mc, p, rest, q1, q2, q3, q4, q5⟩ := bSm_ok hd.sm_Heap_of
  exact ⟨⟨mc, p, _, rest, q1, q2, q3, q4, q5, fn_Heap_of hd F⟩, hd.g_Heap⟩
end
section
variable {P : Program} {w : World} {K : PySem.W.Frag} {mg : Str → Option Value} {base : Heap}
theorem fn_Heap_read {fd : FuncData} (hd : Hd K mg) (F : FunD K (Str.ofString "read") (Str.ofString "Heap.read") (defArgs st_Heap_read) (defBody st_Heap_read) (defScope st_Heap_read) [] [] (smA (Str.ofString "Heap") (Str.ofString "read") K) fd) : FnOk P w K mg base (L2.CX P w) 5 (smA (Str.ofString "Heap") (Str.ofString "read") K) fd ps_Heap_read (spPV K (He.ga K) (rDen K (He.ga K)) 1 m_Heap_read) := by
  obtain ⟨t_MOST_DIGITS, h_MOST_DIGITS⟩ := hd.c_MOST_DIGITS
  refine fn_body (N := 5) (m := b_Heap_read) (fun len hbody => FunD.ok (CX := L2.CX P w) F fs_Heap_read len hbody) rfl hm_run fun X E hP hw hK hmg hb hcalm hN hs hfn hr tk hst hpo => ?_
  subst hK
  have c0 : Ct P w X.K mg base N_Heap_read (defScope st_Heap_read) T_Heap_read 4 X (WE0 E) := ⟨⟨hP, hw, rfl, hmg, hb⟩, On.of hcalm hN hs fs_Heap_read.nd nt_Heap_read, hN, hs, fs_Heap_read.nd, rfl, hr, tk⟩
  exact (vss_cons (vs_if (vt_not (vt_of (VE.r (ve_isi (c0.mg' hd.f_isinstance) (r_var c0.on 0) (pe_ty (c0.mg' hd.f_str) (by decide +kernel) (c0.gl 6)) (.ty _) sbTy_ok (c0.gl 5))))) (vss_one (vs_raise1 c0 (xo_InvalidText hd) (by decide) 7 ve_int)) vss_nil)
      (vss_cons (ps_parV c0.on 1 2 (vnv_n vn_dnew) (vnv_v ve_str) (hw := c0.sw rfl))
      (vss_cons (vs_for (vs := [3]) hpo c0.on (vi_seq (ve_if (vt_cmp (op_neA c0.room.units) h_ne (r_var c0.on 0) (VE.r ve_str)) (VN.e (vn_split (r_var c0.on 0) (VE.r ve_str))) (VN.e (vn_lst va_nil)))) (vg_name c0.on 3 (by decide)) (vss_cons (vs_set c0.on 4 (VN.e (vn_split (r_var c0.on 3) (VE.r ve_str))))
      (vss_cons (vs_if (vt_w (vw_or (vt_cmp (op_neA c0.room.units) h_ne (VE.r (ve_len (c0.mg' hd.f_len) (r_var c0.on 4) (c0.gl 8))) (VE.r ve_int)) (vw_or (vt_not (vt_of (VE.r (ve_call (ks := []) c0 (cal_is_figure hd) (by decide) 9 (.head _) (va_cons (ve_ix c0.hu (r_var c0.on 4) (VE.r ve_int)) (va_cons (ve_gint (c0.mg' h_MOST_DIGITS) (c0.gl 10) (c0.on.dbg (j := 10) rfl)) va_nil)) vk_nil)))) (vw_or1 (vt_cmp (op_eqA c0.room.units) h_eq (VE.r (ve_ix c0.hu (r_var c0.on 4) (VE.r ve_int))) (VE.r ve_str)))))) (vss_one (vs_raise1 c0 (xo_InvalidText hd) (by decide) 7 ve_int)) vss_nil)
      (vss_cons (vs_if (vt_w (vw_or (vt_not (vt_of (VE.r (ve_call (ks := []) c0 (cal_is_name hd) (by decide) 11 (.head _) (va_cons (ve_ix c0.hu (r_var c0.on 4) (VE.r ve_int)) va_nil) vk_nil)))) (vw_or1 (vt_cmp op_leA h_le (VE.r (ve_ix c0.hu (r_var c0.on 4) (VE.r ve_int))) (r_var c0.on 2))))) (vss_one (vs_raise1 c0 (xo_InvalidText hd) (by decide) 7 ve_int)) vss_nil)
      (vss_cons (vs_set c0.on 2 (ve_ix c0.hu (r_var c0.on 4) (VE.r ve_int)))
      (vss_one (vs_put c0.on 1 c0.hu (r_var c0.on 2) (ve_toint (c0.mg' hd.f_int) (VE.r (ve_ix c0.hu (r_var c0.on 4) (VE.r ve_int))) (c0.gl 12)))))))))
      (vss_frz 1 (vss_one (vs_ret (ve_mk (ks := []) c0 (ko_Heap hd) (by decide) 13 (.head _) (va_cons (v_var c0.on 1) va_nil) vk_nil)))))))
theorem sm_Heap_read (hd : Hd K mg) : SmOk P w K mg base (He.ga K) 5 (Str.ofString "Heap") (Str.ofString "read") fm_Heap_read 1 m_Heap_read := by
  obtain ⟨fd, F⟩ := hd.d_Heap_read
  obtain ⟨mc, p, rest, q1, q2, q3, q4, q5⟩ := bSm_ok hd.sm_Heap_read
  exact ⟨⟨mc, p, _, fd, ps_Heap_read, rest, q1, q2, q3, q4, q5, rfl, fn_Heap_read hd F, (List.forall_mem_cons.mpr ⟨bnd0 F 1 [] [0] (fun _ _ _ _ _ _ us ws h1 h2 => match us, ws, h1, h2 with | [_], [], _, _ => rfl), (fun _ h => nomatch h)⟩)⟩, hd.g_Heap⟩
end
section
variable {P : Program} {w : World} {K : PySem.W.Frag} {mg : Str → Option Value} {base : Heap}
theorem fn_law {fd : FuncData} (hd : Hd K mg) (F : FunD K (Str.ofString "law") (Str.ofString "law") (defArgs st_law) (defBody st_law) (defScope st_law) [] [] (He.ga K (Str.ofString "law")) fd) (TB : LamX.TabB base mg (He.cT K ((Str.ofString "law"), none)).1 (He.cT K ((Str.ofString "law"), none)).2) : FnOk P w K mg base (L2.CX P w) 15 (He.ga K (Str.ofString "law")) fd ps_law (spPV K (He.ga K) (rDen K (He.ga K)) 1 (m_law (He.cT K ((Str.ofString "law"), none)).2)) := by
  refine fn_bodyT (N := 12) (m := b_law (He.cT K ((Str.ofString "law"), none)).2) F fs_law (code_cT F) rfl hm_run fun X E hP hw hK hmg hb hcalm hN hs hfn hr tk hst hpo hqu hco => ?_
  subst hK
  have tb : TabOf X (He.cT X.K ((Str.ofString "law"), none)).2 := ⟨_, by rw [hb, hmg]; exact TB, hco⟩
  obtain ⟨_, _, _, _, _, _, _, _, _, _, _, Td⟩ := td (P := P) (w := w) (base := base) hd
  have c0 : Ct P w X.K mg base N_law (defScope st_law) T_law 14 X (WE0 E) := ⟨⟨hP, hw, rfl, hmg, hb⟩, On.of hcalm hN hs fs_law.nd nt_law, hN, hs, fs_law.nd, rfl, hr, tk⟩
  exact (vss_cons (vs_setO c0.on 1 (vn_call (ks := []) c0 (cal_law_bag hd) (by decide) 12 (.head _) (va_cons (v_var c0.on 0) va_nil) vk_nil))
      (vss_sto 1 (vss_cons (vs_for (vs := [2]) hpo c0.on (vi_range1 (c0.mg' hd.f_range) (VE.r ve_int) (c0.gl 13)) (vg_name c0.on 2 (by decide)) (vss_cons (vs_set c0.on 3 (ve_call (ks := []) c0 (cal_law_words hd) (by decide) 14 (.head _) (va_cons (v_var c0.on 1) (va_cons (ve_op op_addA h_add (VE.r ve_int) (VE.r (ve_call (ks := []) c0 (cal_law_draw hd) (by decide) 15 (.head _) (va_cons (v_var c0.on 1) (va_cons ve_int va_nil)) vk_nil))) va_nil)) vk_nil))
      (vss_cons (vs_set c0.on 4 (ve_call (ks := []) c0 (cal_law_counts hd) (by decide) 16 (.head _) (va_cons (v_var c0.on 1) (va_cons (v_var c0.on 3) (va_cons (VN.e (vn_lst (va_cons ve_int (va_cons ve_int (va_cons ve_int (va_cons ve_int (va_cons (ve_op op_addA h_add (VE.r ve_int) (VE.r (ve_call (ks := []) c0 (cal_law_draw hd) (by decide) 15 (.head _) (va_cons (v_var c0.on 1) (va_cons (ve_op op_pow h_pow (VE.r ve_int) (VE.r ve_int)) va_nil)) vk_nil))) va_nil))))))) va_nil))) vk_nil))
      (vss_cons (ps_parV c0.on 5 6 (vnv_v (ve_call (ks := []) c0 (cal_law_text hd) (by decide) 17 (.head _) (va_cons (v_var c0.on 4) va_nil) vk_nil)) (vnv_v (VN.e (vn_split (VE.r (ve_call (ks := []) c0 (cal_law_text hd) (by decide) 17 (.head _) (va_cons (v_var c0.on 4) va_nil) vk_nil)) (VE.r ve_str)))) (hw := c0.sw rfl))
      (vss_cons (ps_parV c0.on 7 8 (vnv_v (ve_call (ks := []) c0 (cal_law_draw hd) (by decide) 15 (.head _) (va_cons (v_var c0.on 1) (va_cons (ve_op op_addA h_add (VE.r (ve_len (c0.mg' hd.f_len) (r_var c0.on 5) (c0.gl 18))) (VE.r ve_int)) va_nil)) vk_nil)) (vnv_v (ve_call (ks := []) c0 (cal_law_of hd) (by decide) 19 (.head _) (va_cons (v_var c0.on 1) (va_cons (VN.e (vn_lst (va_cons ve_str (va_cons ve_str (va_cons ve_str (va_cons ve_str (va_cons ve_str (va_cons ve_str (va_cons ve_str (va_cons ve_str (va_cons ve_str (va_cons ve_str va_nil)))))))))))) va_nil)) vk_nil)) (hw := c0.sw rfl))
      (vss_cons (vs_set c0.on 10 (ve_call (ks := []) c0 (cal_law_of hd) (by decide) 19 (.head _) (va_cons (v_var c0.on 1) (va_cons (VN.e (vn_lst (va_cons (ve_op op_addA h_add (VE.r (ve_op op_addA h_add (VE.r (ve_sl (r_var c0.on 5) vp_none (vp_some (r_var c0.on 7)))) (r_var c0.on 8))) (VE.r (ve_sl (r_var c0.on 5) (vp_some (r_var c0.on 7)) vp_none))) (va_cons (ve_op op_addA h_add (VE.r (ve_sl (r_var c0.on 5) vp_none (vp_some (r_var c0.on 7)))) (VE.r (ve_sl (r_var c0.on 5) (vp_some (VE.r (ve_op op_addA h_add (r_var c0.on 7) (VE.r ve_int)))) vp_none))) (va_cons (ve_op op_addA h_add (VE.r (ve_op op_addA h_add (VE.r (ve_sl (r_var c0.on 5) vp_none (vp_some (r_var c0.on 7)))) (r_var c0.on 8))) (VE.r (ve_sl (r_var c0.on 5) (vp_some (VE.r (ve_op op_addA h_add (r_var c0.on 7) (VE.r ve_int)))) vp_none))) (va_cons (ve_join (VE.r ve_str) (VE.r (VN.e (vn_rev (r_var c0.on 6))))) va_nil)))))) va_nil)) vk_nil) (hf := .inl (hfn _)))
      (vss_cons (vs_set c0.on 9 (ve_try (kb := 12) c0 Td (xto hd) (by decide) 20 0 tb (hqu.trans qlam) lm_law_1 rfl (fun _ _ _ _ _ => rfl) (fun A outer s H E f b hr => have c1 := ct_lam c0 nt_law_1 rfl A outer s H E f b hr; (ve_sm (ks := []) c1 (sm_Heap_read hd) (by decide) 1 (.head _) (va_cons (v_var c1.on 0) va_nil) vk_nil))))
      (vss_cons (vs_if (vt_w (vw_or (vt_w (vw_and (vt_cmp (op_eqA c0.room.units) h_eq (VE.r (ve_ix c0.hu (r_var c0.on 9) (VE.r ve_int))) (VE.r ve_str)) (vw_and1 (vt_not (vt_of (VE.r (ve_call (ks := []) c0 (cal_law_same hd 12) (by decide) 21 (.head _) (va_cons (ve_meth0 (ks := []) c0 (ve_ix c0.hu (r_var c0.on 9) (VE.r ve_int)) (tb_cons ((mo_Heap_text_0 hd).up (by decide)) tb_nil) vk_nil) (va_cons (v_var c0.on 10) va_nil)) vk_nil))))))) (vw_or (vt_cmp (op_notInA c0.hu) h_notIn (VE.r (ve_ix c0.hu (r_var c0.on 9) (VE.r ve_int))) (VE.r (ve_tup (va_cons ve_str (va_cons ve_str va_nil))))) (vw_or1 (vt_w (vw_and (vt_cmp (op_neA c0.room.units) h_ne (VE.r (ve_ix c0.hu (r_var c0.on 9) (VE.r ve_int))) (VE.r ve_str)) (vw_and1 (vt_neC c0 (op_neA c0.room.units) h_ne (tb_cons ⟨own_of hd.tg_Heap, (du_Heap_eq hd).up (by decide), bNf_ok hd.nf_Heap, bNe_ok hd.ne_Heap⟩ tb_nil) (ve_ix c0.hu (r_var c0.on 9) (VE.r ve_int)) ve_int)))))))) (vss_one (vs_ret ve_bl)) vss_nil)
      (vss_cons (vs_set c0.on 11 (ve_call (ks := []) c0 (cal_law_of hd) (by decide) 19 (.head _) (va_cons (v_var c0.on 1) (va_cons (VN.e (vn_lst (va_cons ve_str (va_cons ve_str (va_cons ve_str (va_cons ve_str (va_cons ve_str (va_cons ve_str (va_cons ve_str (va_cons ve_str (va_cons ve_str (va_cons ve_str (va_cons ve_str (va_cons ve_str (va_cons ve_str (va_cons ve_str (va_cons ve_str (va_cons ve_str (va_cons ve_str (va_cons ve_str (va_cons ve_str (va_cons ve_str (va_cons ve_non (va_cons ve_int (va_cons ve_bl (va_cons (VN.e (vn_lst (va_cons ve_str va_nil))) (va_cons (ve_tup (va_cons ve_str va_nil)) (va_cons (ve_op op_addA h_add (VE.r (ve_op op_addA h_add (VE.r ve_str) (VE.r (ve_op op_mulX2 h_mulX (VE.r ve_str) (VE.r ve_int))))) (VE.r ve_str)) (va_cons ve_str va_nil))))))))))))))))))))))))))))) va_nil)) vk_nil) (hf := .inl (hfn _)))
      (vss_cons (vs_if (vt_not (vt_of (VE.r (ve_call (ks := []) c0 (cal_law_same hd 12) (by decide) 21 (.head _) (va_cons (ve_try (kb := 12) c0 Td (xto hd) (by decide) 20 0 tb (hqu.trans qlam) lm_law_2 rfl (fun _ _ _ _ _ => rfl) (fun A outer s H E f b hr => have c2 := ct_lam c0 nt_law_2 rfl A outer s H E f b hr; (ve_sm (ks := []) c2 (sm_Heap_read hd) (by decide) 1 (.head _) (va_cons (v_var c2.on 0) va_nil) vk_nil))) (va_cons (ve_tup (va_cons ve_str (va_cons ve_int va_nil))) va_nil)) vk_nil)))) (vss_one (vs_ret ve_bl)) vss_nil)
      (vss_one (vs_if (vt_not (vt_of (VE.r (ve_call (ks := []) c0 (cal_law_heap_so hd) (by decide) 22 (.head _) (va_cons (ve_sm (ks := []) c0 (sm_Heap_read hd) (by decide) 23 (.head _) (va_cons (v_var c0.on 5) va_nil) vk_nil) (va_cons (v_var c0.on 4) va_nil)) vk_nil)))) (vss_one (vs_ret ve_bl)) vss_nil))))))))))))
      (vss_one (vs_ret (ve_eqC c0 (op_eqA c0.room.units) h_eq (tb_cons ⟨own_of hd.tg_Heap, (du_Heap_eq hd).up (by decide), bNf_ok hd.nf_Heap, bNe_ok hd.ne_Heap⟩ tb_nil) (ve_sm (ks := []) c0 (sm_Heap_read hd) (by decide) 23 (.head _) (va_cons ve_str va_nil) vk_nil) (ve_smR c0 (sm_Heap_of hd) (by decide) 23 2 (va_cons ve_str (va_cons ve_str va_nil)))))))))
end
end PV.LW
end

section
namespace PV.LW
open PySem PySem.Spec L2
open PyProof.Rows hiding St
local macro_rules | `(tactic| simp_all! [$ls,*]) => `(tactic| simp -dsimp (disch := first | assumption | omega | (simp only [List.length_cons, List.length_nil]; omega) | decide) only [s_brT, s_brF, s_pure, s_Mpure, s_bind, s_if, s_raise, s_getV0, s_getR0, s_getO0, s_getV, s_getR, s_seq, s_nil, s_set, s_setO, s_ret, s_drop, s_sif, s_par, s_slotT, s_slotF, s_add, s_sub, s_lt, s_le, s_gt, s_ge, s_toint, s_tointB, s_asB, s_notD, s_negD, s_absD, s_trB, s_trI, s_trL, s_trTu, s_trN, s_asI, s_asS, s_eqI, s_neI, s_eqB, s_neB, s_eqS, s_neS, s_ltS, s_leS, s_lenL, s_lenT, s_lenD, s_lenS, s_addS, s_addL, s_catL, s_mul, s_mod, s_fdiv, s_lst0, s_lst, s_tup, s_listL, s_listT, s_slL, s_slLL, s_slS, s_seqL, s_seqT, s_seqS, s_rng1, s_zip, s_enum, s_atM, s_inS, s_c1, s_c2, s_c3, s_c4, s_c5, s_k1, s_k2, s_k2', s_p1k1, s_isiAny1, s_isiAny0, s_iNI, s_iNS, s_iNB, s_iNL, s_iNT, s_iND, s_iBI, s_iBS, s_iBB, s_iBL, s_iBT, s_iBD, s_iII, s_iIS, s_iIB, s_iIL, s_iIT, s_iID, s_iSI, s_iSS, s_iSB, s_iSL, s_iST, s_iSD, s_iLI, s_iLS, s_iLB, s_iLL, s_iLT, s_iLD, s_iTI, s_iTS, s_iTB, s_iTL, s_iTT, s_iTD, s_iDI, s_iDS, s_iDB, s_iDL, s_iDT, s_iDD, wipeE, e1, e2, eNil, eCons, kI, kS, kB, kN, tCmp, tChn, eChn, tNot, tAnd, tOr, eAnd, eOr, eIf, eIsi, eIsiT, eIsN, eNotN, tIsN, tNotN, eJoin, eSl, pN, eCal, eCal0, tYesM, isNonB, List.set_cons_zero, List.set_cons_succ, List.length_cons, List.length_nil, List.map_cons, List.map_nil, List.isEmpty_cons, List.isEmpty_nil, Bool.not_true, Bool.not_false, decide_true, decide_false, and_self, true_and, and_true, Int.reduceAdd, Int.reduceSub, Int.reduceMul, Int.reduceNeg, Int.reduceLE, Int.reduceLT, Int.reduceEq, Int.reduceNe, Int.reduceToNat, Int.reducePow, Nat.reduceAdd, Nat.reduceSub, Nat.reduceMul, Nat.reduceLeDiff, Nat.reduceLT, Nat.reduceEqDiff, Int.le_refl, Int.reduceBNe, Nat.reduceBNe, $ls,*])
local macro_rules | `(tactic| trivial) => `(tactic| (simp only [gNm, gTp, gsCons, gsNil, wipeE, Option.bind, List.set_cons_zero, List.set_cons_succ, List.length_cons, List.length_nil, if_true]; exact rfl))
/-! the law's bag behind the table -/
class TP where
  a : Addr
variable [TP]
/-- the table of the law's code object -/
abbrev T0 : D := .tab qLam TP.a
section
local macro_rules | `(tactic| trivial) => `(tactic| first
  | with_reducible refine ev_bind ?_
  | with_reducible refine ev_pure ?_
  | with_reducible refine ev_getR rfl ?_
  | with_reducible refine ev_getV rfl ?_
  | with_reducible refine ev_getO rfl ?_
  | with_reducible refine ev_add ?_
  | with_reducible refine ev_sub ?_
  | with_reducible refine ev_toint ?_
  | with_reducible refine ev_asB ?_
  | with_reducible refine ev_notD ?_
  | with_reducible refine ev_negD ?_
  | with_reducible refine ev_trB ?_
  | with_reducible refine ev_asI ?_
  | with_reducible refine ev_asS ?_
  | with_reducible refine ev_lt ?_
  | with_reducible refine ev_le ?_
  | with_reducible refine ev_gt ?_
  | with_reducible refine ev_ge ?_
  | with_reducible refine ev_eqI ?_
  | with_reducible refine ev_neI ?_
  | with_reducible refine ev_lenL ?_
  | with_reducible refine ev_lenT ?_
  | with_reducible refine ev_seqL ?_
  | with_reducible refine ev_seqT ?_
  | with_reducible refine ev_seqS ?_
  | with_reducible refine ev_zip ?_
  | with_reducible refine ev_enum ?_
  | with_reducible refine ev_slL ?_
  | with_reducible refine ev_listL ?_
  | with_reducible refine ev_listT ?_
  | with_reducible refine w_seq ?_
  | with_reducible refine w_nil ?_
  | with_reducible refine w_set ?_
  | with_reducible refine w_setO ?_
  | with_reducible refine w_ret ?_
  | with_reducible refine w_drop ?_
  | with_reducible refine w_par ?_
  | with_reducible refine w_if ?_)
theorem ev_draw {rest : Stt} {B : Bag} {c : Nat} {many : Int} {Q : D → Stt → Prop} {E : Err → Stt → Prop} (hB : B.Ok c) (hc : c < 2 ^ 60) (h0 : 0 < many) (h1 : many ≤ 1000000000000000000000000000000000000000000000000000000000000)
    (q : ∀ (r : Int) (B' : Bag), 0 ≤ r → r < many → B'.Ok (c + 1) → Q (.int r) (T0 :: B'.d :: rest)) : EV (CM.m_law_draw [.obj 1, .int many]) (T0 :: B.d :: rest) Q E := by
  obtain ⟨cs, p, b, mx, cn⟩ := B
  obtain ⟨hb0, hm0, hm1, hcn⟩ := hB
  simp only at hb0 hm0 hm1 hcn
  refine w_run (ρ := [.val (.obj 1), .val (.int many), .no, .no, .no]) rfl ?_
  unfold CM.b_law_draw
  simp only [Bag.d]
  -- the count
  refine w_seq (w_put rfl ?_)
  repeat (first | trivial | with_reducible refine ev_ix4 rfl ?_)
  refine ⟨4, _, 4, rfl, rfl, rfl, ?_⟩
  simp only [List.set_cons_zero, List.set_cons_succ]
  -- what comes behind
  have rest_ok : ∀ (ρ : Env) (p2 : Nat) (b2 mx2 : Int), 0 ≤ b2 → 0 ≤ mx2 → mx2 < 2147483648 → ρ[0]? = some (.val (.obj 1)) → ρ[1]? = some (.val (.int many)) → 5 ≤ ρ.length →
      WP (sSeq (sIf (tCmp gtD (e2 ixD (getR 0) (kI 2)) (kI 0)) (sSeq (sSet 3 (e2 modD (e1 intD (e2 ixD (getR 0) (kI 2))) (getR 1)))
  (sSeq (sPut 0 (kI 2) (e2 fdivD (e2 ixD (getR 0) (kI 2)) (getR 1)))
  (sRet (getV 3)))) sNil)
  (sSeq (sSet 4 (e2 modD (e1 intD (e2 addD (e2 mulD (e2 ixD (getR 0) (kI 3)) (e2 ixD (getR 0) (kI 3))) (e2 mulD (e2 ixD (getR 0) (kI 4)) (kI 9173)))) (kI 2147483629)))
  (sSeq (sPut 0 (kI 3) (e2 modD (e1 intD (e2 addD (e2 addD (e2 mulD (getR 4) (kI 18553)) (e2 mulD (e2 ixD (getR 0) (kI 3)) (kI 42773))) (kI 90007))) (kI 2147483587)))
  (sRet (e2 modD (e1 intD (e2 fdivD (e2 ixD (getR 0) (kI 3)) (kI 128))) (getR 1)))))) ρ (T0 :: .lst [.lst (cs.map D.int), .int p2, .int b2, .int mx2, .int ((cn : Int) + 1)] :: rest) (fun _ s' => Q .non s') Q NoF NoF E := by
    intro ρ p2 b2 mx2 hb hm hm2 e0 e1 hl
    obtain ⟨a0, a1, a2, a3, a4, ρ, rfl⟩ : ∃ a0 a1 a2 a3 a4 r, ρ = a0 :: a1 :: a2 :: a3 :: a4 :: r := by
      rcases ρ with _ | ⟨a0, _ | ⟨a1, _ | ⟨a2, _ | ⟨a3, _ | ⟨a4, r⟩⟩⟩⟩⟩ <;> first | (simp at hl; done) | (simp at hl; omega) | exact ⟨_, _, _, _, _, _, rfl⟩
    simp at e0 e1
    subst e0 e1
    repeat (first | trivial | with_reducible refine ev_ix2 rfl ?_)
    refine ⟨fun hk => ?_, fun hk => ?_⟩
    · have hk : 0 < b2 := of_decide_eq_true hk
      refine w_seq (w_set ?_)
      repeat (first | trivial | with_reducible refine ev_ix2 rfl ?_ | with_reducible refine ev_mod h0 ?_)
      refine w_put rfl ?_
      repeat (first | trivial | with_reducible refine ev_ix2 rfl ?_ | with_reducible refine ev_fdiv h0 h1 ?_)
      refine ⟨2, _, 2, rfl, rfl, rfl, ?_⟩
      simp only [List.set_cons_zero, List.set_cons_succ]
      repeat trivial
      exact q (b2 % many) ⟨cs, p2, b2 / many, mx2, cn + 1⟩ (Int.emod_nonneg _ (by omega)) (Int.emod_lt_of_pos _ h0) ⟨Int.ediv_nonneg hb (by omega), hm, hm2, by show cn + 1 ≤ c + 1; omega⟩
    · repeat (first | trivial | with_reducible refine ev_ix3 rfl ?_ | with_reducible refine ev_ix4 rfl ?_ | with_reducible refine ev_muls (by omega) (by omega) ?_ | with_reducible refine ev_mod (by decide) ?_)
      refine w_put rfl ?_
      have hp : (0 : Int) ≤ (mx2 * mx2 + ((cn : Int) + 1) * 9173) % 2147483629 ∧ (mx2 * mx2 + ((cn : Int) + 1) * 9173) % 2147483629 < 2147483629 := ⟨Int.emod_nonneg _ (by decide), Int.emod_lt_of_pos _ (by decide)⟩
      generalize (mx2 * mx2 + ((cn : Int) + 1) * 9173) % 2147483629 = late at hp ⊢
      repeat (first | trivial | with_reducible refine ev_ix3 rfl ?_ | with_reducible refine ev_muls (by omega) (by omega) ?_ | with_reducible refine ev_mod (by decide) ?_)
      refine ⟨3, _, 3, rfl, rfl, rfl, ?_⟩
      simp only [List.set_cons_zero, List.set_cons_succ]
      have hq : (0 : Int) ≤ (late * 18553 + mx2 * 42773 + 90007) % 2147483587 ∧ (late * 18553 + mx2 * 42773 + 90007) % 2147483587 < 2147483587 := ⟨Int.emod_nonneg _ (by decide), Int.emod_lt_of_pos _ (by decide)⟩
      generalize (late * 18553 + mx2 * 42773 + 90007) % 2147483587 = m3 at hq ⊢
      repeat (first | trivial | with_reducible refine ev_ix3 rfl ?_ | with_reducible refine ev_fdiv (by decide) (by decide) ?_ | with_reducible refine ev_mod h0 ?_)
      exact q (m3 / 128 % many) ⟨cs, p2, b2, m3, cn + 1⟩ (Int.emod_nonneg _ (by omega)) (Int.emod_lt_of_pos _ h0) ⟨hb, hq.1, by show m3 < _; omega, by show cn + 1 ≤ c + 1; omega⟩
  refine w_seq (w_if ?_)
  repeat (first | trivial | with_reducible refine ev_ix2 rfl ?_)
  refine ev_if (fun hk => ?_) (fun hk => ?_)
  · repeat (first | trivial | with_reducible refine ev_ix1 rfl ?_ | with_reducible refine ev_ix0 rfl ?_)
    refine ⟨fun hk2 => ?_, fun hk2 => ?_⟩
    · have hk2 := of_decide_eq_true hk2
      rw [List.length_map] at hk2
      have hp : p < cs.length := by omega
      refine w_seq (w_set ?_)
      repeat (first | trivial | with_reducible refine ev_ix1 rfl ?_ | with_reducible refine ev_ix0 rfl ?_)
      refine ev_ixL (d := .int cs[p]) (by rw [atI_map, List.getElem?_eq_getElem hp]; rfl) ?_
      refine w_seq (w_put rfl ?_)
      repeat (first | trivial | with_reducible refine ev_ix1 rfl ?_)
      refine ⟨1, _, 1, rfl, rfl, rfl, ?_⟩
      simp only [List.set_cons_zero, List.set_cons_succ]
      refine w_if ?_
      repeat (first | trivial | with_reducible refine ev_pow (k := 1000000000000000000) (by decide) (by decide) (by decide) (by decide) ?_)
      refine ⟨fun hk3 => ?_, fun hk3 => ?_⟩
      · refine w_put rfl ?_
        repeat trivial
        refine ⟨2, _, 2, rfl, rfl, rfl, ?_⟩
        simp only [List.set_cons_zero, List.set_cons_succ]
        exact rest_ok _ (p + 1) cs[p] mx (by have := of_decide_eq_true hk3; omega) hm0 hm1 rfl rfl (by simp)
      · refine w_put rfl ?_
        repeat (first | trivial | with_reducible refine ev_ix3 rfl ?_ | with_reducible refine ev_muls (by omega) (by omega) ?_ | with_reducible refine ev_mod (by decide) ?_)
        refine ⟨3, _, 3, rfl, rfl, rfl, ?_⟩
        simp only [List.set_cons_zero, List.set_cons_succ]
        exact rest_ok _ (p + 1) b _ hb0 (Int.emod_nonneg _ (by decide)) (Int.lt_trans (Int.emod_lt_of_pos _ (by decide)) (by decide)) rfl rfl (by simp)
    · refine w_nil ?_
      exact rest_ok _ p b mx hb0 hm0 hm1 rfl rfl (by simp)
  · refine ev_pure ?_
    refine ⟨fun z => Bool.noConfusion z, fun _ => ?_⟩
    refine w_nil ?_
    exact rest_ok _ p b mx hb0 hm0 hm1 rfl rfl (by simp)
theorem ev_ofL {rest : Stt} {B : Bag} {c : Nat} {xs : List D} {Q : D → Stt → Prop} {E : Err → Stt → Prop} (hB : B.Ok c) (hc : c < 2 ^ 60) (h0 : 0 < xs.length) (h1 : xs.length < 2 ^ 60)
    (q : ∀ (k : Nat) (hk : k < xs.length) (B' : Bag), B'.Ok (c + 1) → Q xs[k] (T0 :: B'.d :: rest)) : EV (CM.m_law_of [.obj 1, .lst xs]) (T0 :: B.d :: rest) Q E := by
  refine w_run (ρ := [.val (.obj 1), .val (.lst xs)]) rfl ?_
  unfold CM.b_law_of
  refine w_ret ?_
  repeat trivial
  refine ev_call ⟨rfl, rfl, rfl⟩ rfl (ev_draw hB hc (by omega) (by omega) fun r B' hr1 hr2 hB' => ?_)
  obtain ⟨k, rfl⟩ : ∃ k : Nat, r = (k : Int) := ⟨r.toNat, by omega⟩
  have hk : k < xs.length := by omega
  exact ev_ixL (by rw [atI0]; exact List.getElem?_eq_getElem hk) (q k hk B' hB')
theorem ev_ofS {rest : Stt} {B : Bag} {c : Nat} {z : Str} {Q : D → Stt → Prop} {E : Err → Stt → Prop} (hB : B.Ok c) (hc : c < 2 ^ 60) (h0 : 0 < z.length) (h1 : z.length ≤ SIZE)
    (q : ∀ (k : Nat) (hk : k < z.cps.toList.length) (B' : Bag), B'.Ok (c + 1) → Q (.str ⟨#[z.cps.toList[k]]⟩) (T0 :: B'.d :: rest)) : EV (CM.m_law_of [.obj 1, .str z]) (T0 :: B.d :: rest) Q E := by
  have hl : z.cps.toList.length = z.length := by simp [Str.length]
  refine w_run (ρ := [.val (.obj 1), .val (.str z)]) rfl ?_
  unfold CM.b_law_of
  refine w_ret ?_
  repeat (first | trivial | with_reducible refine ev_lenS h1 ?_)
  refine ev_call ⟨rfl, rfl, rfl⟩ rfl (ev_draw hB hc (by omega) (by unfold SIZE at h1; omega) fun r B' hr1 hr2 hB' => ?_)
  obtain ⟨k, rfl⟩ : ∃ k : Nat, r = (k : Int) := ⟨r.toNat, by omega⟩
  have hk : k < z.cps.toList.length := by omega
  exact ev_ixS h1 hk (q k hk B' hB')
end
/-- the store begins with a bag of at most c draws -/
def Bg (c : Nat) (rest s : Stt) : Prop := ∃ B : Bag, B.Ok c ∧ s = T0 :: B.d :: rest
theorem Bg.le {c c' : Nat} {rest s : Stt} (h : Bg c rest s) (l : c ≤ c') : Bg c' rest s := by
  obtain ⟨B, h, e⟩ := h
  exact ⟨B, ⟨h.b0, h.m0, h.m1, Nat.le_trans h.cn l⟩, e⟩
section
variable {α : Type} {c : Nat} {rest s : Stt} {E : Err → Stt → Prop} {Q : D → Stt → Prop} {ρ : Env}
theorem ev_dr {many : Int} (hB : Bg c rest s) (hc : c < 2 ^ 60) (h0 : 0 < many) (h1 : many ≤ 1000000000000000000000000000000000000000000000000000000000000) (q : ∀ (r : Int) (s' : Stt), 0 ≤ r → r < many → Bg (c + 1) rest s' → Q (.int r) s') : EV (CM.m_law_draw [.obj 1, .int many]) s Q E := by
  obtain ⟨B, hB, rfl⟩ := hB
  exact ev_draw hB hc h0 h1 fun r B' h0 h1 hB' => q r _ h0 h1 ⟨B', hB', rfl⟩
theorem ev_ol {xs : List D} (hB : Bg c rest s) (hc : c < 2 ^ 60) (h0 : 0 < xs.length) (h1 : xs.length < 2 ^ 60) (q : ∀ (k : Nat) (hk : k < xs.length) (s' : Stt), Bg (c + 1) rest s' → Q xs[k] s') : EV (CM.m_law_of [.obj 1, .lst xs]) s Q E := by
  obtain ⟨B, hB, rfl⟩ := hB
  exact ev_ofL hB hc h0 h1 fun k hk B' hB' => q k hk _ ⟨B', hB', rfl⟩
/-- .. by what holds of all items -/
theorem ev_olP {xs : List D} (P : D → Prop) (hP : ∀ x ∈ xs, P x) (hB : Bg c rest s) (hc : c < 2 ^ 60) (h0 : 0 < xs.length) (h1 : xs.length < 2 ^ 60) (q : ∀ (x : D) (s' : Stt), P x → Bg (c + 1) rest s' → Q x s') : EV (CM.m_law_of [.obj 1, .lst xs]) s Q E :=
  ev_ol hB hc h0 h1 fun k hk s' hs => q _ _ (hP _ (List.getElem_mem hk)) hs
theorem ev_os {z : Str} (hB : Bg c rest s) (hc : c < 2 ^ 60) (h0 : 0 < z.length) (h1 : z.length ≤ 1000000) (q : ∀ (ch : Nat) (s' : Stt), ch ∈ z.cps.toList → Bg (c + 1) rest s' → Q (.str ⟨#[ch]⟩) s') : EV (CM.m_law_of [.obj 1, .str z]) s Q E := by
  obtain ⟨B, hB, rfl⟩ := hB
  exact ev_ofS hB hc h0 h1 fun k hk B' hB' => q _ _ (List.getElem_mem hk) ⟨B', hB', rfl⟩
/-- the law's bag, taken into the store -/
theorem ev_bg {ns : List Int} {s : Stt} (q : ∀ (d : D), (∀ rest, Bg 0 rest (T0 :: d :: rest)) → Q d s) : EV (CM.m_law_bag [.lst (ns.map D.int)]) s Q E := ev_bag fun B hB => q B.d fun rest => ⟨B, hB, rfl⟩
/-- .. that draws: k draws at most a turn -/
def LcB (g : D → Env → Option Env) (e : Env → M D) (ρ : Env) (Q : D → Stt → Prop) (ds : List D) (s0 : Stt) (_u : U5 g e Q := ⟨⟩) : Prop := ds.length < 1000000 ∧ ∃ (rest : Stt) (c k : Nat) (P : Nat → D → Prop), Bg c rest s0 ∧
    (∀ i d s1, ds[i]? = some d → i < ds.length → Bg (c + i * k) rest s1 → ∃ ρ', g d ρ = some ρ' ∧ EV (e ρ') s1 (fun y s3 => P i y ∧ Bg (c + i * k + k) rest s3) NoE) ∧
    ∀ ys s', ys.length = ds.length → (∀ i y, ys[i]? = some y → P i y) → Bg (c + ds.length * k) rest s' → Q (.lst ys) s'
theorem LcB.mk {g : D → Env → Option Env} {e : Env → M D} {ds : List D} (k : Nat) (P : Nat → D → Prop) (hz : ds.length < 1000000) (hB : Bg c rest s)
    (hg : ∀ i d s1, ds[i]? = some d → i < ds.length → Bg (c + i * k) rest s1 → ∃ ρ', g d ρ = some ρ' ∧ EV (e ρ') s1 (fun y s3 => P i y ∧ Bg (c + i * k + k) rest s3) NoE)
    (q : ∀ ys s', ys.length = ds.length → (∀ i y, ys[i]? = some y → P i y) → Bg (c + ds.length * k) rest s' → Q (.lst ys) s') : LcB g e ρ Q ds s := ⟨hz, rest, c, k, P, hB, hg, q⟩
theorem ev_lcB {f : Env → M (List D)} {g : D → Env → Option Env} {e : Env → M D} {vs : List Nat} (h : EV (f ρ) s (fun ds s0 => LcB g e (wipeE ρ vs) Q ds s0) E) : EV (lcD f g tYesM e vs ρ) s Q E := by
  refine ev_lc (ev_imp h (fun ds s0 ⟨hz, rest, c, k, P, hB, hg, q⟩ => ⟨hz, fun i acc s' => Bg (c + i * k) rest s' ∧ acc.length = i ∧ ∀ j y, acc[j]? = some y → P j y, ⟨by simpa using hB, rfl, by simp⟩, ?_, ?_⟩) fun _ _ z => z)
  · rintro i d acc s' hd ⟨hb, hl, hp⟩
    obtain ⟨ρ', e1, h2⟩ := hg i d s' hd (List.getElem?_eq_some_iff.mp hd).1 hb
    refine ⟨ρ', e1, ?_⟩
    show EV (pure true) _ _ _
    refine ⟨fun _ => ev_imp h2 ?_ (fun _ _ z => z), fun z => Bool.noConfusion z⟩
    rintro y s3 ⟨hy, hb3⟩
    refine ⟨hb3.le (by rw [Nat.succ_mul]; omega), by simp [hl], fun j z hz2 => ?_⟩
    by_cases hj : j < acc.length
    · rw [List.getElem?_append_left hj] at hz2; exact hp j z hz2
    · have hj2 : j = acc.length := by
        have := (List.getElem?_eq_some_iff.mp hz2).1
        simp at this; omega
      subst hj2
      rw [List.getElem?_append_right (Nat.le_refl _)] at hz2
      simp at hz2
      subst hz2
      rw [hl]; exact hy
  · rintro acc s' ⟨hb, hl, hp⟩
    exact q acc s' hl hp hb
/-- a for over n turns, at most k draws a turn; I: what holds of the names -/
def ForB (g : D → Env → Option Env) (m : SM) (ρ : Env) (N : Env → Stt → Prop) (R : D → Stt → Prop) (E : Err → Stt → Prop) (ds : List D) (s0 : Stt) (_u : U6 g m N R E := ⟨⟩) : Prop := ∃ (rest : Stt) (c k : Nat) (I : Nat → Env → Prop), Bg c rest s0 ∧ I 0 ρ ∧
    (∀ i d ρ s, ds[i]? = some d → i < ds.length → I i ρ → Bg (c + i * k) rest s → ∃ ρ', g d ρ = some ρ' ∧ WP m ρ' s (fun ρ s => I (i + 1) ρ ∧ Bg (c + i * k + k) rest s) R N (fun ρ s => I (i + 1) ρ ∧ Bg (c + i * k + k) rest s) E) ∧
    ∀ ρ s, I ds.length ρ → Bg (c + ds.length * k) rest s → N ρ s
theorem ForB.mk {g : D → Env → Option Env} {m : SM} {N : Env → Stt → Prop} {R : D → Stt → Prop} {ds : List D} (k : Nat) (I : Nat → Env → Prop) (hB : Bg c rest s) (h0 : I 0 ρ)
    (hs : ∀ i d ρ s, ds[i]? = some d → i < ds.length → I i ρ → Bg (c + i * k) rest s → ∃ ρ', g d ρ = some ρ' ∧ WP m ρ' s (fun ρ s => I (i + 1) ρ ∧ Bg (c + i * k + k) rest s) R N (fun ρ s => I (i + 1) ρ ∧ Bg (c + i * k + k) rest s) E)
    (hd : ∀ ρ s, I ds.length ρ → Bg (c + ds.length * k) rest s → N ρ s) : ForB g m ρ N R E ds s := ⟨rest, c, k, I, hB, h0, hs, hd⟩
theorem w_forB {f : Env → M (List D)} {g : D → Env → Option Env} {m : SM} {N B C : Env → Stt → Prop} {R : D → Stt → Prop} (h : EV (f ρ) s (fun ds s0 => ForB g m ρ N R E ds s0) E) : WP (sForM f g m) ρ s N R B C E := by
  refine w_forI (ev_imp h (fun ds s0 ⟨rest, c, k, I, hB, h0, hs, hd⟩ => ⟨fun i ρ s => I i ρ ∧ Bg (c + i * k) rest s, ⟨h0, by simpa using hB⟩, ?_, ?_⟩) fun _ _ z => z)
  · rintro i d ρ s e ⟨hi, hb⟩
    obtain ⟨ρ', e1, w⟩ := hs i d ρ s e (List.getElem?_eq_some_iff.mp e).1 hi hb
    have key : ∀ ρ s, I (i + 1) ρ ∧ Bg (c + i * k + k) rest s → I (i + 1) ρ ∧ Bg (c + (i + 1) * k) rest s := fun ρ s ⟨a, b⟩ => ⟨a, b.le (by rw [Nat.succ_mul]; omega)⟩
    exact ⟨ρ', e1, w_imp w key (fun _ _ z => z) (fun _ _ z => z) key fun _ _ z => z⟩
  · rintro ρ s ⟨hi, hb⟩
    exact hd ρ s hi hb
end
theorem Bg.pst {c : Nat} {s : Stt} (h : Bg c [] s) : PSt s := fun n => by
  obtain ⟨B, _, rfl⟩ := h
  unfold Bag.d T0
  simp only [D.ltL, D.lt, ltL_ints, Bool.and_self]

end PV.LW
end

section
namespace PV.LW
open PySem PySem.Spec L2
open PyProof.Rows hiding St
local macro_rules | `(tactic| simp_all! [$ls,*]) => `(tactic| simp -dsimp (disch := first | assumption | omega | (simp only [List.length_cons, List.length_nil]; omega) | decide) only [s_brT, s_brF, s_pure, s_Mpure, s_bind, s_if, s_raise, s_getV0, s_getR0, s_getO0, s_getV, s_getR, s_seq, s_nil, s_set, s_setO, s_ret, s_drop, s_sif, s_par, s_slotT, s_slotF, s_add, s_sub, s_lt, s_le, s_gt, s_ge, s_toint, s_tointB, s_asB, s_notD, s_negD, s_absD, s_trB, s_trI, s_trL, s_trTu, s_trN, s_asI, s_asS, s_eqI, s_neI, s_eqB, s_neB, s_eqS, s_neS, s_ltS, s_leS, s_lenL, s_lenT, s_lenD, s_lenS, s_addS, s_addL, s_catL, s_mul, s_mod, s_fdiv, s_lst0, s_lst, s_tup, s_listL, s_listT, s_slL, s_slLL, s_slS, s_seqL, s_seqT, s_seqS, s_rng1, s_zip, s_enum, s_atM, s_inS, s_c1, s_c2, s_c3, s_c4, s_c5, s_k1, s_k2, s_k2', s_p1k1, s_isiAny1, s_isiAny0, s_iNI, s_iNS, s_iNB, s_iNL, s_iNT, s_iND, s_iBI, s_iBS, s_iBB, s_iBL, s_iBT, s_iBD, s_iII, s_iIS, s_iIB, s_iIL, s_iIT, s_iID, s_iSI, s_iSS, s_iSB, s_iSL, s_iST, s_iSD, s_iLI, s_iLS, s_iLB, s_iLL, s_iLT, s_iLD, s_iTI, s_iTS, s_iTB, s_iTL, s_iTT, s_iTD, s_iDI, s_iDS, s_iDB, s_iDL, s_iDT, s_iDD, wipeE, e1, e2, eNil, eCons, kI, kS, kB, kN, tCmp, tChn, eChn, tNot, tAnd, tOr, eAnd, eOr, eIf, eIsi, eIsiT, eIsN, eNotN, tIsN, tNotN, eJoin, eSl, pN, eCal, eCal0, tYesM, isNonB, List.set_cons_zero, List.set_cons_succ, List.length_cons, List.length_nil, List.map_cons, List.map_nil, List.isEmpty_cons, List.isEmpty_nil, Bool.not_true, Bool.not_false, decide_true, decide_false, and_self, true_and, and_true, Int.reduceAdd, Int.reduceSub, Int.reduceMul, Int.reduceNeg, Int.reduceLE, Int.reduceLT, Int.reduceEq, Int.reduceNe, Int.reduceToNat, Int.reducePow, Nat.reduceAdd, Nat.reduceSub, Nat.reduceMul, Nat.reduceLeDiff, Nat.reduceLT, Nat.reduceEqDiff, Int.le_refl, Int.reduceBNe, Nat.reduceBNe, $ls,*])
local macro_rules | `(tactic| trivial) => `(tactic| (simp only [gNm, gTp, gsCons, gsNil, wipeE, Option.bind, List.set_cons_zero, List.set_cons_succ, List.length_cons, List.length_nil, if_true]; exact rfl))
variable [TP]
section
variable {s : Stt} {Q : D → Stt → Prop} {E : Err → Stt → Prop}
abbrev HEAP : Str := Str.ofString "Heap"
abbrev CNT : Str := Str.ofString "_counts"
abbrev LET : Str := Str.ofString "abcdefghijklmnopqrstuvwxyz"
/-- what is_name tells of a text -/
def nm (z : Str) : Bool := decide (1 ≤ (z.length : Int)) && (decide ((z.length : Int) ≤ 6) && z.cps.toList.all fun c => decide (c ∈ LET.cps.toList))
theorem s_is_name {z : Str} (hz : z.length ≤ 1000000) : EV (m_is_name [.str z]) s Q E ↔ Q (.bl (nm z)) s := by
  refine s_of_ev (w_run (ρ := [.val (.str z), .no]) rfl ?_)
  unfold b_is_name nm
  simp_all! []
  have hl : (chrD z).length = z.length := by simp [chrD, Str.length]
  refine br_intro (fun h1 => br_intro (fun h2 => ?_) (fun h2 => ?_)) (fun h1 => ?_)
  · simp at h1 h2
    have : ¬ (z.length : Int) ≤ 6 := by omega
    simp_all! []
    simp [this]
  · simp only [Bool.not_eq_false', decide_eq_true_eq] at h1 h2
    simp_all! []
    refine ev_lcF ?_
    simp_all! []
    refine LcF.mk (fun d => match d with
      | .str x => .bl (decide (x.cps.toList.headD 0 ∈ LET.cps.toList))
      | _ => .non) (by rw [hl]; omega) (fun d hd => ?_) ?_
    · obtain ⟨c, _, rfl⟩ := List.mem_map.mp hd
      refine ⟨_, by trivial, ?_⟩
      simp_all! []
      rfl
    · unfold chrD
      rw [List.map_map]
      show EV (allD (.lst (z.cps.toList.map fun c => .bl (decide (c ∈ LET.cps.toList))))) s _ _
      rw [s_all]
      simp [h1, h2]
  · simp at h1
    have : ¬ 1 ≤ (z.length : Int) := by omega
    simp_all! []
    simp [this]
theorem nm_len {z : Str} (h : nm z = true) : 1 ≤ z.length ∧ z.length ≤ 6 := by
  unfold nm at h
  simp only [Bool.and_eq_true, decide_eq_true_eq] at h
  omega
theorem s_is_int {i : Int} : EV (m_is_integer [.int i]) s Q E ↔ Q (.bl true) s := by
  refine s_of_ev (w_run (ρ := [.val (.int i)]) rfl ?_)
  unfold b_is_integer
  simp_all! []
theorem s_is_number {i j : Int} : EV (m_is_number [.int i, .int j]) s Q E ↔ Q (.bl (decide (j ≤ i))) s := by
  refine s_of_ev (w_run (ρ := [.val (.int i), .val (.int j)]) rfl ?_)
  unfold b_is_number
  simp_all! [s_is_int]
/-- a heap -/
def hp (ps : AL) : D := .ins HEAP [(CNT, .dic (dcP ps))]
/-- a dict of names and numbers, not too wide -/
structure Dk (ps : AL) : Prop where
  dn : DN ps
  nm : ∀ p ∈ ps, nm p.1 = true
  nn : ∀ p ∈ ps, 0 ≤ p.2
  lg : ∀ p ∈ ps, p.2.natAbs.log2 < 1000
  wd : ps.length < 60
theorem run_init {ps : AL} (h : Dk ps) : EV (m_Heap_init [.obj s.length, .dic (dcP ps)]) (s ++ [.ins HEAP []]) (fun d s' => d = .non ∧ s' = s ++ [.ins HEAP [(CNT, .dic (dcP (normP ps)))]]) NoE := by
  refine w_run (ρ := [.val (.obj s.length), .val (.dic (dcP ps)), .no, .no]) rfl ?_
  unfold b_Heap_init
  simp_all! [s_seqD]
  refine w_forP ?_
  simp_all! [s_seqD]
  refine ForP.mk (fun i ρ => ∃ a, ρ = [.val (.obj s.length), .val (.dic (dcP ps)), .val (.dic (dcP ps)), a]) ⟨_, rfl⟩ ?_ ?_
  · rintro i d ρ hd hi ⟨a, rfl⟩
    rw [keys_dcP] at hd
    obtain ⟨p, hp, rfl⟩ := List.mem_map.mp (List.mem_of_getElem? hd)
    have hn := h.nm p hp
    have hl := nm_len hn
    refine ⟨_, by trivial, ?_⟩
    simp_all! [s_is_name (z := p.1) (by omega), hn]
    exact ⟨_, rfl⟩
  · rintro ρ ⟨a, rfl⟩
    simp_all! [s_seqD]
    refine w_forP ?_
    simp_all! [s_seqD]
    refine ForP.mk (fun i ρ => ∃ a, ρ = [.val (.obj s.length), .val (.dic (dcP ps)), .val (.dic (dcP ps)), a]) ⟨_, rfl⟩ ?_ ?_
    · rintro i d ρ hd hi ⟨a, rfl⟩
      rw [keys_dcP] at hd
      obtain ⟨p, hp, rfl⟩ := List.mem_map.mp (List.mem_of_getElem? hd)
      have hn := h.nn p hp
      have hg : getK (dcP ps) (.inr p.1) = some (.int p.2) := by rw [getK_dcP, cnt_of h.dn hp]; rfl
      refine ⟨_, by trivial, ?_⟩
      simp_all! [s_ixDc hg, s_is_number, hn]
      exact ⟨_, rfl⟩
    · rintro ρ ⟨a, rfl⟩
      refine (s_fldS (s0 := s) (v := .dic (dcP (normP ps))) ?_ rfl rfl).mpr ?_
      · refine ev_dcP (ks := dcP ((srtS (ps.map (·.1))).filterMap (posP ps))) ?_
        refine ev_lcP ?_
        simp_all! [s_listDc, s_sortS (strs_keys ps) (by rw [List.length_map]; have := h.wd; omega)]
        refine LcP.mk (fun d => match d with
          | .str z => (posP ps z).map fun p => .tup [.str p.1, .int p.2]
          | _ => none) ?_ ?_ ?_
        · have e : (srtS (ps.map (·.1))).length = (ps.map (·.1)).length := (srtBy_perm ltS _).length_eq
          have := h.wd
          rw [List.length_map, e, List.length_map]; omega
        · intro d hd
          obtain ⟨z, hz, rfl⟩ := List.mem_map.mp hd
          have hz' : z ∈ ps.map (·.1) := (srtBy_perm ltS _).mem_iff.mp hz
          obtain ⟨n, e1, e2⟩ := cnt_mem hz'
          have hg : getK (dcP ps) (.inr z) = some (.int n) := by rw [getK_dcP, e1]; rfl
          refine ⟨_, by trivial, ?_⟩
          simp_all! [s_ixDc hg]
          refine br_intro (fun h1 => ?_) (fun h1 => ?_)
          · have h1 : 0 < n := by simpa using h1
            unfold pr
            simp_all! [s_ixDc hg]
            simp [posP, e1, h1]
          · have h1 : ¬ 0 < n := by simpa using h1
            simp [posP, e1, h1]
        · refine ⟨_, rfl, ?_, ?_, rfl⟩
          · rw [List.filterMap_map]
            have : (fun z => (posP ps z).map fun p : Str × Int => D.tup [.str p.1, .int p.2]) = fun z => (posP ps z).map fun p : Str × Int => D.tup [.str p.1, .int p.2] := rfl
            show pairsOf ((srtS (ps.map (·.1))).filterMap fun z => (posP ps z).map fun p : Str × Int => D.tup [.str p.1, .int p.2]) = _
            rw [← pairs_tupP]
            unfold tupP
            rw [List.map_filterMap]
          · show D.dic (mergeD (dcP []) _) = _
            rw [mergeD_dcP]; rfl
      · exact ⟨rfl, rfl⟩
theorem hp_lt {n : Nat} {s : Stt} (hs : PSt s) (ps : AL) : D.ltL n (s ++ [hp ps]) = true := by
  rw [ltL_app, hs n, Bool.true_and, D.ltL, D.ltL, Bool.and_true]
  unfold hp
  rw [D.lt, D.ltF, D.ltF, Bool.and_true, D.lt, ltK_dcP]
theorem s_mkH {ps : AL} (h : Dk ps) (hs : PSt s) : EV (mkM HEAP 2 (fmtX dd_Heap_init_d [0, 1]) m_Heap_init [.dic (dcP ps)] []) s Q E ↔ Q (hp (normP ps)) s := by
  obtain ⟨d, s', e, rfl, rfl⟩ := ev_get (run_init (s := s) h)
  exact s_mk rfl rfl e (hp_lt hs (normP ps))
theorem s_chk1 {α : Type} {d : D} {x : M α} {Q : α → Stt → Prop} : EV (chkM (decide ([d].length = 1 ∧ ([] : List D).length = 0)) x) s Q E ↔ EV x s Q E := s_chk rfl
theorem s_eq {a b : AL} (ha : OkP a) (hb : OkP b) : EV (m_Heap_eq [hp a, hp b]) s Q E ↔ Q (.bl (decide (a = b))) s := by
  refine s_of_ev (w_run (ρ := [.val (hp a), .val (hp b)]) rfl ?_)
  unfold b_Heap_eq hp
  simp_all! [s_isiC (l := sbt_Heap) (c := HEAP) (b := true) (by decide +kernel), s_fld1, s_eqDc (eqDic_ok ha hb)]
theorem s_pairsH {ps : AL} (h : DN ps) (hl : ps.length < 1000) : EV (m_Heap_pairs [hp ps]) s Q E ↔ Q (.lst (tupP ps)) s := by
  refine s_of_ev (w_run (ρ := [.val (hp ps), .no]) rfl ?_)
  unfold b_Heap_pairs hp
  simp_all! []
  refine ev_lcF ?_
  simp_all! [s_fld1, s_seqD]
  refine LcF.mk (fun d => match d with
    | .str z => .tup [.str z, .int ((cnt ps z).getD 0)]
    | _ => .non) (by rw [List.length_map, len_dcP]; omega) (fun d hd => ?_) ?_
  · rw [keys_dcP] at hd
    obtain ⟨p, hp, rfl⟩ := List.mem_map.mp hd
    have hg : getK (dcP ps) (.inr p.1) = some (.int p.2) := by rw [getK_dcP, cnt_of h hp]; rfl
    refine ⟨_, by trivial, ?_⟩
    simp_all! [s_fld1, s_ixDc hg]
    simp [cnt_of h hp]
  · rw [keys_dcP, List.map_map]
    refine ⟨?_, rfl⟩
    congr 1
    unfold tupP
    refine List.map_congr_left fun p hp => ?_
    simp [Function.comp, cnt_of h hp]
theorem rows_fit {ps : AL} (h : Dk ps) : ((ps.map rowP).map (·.length)).sum + (ps.map rowP).length * (Str.ofString " + ").length ≤ 100000 := by
  have h1 : ∀ z ∈ ps.map rowP, z.length ≤ 407 := fun z hz => by
    obtain ⟨p, hp, rfl⟩ := List.mem_map.mp hz
    exact row_len (h.nn p hp) (h.lg p hp) (nm_len (h.nm p hp)).2
  have h2 := sum_le (f := fun z : Str => z.length) (k := 407) h1
  have h3 : (ps.map rowP).length = ps.length := List.length_map ..
  have h4 := h.wd
  rw [h3] at h2 ⊢
  rw [pl_len]
  have : ps.length * 407 ≤ 60 * 407 := Nat.mul_le_mul_right _ (by omega)
  omega
theorem s_text {ps : AL} (h : Dk ps) : EV (m_Heap_text [hp ps]) s Q E ↔ Q (.str (txtP ps)) s := by
  refine s_of_ev (w_run (ρ := [.val (hp ps), .no]) rfl ?_)
  unfold b_Heap_text hp
  simp_all! [s_fld1, len_dcP]
  refine br_intro (fun h1 => ?_) (fun h1 => ?_)
  · have : ps = [] := by
      have h1 : (ps.length : Int) = 0 := by simpa using h1
      exact List.eq_nil_of_length_eq_zero (by omega)
    subst this
    simp_all! []
    rfl
  · have hne : ps ≠ [] := fun e => by subst e; simp at h1
    simp_all! []
    refine ev_lcF ?_
    simp_all! [s_fld1, s_seqD]
    refine LcF.mk (fun d => match d with
      | .str z => .str (rowP (z, (cnt ps z).getD 0))
      | _ => .non) (by rw [List.length_map, len_dcP]; have := h.wd; omega) (fun d hd => ?_) ?_
    · rw [keys_dcP] at hd
      obtain ⟨p, hp, rfl⟩ := List.mem_map.mp hd
      have hg : getK (dcP ps) (.inr p.1) = some (.int p.2) := by rw [getK_dcP, cnt_of h.dn hp]; rfl
      have hl := (nm_len (h.nm p hp)).2
      have hk := h.lg p hp
      have hn := numS_len (h.nn p hp) hk
      refine ⟨_, by trivial, ?_⟩
      unfold fstD
      rw [s_bind, s_cat1 (z := numS p.2) (by unfold eFm; simp_all! [s_fld1, s_ixDc hg, s_fmtI (i := p.2) (by omega)]) (by rw [empty_app]; omega),
        s_catK (by rw [empty_app, Str.length_append, sp_len]; omega),
        s_cat1 (z := p.1) (by unfold eFm; simp_all! [s_fmtS (z := p.1) (by omega)]) (by rw [empty_app, Str.length_append, Str.length_append, sp_len]; omega), s_catN]
      refine ⟨rfl, ?_⟩
      show D.str (rowP (p.1, (cnt ps p.1).getD 0)) = _
      rw [cnt_of h.dn hp, empty_app]
      rfl
    · rw [keys_dcP, List.map_map]
      have e : ps.map ((fun d => match d with
        | D.str z => D.str (rowP (z, (cnt ps z).getD 0))
        | _ => .non) ∘ fun p : Str × Int => D.str p.1) = (ps.map rowP).map D.str := by
        rw [List.map_map]
        refine List.map_congr_left fun p hp => ?_
        simp [Function.comp, cnt_of h.dn hp]
      rw [e, s_joinS (by have := rows_fit h; omega)]
      refine ⟨?_, rfl⟩
      unfold txtP
      rw [if_neg hne]
theorem s_methH {x : AL} {nm : Str} {e : ME} {Q : ME → Stt → Prop} (h : (nm == CNT) = false) : EV (methK [(HEAP, e)] nm (hp x)) s Q E ↔ Q e s := s_methK h
theorem s_mN {x : AL} {e : ME} {Q : ME → Stt → Prop} : EV (methK [(HEAP, e)] (Str.ofString "names") (hp x)) s Q E ↔ Q e s := s_methH (by decide +kernel)
theorem s_mP {x : AL} {e : ME} {Q : ME → Stt → Prop} : EV (methK [(HEAP, e)] (Str.ofString "pairs") (hp x)) s Q E ↔ Q e s := s_methH (by decide +kernel)
theorem s_mT {x : AL} {e : ME} {Q : ME → Stt → Prop} : EV (methK [(HEAP, e)] (Str.ofString "text") (hp x)) s Q E ↔ Q e s := s_methH (by decide +kernel)
theorem s_c1q {a : D} {m : List D → M D} : EV (callM 1 0 ((1, fmt [0], m) : ME).fst ((1, fmt [0], m) : ME).snd.fst ((1, fmt [0], m) : ME).snd.snd [a] []) s Q E ↔ EV (m [a]) s Q E := s_c1
theorem s_dunH {x : AL} {y : D} {m : List D → M D} {F2 : D → D → M D} : EV (dunD [(HEAP, m)] F2 (hp x) y) s Q E ↔ EV (m [hp x, y]) s Q E := s_dun
def addP (a b : AL) : AL := mrgP [] ((a.map (·.1) ++ b.map (·.1)).map fun z => (z, (cnt a z).getD 0 + (cnt b z).getD 0))
def mapP (a : AL) (f : Str → Int) : AL := mrgP [] ((a.map (·.1)).map fun z => (z, f z))
abbrev DIG : Str := Str.ofString "0123456789"
theorem dig_mem {c : Nat} (h : 48 ≤ c ∧ c ≤ 57) : c ∈ DIG.cps.toList := by
  have e : DIG.cps.toList = [48, 49, 50, 51, 52, 53, 54, 55, 56, 57] := by decide +kernel
  rw [e]
  have : c = 48 ∨ c = 49 ∨ c = 50 ∨ c = 51 ∨ c = 52 ∨ c = 53 ∨ c = 54 ∨ c = 55 ∨ c = 56 ∨ c = 57 := by omega
  rcases this with h | h | h | h | h | h | h | h | h | h <;> (rw [h]; decide)
theorem zero_cps : (Str.ofString "0").cps.toList = [48] := by decide +kernel
theorem numS_ne0 {n : Nat} (h : 0 < n) : numS (n : Int) ≠ Str.ofString "0" := fun e => by
  obtain ⟨c, r, e2, hc⟩ := numS_pos h
  rw [e, zero_cps] at e2
  cases e2
  exact hc rfl
theorem s_figure {n : Nat} (h0 : 0 < n) (h1 : n < 10 ^ 60) : EV (m_is_figure [.str (numS (n : Int)), .int 60]) s Q E ↔ Q (.bl true) s := by
  obtain ⟨_, hlen⟩ := numS_int h1
  obtain ⟨c, r, ec, hc⟩ := numS_pos h0
  have hd := numS_digits (n := n)
  generalize hz : numS (n : Int) = z at hlen ec hd
  have hl : z.length = z.cps.toList.length := TL.len_tl z
  have hl1 : 1 ≤ z.length := by rw [hl, ec]; simp
  refine s_of_ev (w_run (ρ := [.val (.str z), .val (.int 60), .no]) rfl ?_)
  unfold b_is_figure
  have d1 : decide ((1 : Int) ≤ (z.length : Int)) = true := decide_eq_true (by omega)
  have d2 : decide ((z.length : Int) ≤ 60) = true := decide_eq_true (by omega)
  simp_all! [d1, d2]
  refine ev_lcF ?_
  simp_all! []
  refine LcF.mk (fun d => match d with
    | .str x => .bl (decide (x.cps.toList.headD 0 ∈ DIG.cps.toList))
    | _ => .non) (by unfold chrD; rw [List.length_map]; omega) (fun d hd => ?_) ?_
  · obtain ⟨c, _, rfl⟩ := List.mem_map.mp hd
    refine ⟨_, by trivial, ?_⟩
    simp_all! []
    rfl
  · unfold chrD
    rw [List.map_map]
    show EV (allD (.lst (z.cps.toList.map fun c => .bl (decide (c ∈ DIG.cps.toList))))) s _ _
    rw [s_all]
    have ea : (z.cps.toList.all fun c => decide (c ∈ DIG.cps.toList)) = true := by
      rw [List.all_eq_true]
      exact fun c hc => decide_eq_true (dig_mem (hd c hc))
    rw [ea]
    simp_all! []
    have e0 : decide (z = Str.ofString "0") = false := by
      refine decide_eq_false fun e => ?_
      rw [e, zero_cps] at ec
      cases ec
      exact hc rfl
    simp_all! [e0]
    refine ev_ixS (k := 0) (by show z.length ≤ 1000000; omega) (by rw [ec]; simp) ?_
    have eh : z.cps.toList[0]'(by rw [ec]; simp) = c := by simp [ec]
    rw [eh]
    have e1 : decide ((⟨#[c]⟩ : Str) = Str.ofString "0") = false := by
      refine decide_eq_false fun e => ?_
      have := congrArg (fun z : Str => z.cps.toList) e
      simp only [zero_cps] at this
      cases this
      exact hc rfl
    simp_all! [e1]
/-- a heap that can be read back -/
structure Gd (ps : AL) : Prop where
  ok : OkP ps
  nm : ∀ p ∈ ps, nm p.1 = true
  lt : ∀ p ∈ ps, p.2 < 10 ^ 60
  wd : ps.length < 60
theorem Gd.dk {ps : AL} (h : Gd ps) : Dk ps := ⟨h.ok.dn, h.nm, fun p hp => Int.le_of_lt (h.ok.pos p hp), fun p hp => by
  have h1 := h.ok.pos p hp
  have h2 := h.lt p hp
  have h3 : p.2.natAbs < 2 ^ 200 := by
    have : (10 : Int) ^ 60 ≤ 2 ^ 200 := by decide
    omega
  have := PySem.Flt.log2_lt_of (by decide : 0 < 200) h3
  omega, h.wd⟩
theorem nm_cps {z : Str} (h : nm z = true) : ∀ c ∈ z.cps.toList, 97 ≤ c ∧ c ≤ 122 := fun c hc => by
  unfold nm at h
  simp only [Bool.and_eq_true] at h
  have h1 := of_decide_eq_true (List.all_eq_true.mp h.2.2 c hc)
  have e : ∀ c ∈ LET.cps.toList, 97 ≤ c ∧ c ≤ 122 := by decide +kernel
  exact e c h1
theorem Gd.nat {ps : AL} (h : Gd ps) {p : Str × Int} (hp : p ∈ ps) : ∃ n : Nat, p.2 = (n : Int) ∧ 0 < n ∧ n < 10 ^ 60 := by
  have h1 := h.ok.pos p hp
  have h2 := h.lt p hp
  obtain ⟨n, e⟩ := Int.eq_ofNat_of_zero_le (Int.le_of_lt h1)
  rw [e] at h1 h2
  refine ⟨n, e, by omega, ?_⟩
  have : ((n : Int)) < ((10 ^ 60 : Nat) : Int) := h2
  exact Int.ofNat_lt.mp this
theorem row_free {ps : AL} (h : Gd ps) {p : Str × Int} (hp : p ∈ ps) : 43 ∉ TL.tl (rowP p) := by
  obtain ⟨n, e, h0, h1⟩ := h.nat hp
  unfold rowP
  rw [e, TL.tl_append, TL.tl_append, tl_sp]
  intro hm
  rcases List.mem_append.mp hm with hm | hm
  · rcases List.mem_append.mp hm with hm | hm
    · have := numS_digits (n := n) 43 hm; omega
    · simp at hm
  · have := nm_cps (h.nm p hp) 43 hm; omega
theorem row_split {ps : AL} (h : Gd ps) {p : Str × Int} (hp : p ∈ ps) : Txt.split (rowP p) (Str.ofString " ") = [numS p.2, p.1] := by
  obtain ⟨n, e, h0, h1⟩ := h.nat hp
  unfold rowP
  rw [e]
  refine split2 (fun hm => ?_) fun hm => ?_
  · have := numS_digits (n := n) 32 hm; omega
  · have := nm_cps (h.nm p hp) 32 hm; omega
theorem txt_ne0 {ps : AL} (h : Gd ps) (hne : ps ≠ []) : txtP ps ≠ Str.ofString "0" := fun e => by
  unfold txtP at e
  rw [if_neg hne] at e
  have e2 := split3 (parts := ps.map rowP) (fun z => hne (List.map_eq_nil_iff.mp z)) fun z hz => by
    obtain ⟨p, hp, rfl⟩ := List.mem_map.mp hz
    exact row_free h hp
  rw [e] at e2
  have e3 : Txt.split (Str.ofString "0") (Str.ofString " + ") = [Str.ofString "0"] := by decide +kernel
  rw [e3] at e2
  cases ps with
  | nil => exact hne rfl
  | cons p r =>
    rw [List.map_cons] at e2
    injection e2 with e4 e5
    have h1 : 32 ∈ TL.tl (rowP p) := by
      unfold rowP
      rw [TL.tl_append, TL.tl_append, tl_sp]
      simp
    rw [← e4] at h1
    have : TL.tl (Str.ofString "0") = [48] := by decide +kernel
    rw [this] at h1
    simp at h1
theorem take_succ {ps : AL} {i : Nat} {p : Str × Int} (h : ps[i]? = some p) : ps.take (i + 1) = ps.take i ++ [p] := by
  rw [List.take_succ, h]; rfl
theorem s_read {ps : AL} (h : Gd ps) (hs : PSt s) : EV (m_Heap_read [.str (txtP ps)]) s Q E ↔ Q (hp ps) s := by
  refine s_of_ev (w_run (ρ := [.val (.str (txtP ps)), .no, .no, .no, .no]) rfl ?_)
  unfold b_Heap_read
  simp_all! []
  refine w_forP ?_
  have key : ∀ (R1 R2 : SM) (ds : List D), ds = (ps.map rowP).map D.str → ForP (gNm 3) (sSeq (sSet 4 (eTx splitD (getR 3) (kS (Str.ofString " "))))
      (sSeq (sIf (tOr (tCmp neD (e1 lenD (getR 4)) (kI 2)) (tOr (tNot (e1 truD (eCal 2 0 2 (fmt [0, 1]) m_is_figure (eCons (e2 ixD (getR 4) (kI 0)) (eCons (kI 60) eNil)) eNil))) (tCmp eqD (e2 ixD (getR 4) (kI 0)) (kS (Str.ofString "0"))))) R1 sNil)
      (sSeq (sIf (tOr (tNot (e1 truD (eCal 1 0 1 (fmt [0]) m_is_name (eCons (e2 ixD (getR 4) (kI 1)) eNil) eNil))) (tCmp leD (e2 ixD (getR 4) (kI 1)) (getR 2))) R2 sNil)
      (sSeq (sSet 2 (e2 ixD (getR 4) (kI 1)))
      (sPut 1 (getR 2) (e1 intD (e2 ixD (getR 4) (kI 0)))))))) [.val (.str (txtP ps)), .own (.dic []), .val (.str (Str.ofString "")), .no, .no]
      (fun ρ s' => WP (sSeq (sFrz 1) (sRet (eMk HEAP 1 0 2 (fmtX dd_Heap_init_d [0, 1]) m_Heap_init (eCons (getV 1) eNil) eNil))) ρ s' (fun _ s' => (.non : D) = hp ps ∧ s' = s) (fun d s' => d = hp ps ∧ s' = s) NoF NoF NoE) (fun d s' => d = hp ps ∧ s' = s) NoE ds s := by
    rintro R1 R2 ds rfl
    refine ForP.mk (fun i ρ => ∃ x y z, ρ = [.val (.str (txtP ps)), .own (.dic (dcP (ps.take i))), .val (.str z), x, y] ∧ ∀ p, ps[i]? = some p → ltS z p.1 = true) ⟨_, _, _, rfl, fun p hp => ?_⟩ ?_ ?_
    · have hn := h.nm p (List.mem_of_getElem? hp)
      have h1 := (nm_len hn).1
      unfold ltS
      have e0 : (Str.ofString "").cps.toList = [] := by decide +kernel
      rw [e0]
      cases q : p.1.cps.toList with
      | nil =>
        have : p.1.length = 0 := by rw [TL.len_tl]; show p.1.cps.toList.length = 0; rw [q]; rfl
        omega
      | cons a l => simp
    · rintro i d ρ hd hi ⟨x, y, z, rfl, hlast⟩
      rw [List.getElem?_map, List.getElem?_map] at hd
      cases hpi : ps[i]? with
      | none => rw [hpi] at hd; cases hd
      | some p =>
        rw [hpi] at hd
        cases hd
        have hp := List.mem_of_getElem? hpi
        obtain ⟨n, en, h0, h1⟩ := h.nat hp
        have hsp := row_split h hp
        have hnm := h.nm p hp
        have hnl := nm_len hnm
        have hdk := h.dk
        have hrl := row_len (hdk.nn p hp) (hdk.lg p hp) hnl.2
        obtain ⟨hint, hnl2⟩ := numS_int h1
        have hlt := hlast p hpi
        refine ⟨_, by trivial, ?_⟩
        have hsplit : (((Str.ofString " ").length == 0) = false ∧ (rowP p).length + 2 ≤ SIZE) := ⟨by decide +kernel, by show _ ≤ 1000000; omega⟩
        simp_all! [eTx, s_split hsplit]
        rw [hsp, en, List.map_cons, List.map_cons, List.map_nil]
        have e0 : decide (numS (n : Int) = Str.ofString "0") = false := decide_eq_false (numS_ne0 h0)
        have e1 : decide (z.cps.toList < p.1.cps.toList) = true := hlt
        simp_all! [cast2, s_ix0, s_ix1, s_figure h0 h1, e0, s_is_name (z := p.1) (by omega), hnm, e1]
        refine w_putO (ks := dcP (ps.take i)) (by rfl) (by rw [len_dcP, List.length_take]; have := h.wd; omega) ?_
        simp_all! [s_ix0, s_intS hint (by omega)]
        have hnew : p.1 ∉ (ps.take i).map (·.1) := fun hm => by
            have hdn := h.ok.dn
            unfold DN at hdn
            have hi' := (List.getElem?_eq_some_iff.mp hpi).1
            rw [← List.take_append_drop i ps, List.map_append, List.nodup_append] at hdn
            exact hdn.2.2 _ hm _ (List.mem_map_of_mem (by rw [List.drop_eq_getElem_cons hi', (List.getElem?_eq_some_iff.mp hpi).2]; exact List.mem_cons_self)) rfl
        have hput : putD (dcP (ps.take i)) (.inr p.1) (.int (n : Int)) = dcP (ps.take (i + 1)) := by rw [putD_dcP, putP_new hnew, take_succ hpi, ← en]
        refine ⟨p.1, rfl, .val (.str (rowP p)), .val (.lst [.str (numS (n : Int)), .str p.1]), p.1, by rw [hput], fun p' hp' => ?_⟩
        · have hst := h.ok.st
          have h1 : (ps.map (·.1))[i]? = some p.1 := by rw [List.getElem?_map, hpi]; rfl
          have h2 : (ps.map (·.1))[i + 1]? = some p'.1 := by rw [List.getElem?_map, hp']; rfl
          obtain ⟨a1, b1⟩ := List.getElem?_eq_some_iff.mp h1
          obtain ⟨a2, b2⟩ := List.getElem?_eq_some_iff.mp h2
          have := List.pairwise_iff_getElem.mp hst i (i + 1) a1 a2 (by omega)
          rw [b1, b2] at this
          exact this
    · rintro ρ ⟨x, y, z, rfl, _⟩
      rw [List.length_map, List.length_map, List.take_length]
      rw [s_seq, s_frz0 rfl]
      simp_all! [eMk, s_chk1, s_mkH h.dk hs, h.ok.norm]
  by_cases hne : ps = []
  · subst hne
    have et : txtP [] = Str.ofString "0" := rfl
    rw [et] at key ⊢
    simp_all! []
    exact key _ _ [] rfl
  · have et : decide (txtP ps = Str.ofString "0") = false := decide_eq_false (txt_ne0 h hne)
    have htl : (txtP ps).length ≤ 100000 := by
      unfold txtP
      rw [if_neg hne]
      refine Nat.le_trans ?_ (rows_fit h.dk)
      rw [TL.join_eq]
      exact StrLaws.join_length_le _ _
    have hsplit : (((Str.ofString " + ").length == 0) = false ∧ (txtP ps).length + 2 ≤ SIZE) := ⟨by decide +kernel, by show _ ≤ 1000000; omega⟩
    have e3 : Txt.split (txtP ps) (Str.ofString " + ") = ps.map rowP := by
      unfold txtP
      rw [if_neg hne]
      exact split3 (fun z => hne (List.map_eq_nil_iff.mp z)) fun z hz => by
        obtain ⟨p, hp, rfl⟩ := List.mem_map.mp hz
        exact row_free h hp
    simp_all! [et, eTx, s_split hsplit]
    exact key _ _ _ (by rw [e3])
end

end PV.LW
end

section
namespace PV.LW
open PySem PySem.Spec L2
open PyProof.Rows hiding St
local macro_rules | `(tactic| simp_all! [$ls,*]) => `(tactic| simp -dsimp (disch := first | assumption | omega | (simp only [List.length_cons, List.length_nil]; omega) | decide) only [s_brT, s_brF, s_pure, s_Mpure, s_bind, s_if, s_raise, s_getV0, s_getR0, s_getO0, s_getV, s_getR, s_seq, s_nil, s_set, s_setO, s_ret, s_drop, s_sif, s_par, s_slotT, s_slotF, s_add, s_sub, s_lt, s_le, s_gt, s_ge, s_toint, s_tointB, s_asB, s_notD, s_negD, s_absD, s_trB, s_trI, s_trL, s_trTu, s_trN, s_asI, s_asS, s_eqI, s_neI, s_eqB, s_neB, s_eqS, s_neS, s_ltS, s_leS, s_lenL, s_lenT, s_lenD, s_lenS, s_addS, s_addL, s_catL, s_mul, s_mod, s_fdiv, s_lst0, s_lst, s_tup, s_listL, s_listT, s_slL, s_slLL, s_slS, s_seqL, s_seqT, s_seqS, s_rng1, s_zip, s_enum, s_atM, s_inS, s_c1, s_c2, s_c3, s_c4, s_c5, s_k1, s_k2, s_k2', s_p1k1, s_isiAny1, s_isiAny0, s_iNI, s_iNS, s_iNB, s_iNL, s_iNT, s_iND, s_iBI, s_iBS, s_iBB, s_iBL, s_iBT, s_iBD, s_iII, s_iIS, s_iIB, s_iIL, s_iIT, s_iID, s_iSI, s_iSS, s_iSB, s_iSL, s_iST, s_iSD, s_iLI, s_iLS, s_iLB, s_iLL, s_iLT, s_iLD, s_iTI, s_iTS, s_iTB, s_iTL, s_iTT, s_iTD, s_iDI, s_iDS, s_iDB, s_iDL, s_iDT, s_iDD, wipeE, e1, e2, eNil, eCons, kI, kS, kB, kN, tCmp, tChn, eChn, tNot, tAnd, tOr, eAnd, eOr, eIf, eIsi, eIsiT, eIsN, eNotN, tIsN, tNotN, eJoin, eSl, pN, eCal, eCal0, tYesM, isNonB, List.set_cons_zero, List.set_cons_succ, List.length_cons, List.length_nil, List.map_cons, List.map_nil, List.isEmpty_cons, List.isEmpty_nil, Bool.not_true, Bool.not_false, decide_true, decide_false, and_self, true_and, and_true, Int.reduceAdd, Int.reduceSub, Int.reduceMul, Int.reduceNeg, Int.reduceLE, Int.reduceLT, Int.reduceEq, Int.reduceNe, Int.reduceToNat, Int.reducePow, Nat.reduceAdd, Nat.reduceSub, Nat.reduceMul, Nat.reduceLeDiff, Nat.reduceLT, Nat.reduceEqDiff, Int.le_refl, Int.reduceBNe, Nat.reduceBNe, $ls,*])
local macro_rules | `(tactic| trivial) => `(tactic| (simp only [gNm, gTp, gsCons, gsNil, wipeE, Option.bind, List.set_cons_zero, List.set_cons_succ, List.length_cons, List.length_nil, if_true]; exact rfl))
variable [TP]
section
variable {s : Stt} {Q : D → Stt → Prop} {E : Err → Stt → Prop}
/-- a dict of names with counts above 0 -/
structure Pk (ps : AL) : Prop where
  dk : Dk ps
  pos : ∀ p ∈ ps, 0 < p.2
  lt : ∀ p ∈ ps, p.2 < 10 ^ 60
theorem Pk.gd {ps : AL} (h : Pk ps) : Gd (normP ps) := ⟨norm_ok h.dk.dn, fun p hp => h.dk.nm p (norm_mem h.dk.dn hp), fun p hp => h.lt p (norm_mem h.dk.dn hp), Nat.lt_of_le_of_lt (norm_len h.dk.dn) h.dk.wd⟩
theorem s_pairs {ps : AL} (h : Pk ps) : EV (m_law_pairs [.dic (dcP ps)]) s Q E ↔ Q (.lst (tupP (normP ps))) s := by
  refine s_of_ev (w_run (ρ := [.val (.dic (dcP ps)), .no]) rfl ?_)
  unfold b_law_pairs
  simp_all! []
  refine ev_lcP ?_
  have hw := h.dk.wd
  simp_all! [s_listDc, s_sortS (strs_keys ps) (by rw [List.length_map]; omega)]
  refine LcP.mk (fun d => match d with
    | .str z => (posP ps z).map fun p => .tup [.str p.1, .int p.2]
    | _ => none) ?_ ?_ ?_
  · have e : (srtS (ps.map (·.1))).length = (ps.map (·.1)).length := (srtBy_perm ltS _).length_eq
    rw [List.length_map, e, List.length_map]; omega
  · intro d hd
    obtain ⟨z, hz, rfl⟩ := List.mem_map.mp hd
    have hz' : z ∈ ps.map (·.1) := (srtBy_perm ltS _).mem_iff.mp hz
    obtain ⟨n, e1, e2⟩ := cnt_mem hz'
    have hn : 0 < n := h.pos _ e2
    have hn0 : decide (n = 0) = false := decide_eq_false (by omega)
    have hg : getK (dcP ps) (.inr z) = some (.int n) := by rw [getK_dcP, e1]; rfl
    refine ⟨_, by trivial, ?_⟩
    simp_all! [s_ixDc hg, hn0]
    simp [posP, e1, hn]
  · refine ⟨?_, rfl⟩
    congr 1
    rw [norm_eq h.dk.dn, List.filterMap_map]
    unfold tupP
    rw [List.map_filterMap]
    rfl
theorem row_sok {ps : AL} (h : Gd ps) : SOk (ps.map rowP) := fun z hz => by
  obtain ⟨p, hp, rfl⟩ := List.mem_map.mp hz
  obtain ⟨n, e, h0, h1⟩ := h.nat hp
  unfold PyData.strOk
  rw [← Array.all_toList, List.all_eq_true]
  intro c hc
  have hc : c ∈ TL.tl (rowP p) := hc
  unfold rowP at hc
  rw [e, TL.tl_append, TL.tl_append, tl_sp] at hc
  have : c < 0x110000 := by
    rcases List.mem_append.mp hc with hc | hc
    · rcases List.mem_append.mp hc with hc | hc
      · have := numS_digits (n := n) c hc; omega
      · have : c = 32 := by simpa using hc
        omega
    · have := nm_cps (h.nm p hp) c hc; omega
  exact decide_eq_true this
theorem s_ltext {ps : AL} (h : Pk ps) : EV (m_law_text [.dic (dcP ps)]) s Q E ↔ Q (.str (txtP (normP ps))) s := by
  refine s_of_ev (w_run (ρ := [.val (.dic (dcP ps)), .no, .no, .no]) rfl ?_)
  unfold b_law_text
  have g := h.gd
  have dk := g.dk
  have hw := g.wd
  have sp : ∀ {s : Stt} {Q : D → Stt → Prop} {E : Err → Stt → Prop}, EV (m_law_pairs [.dic (dcP ps)]) s Q E ↔ Q (.lst (tupP (normP ps))) s := fun {s Q E} => s_pairs h
  generalize normP ps = qs at *
  simp_all! []
  refine ev_lcF ?_
  simp_all! [sp]
  refine LcF.mk (fun d => match d with
    | .tup [.str z, .int n] => .str (rowP (z, n))
    | _ => .non) (by unfold tupP; rw [List.length_map]; omega) (fun d hd => ?_) ?_
  · obtain ⟨p, hp, rfl⟩ := List.mem_map.mp hd
    have hl := (nm_len (g.nm p hp)).2
    have hk := dk.lg p hp
    have hn := numS_len (dk.nn p hp) hk
    refine ⟨_, by trivial, ?_⟩
    simp_all! [s_strI (i := p.2) (by omega), s_addS (a := numS p.2) (b := Str.ofString " ") (by rw [sp_len]; omega), s_addS (a := numS p.2 ++ Str.ofString " ") (b := p.1) (by rw [Str.length_append, sp_len]; omega)]
    rfl
  · have e : (tupP qs).map (fun d => match d with
      | .tup [.str z, .int n] => D.str (rowP (z, n))
      | _ => .non) = (qs.map rowP).map D.str := by
      unfold tupP
      rw [List.map_map, List.map_map]
      rfl
    rw [e]
    simp_all! []
    rw [s_frz0 rfl]
    have e0 : (D.lst []) = .lst (([] : List Str).map D.str) := rfl
    have hf := rows_fit dk
    simp_all! []
    rw [e0, s_neLs (row_sok g) (fun _ h => by cases h)]
    simp_all! []
    refine br_intro (fun h1 => ?_) (fun h1 => ?_)
    · have hne : qs ≠ [] := fun e => by subst e; simp at h1
      simp_all! []
      rw [s_joinS (by omega)]
      refine ⟨?_, rfl⟩
      unfold txtP
      rw [if_neg hne]
    · have hne : qs = [] := by simpa using h1
      subst hne
      simp_all! []
      rfl
theorem s_hso {a ps : AL} (ha : OkP a) (hl : a.length < 1000) (h : Pk ps) (e : a = normP ps) : EV (m_law_heap_so [hp a, .dic (dcP ps)]) s Q E ↔ Q (.bl true) s := by
  refine s_of_ev (w_run (ρ := [.val (hp a), .val (.dic (dcP ps))]) rfl ?_)
  unfold b_law_heap_so
  have hi : ∀ {s : Stt} {Q : Bool → Stt → Prop} {E : Err → Stt → Prop}, EV (isiD (sbTab sbt_Heap) (hp a)) s Q E ↔ Q true s := fun {s Q E} => s_isiC (by decide +kernel)
  subst e
  simp_all! [hi, eMeth0, s_mP, s_c1q, s_pairsH ha.dn hl, s_pairs h, s_sm (dat_tupP (n := 8) (normP ps) hl)]
/-! the law's own drawing -/
def letS (w : Str) : Prop := ∀ c ∈ w.cps.toList, c ∈ LET.cps.toList
theorem cut_two {w : Str} {i : Int} (h : 0 ≤ i) : (cutS w none (some i)).length + (cutS w (some i) none).length ≤ w.length := by
  obtain ⟨k, rfl⟩ := Int.eq_ofNat_of_zero_le h
  unfold cutS
  rw [HT.sIx_nat, HT.sIx_nat, HT.sIx_none, HT.sIx_none]
  show (((w.cps.toList.drop 0).take (min k w.length - 0)).toArray).size + (((w.cps.toList.drop (min k w.length)).take (w.length - min k w.length)).toArray).size ≤ w.length
  simp only [List.size_toArray, List.length_take, List.length_drop, Array.length_toList]
  have : w.length = w.cps.size := rfl
  omega
theorem cut_len2 (w : Str) (lo hi : Option Int) : (cutS w lo hi).length ≤ w.length := by
  unfold cutS Str.length
  simp only [List.size_toArray, List.length_take, List.length_drop, Array.length_toList]
  omega
theorem cut_let {w : Str} (h : letS w) (lo hi : Option Int) : letS (cutS w lo hi) := fun c hc => by
  unfold cutS at hc
  exact h c (List.mem_of_mem_drop (List.mem_of_mem_take (by simpa using hc)))
theorem app_let {a b : Str} (ha : letS a) (hb : letS b) : letS (a ++ b) := fun c hc => by
  have hc : c ∈ TL.tl (a ++ b) := hc
  rw [TL.tl_append] at hc
  rcases List.mem_append.mp hc with h | h
  · exact ha c h
  · exact hb c h
theorem one_let {c : Nat} (h : c ∈ LET.cps.toList) : letS ⟨#[c]⟩ := fun d hd => by
  have : d = c := by simpa using hd
  subst this; exact h
theorem nm_let {w : Str} (h : letS w) (h1 : 1 ≤ w.length) (h2 : w.length ≤ 6) : nm w = true := by
  unfold nm
  have : (w.cps.toList.all fun c => decide (c ∈ LET.cps.toList)) = true := by
    rw [List.all_eq_true]; exact fun x hx => decide_eq_true (h x hx)
  rw [this, decide_eq_true (by omega : (1 : Int) ≤ (w.length : Int)), decide_eq_true (by omega : (w.length : Int) ≤ 6)]
  rfl
theorem let_len : LET.cps.toList.length = 26 := by decide +kernel
theorem let_len2 : LET.length = 26 := by decide +kernel
theorem s_asg2 {a b : D} {ρ : Env} {N B C : Env → Stt → Prop} {R : D → Stt → Prop} {f : Env → M D} (h : f ρ = pure (.tup [a, b])) (hl : 3 < ρ.length) : WP (sAsg (gTp 2 (gsCons (gNm 2) (gsCons (gNm 3) gsNil))) f) ρ s N R B C E ↔ N ((ρ.set 2 (.val a)).set 3 (.val b)) s := by
  have e : (gTp 2 (gsCons (gNm 2) (gsCons (gNm 3) gsNil))) (.tup [a, b]) ρ = some ((ρ.set 2 (.val a)).set 3 (.val b)) := by
    simp [gTp, gsCons, gNm, gsNil, hl, show 2 < ρ.length by omega]
  unfold WP sAsg sB
  rw [h]
  show (match (match (gTp 2 (gsCons (gNm 2) (gsCons (gNm 3) gsNil))) (.tup [a, b]) ρ with | some ρ' => SR.nx ρ' s | none => .no) with
    | .nx ρ' s' => N ρ' s'
    | .rt d s' => R d s'
    | .bk ρ' s' => B ρ' s'
    | .ct ρ' s' => C ρ' s'
    | .err x ρ' s' => E x s'
    | .no => False) ↔ _
  rw [e]
theorem ev_words {c : Nat} {many : Int} (hB : Bg c [] s) (hc : c < 2 ^ 50) (h0 : 0 ≤ many) (h1 : many ≤ 8) (q : ∀ (ws : List Str) s', ws.length = many.toNat → (∀ w ∈ ws, nm w = true) → Bg (c + 20) [] s' → Q (.lst (ws.map .str)) s') : EV (m_law_words [.obj 1, .int many]) s Q E := by
  refine w_run (ρ := [.val (.obj 1), .val (.int many), .no, .no, .no, .no, .no, .no, .no, .no, .no]) rfl ?_
  unfold b_law_words
  rw [s_seq, s_asg2 (a := .str LET) (b := .str (Str.ofString "")) rfl (by simp)]
  simp_all! []
  refine w_forB ?_
  simp_all! []
  refine ev_dr hB (by omega) (by omega) (by omega) fun r s hr0 hr1 hB => ?_
  simp_all! []
  have hrl : (rangeD 0 r.toNat).length = r.toNat := by simp [rangeD]
  refine ForB.mk 1 (fun i ρ => ∃ stem x, ρ = [.val (.obj 1), .val (.int many), .val (.str LET), .val (.str stem), x, .no, .no, .no, .no, .no, .no] ∧ stem.length ≤ i ∧ letS stem) hB ⟨_, _, rfl, by decide +kernel, fun c hc => by
    have e : (Str.ofString "").cps.toList = [] := by decide +kernel
    rw [e] at hc; cases hc⟩ ?_ ?_
  · rintro i d ρ s hd hi ⟨stem, x, rfl, hs1, hs2⟩ hB
    have hi : i < 2 := by rw [hrl] at hi; omega
    refine ⟨_, by trivial, ?_⟩
    simp_all! []
    refine ev_os hB (by omega) (by rw [let_len2]; omega) (by rw [let_len2]; omega) fun ch s hch hB => ?_
    have hl1 : (⟨#[ch]⟩ : Str).length = 1 := rfl
    simp_all! [s_addS (a := stem) (b := ⟨#[ch]⟩) (by omega)]
    exact ⟨⟨_, _, rfl, by rw [Str.length_append]; omega, app_let hs2 (one_let hch)⟩, hB.le (by omega)⟩
  · rintro ρ s ⟨stem, x, rfl, hs1, hs2⟩ hB
    rw [hrl] at hs1 hB
    have hs1 : stem.length ≤ 2 := by omega
    rw [s_seq, s_par3]
    simp_all! [s_lenS (z := stem) (by omega)]
    refine ev_dr hB (by omega) (by omega) (by omega) fun at_ s ha0 ha1 hB => ?_
    simp_all! []
    refine ev_dr hB (by omega) (by omega) (by omega) fun fi s hf0 hf1 hB => ?_
    simp_all! []
    refine ev_olP (fun d => ∃ t : Str, d = .str t ∧ t.length ≤ 2 ∧ letS t) ?_ hB (by omega) (by simp) (by simp) fun d s hd hB => ?_
    · intro d hd
      have e0 : letS (Str.ofString "") := by unfold letS; decide +kernel
      have e1 : letS (Str.ofString "a") := by unfold letS; decide +kernel
      have e2 : letS (Str.ofString "zz") := by unfold letS; decide +kernel
      rcases List.mem_cons.mp hd with rfl | hd
      · exact ⟨_, rfl, by decide +kernel, e0⟩
      rcases List.mem_cons.mp hd with rfl | hd
      · exact ⟨_, rfl, by decide +kernel, e1⟩
      have : d = .str (Str.ofString "zz") := by simpa using hd
      subst this
      exact ⟨_, rfl, by decide +kernel, e2⟩
    obtain ⟨tail, rfl, ht1, ht2⟩ := hd
    simp_all! []
    refine ev_dr hB (by omega) (by omega) (by omega) fun side s hd0 hd1 hB => ?_
    simp_all! []
    refine w_forB ?_
    simp_all! []
    have hml : (rangeD 0 many.toNat).length = many.toNat := by simp [rangeD]
    refine ForB.mk 0 (fun i ρ => ∃ (ws : List Str) (x y : Slot), ρ = [.val (.obj 1), .val (.int many), .val (.str LET), .val (.str stem), x, .val (.int at_), .val (.int fi), .val (.str tail), .own (.lst (ws.map .str)), .val (.int side), y] ∧ ws.length = i ∧ ∀ w ∈ ws, nm w = true) hB ⟨[], _, _, rfl, rfl, fun _ h => by cases h⟩ ?_ ?_
    · rintro i d ρ s hd hi ⟨ws, x, y, rfl, hw1, hw2⟩ hB
      rw [hml] at hi
      have hdi : d = .int (i : Int) := by
        unfold rangeD at hd
        rw [List.getElem?_map, List.getElem?_range hi] at hd
        cases hd
        simp
      subst hdi
      refine ⟨_, by trivial, ?_⟩
      have hi8 : i < 8 := by omega
      have hc2 := cut_two (w := stem) ha0
      have hi7 : ((7 : Int).natAbs.log2 + (i : Int).natAbs.log2 < 1000000) := by
        have a1 : (7 : Int).natAbs.log2 ≤ 7 := by decide
        have a2 : (i : Int).natAbs < 2 ^ 10 := by omega
        have a3 := PySem.Flt.log2_lt_of (by decide : 0 < 10) a2
        omega
      have hm0 : 0 ≤ (fi + 7 * (i : Int)) % 26 := Int.emod_nonneg _ (by decide)
      have hm1 : (fi + 7 * (i : Int)) % 26 < 26 := Int.emod_lt_of_pos _ (by decide)
      obtain ⟨k, hk⟩ := Int.eq_ofNat_of_zero_le hm0
      have hk26 : k < LET.cps.toList.length := by rw [let_len]; omega
      simp_all! [s_slS (z := stem) (by omega), s_mul (i := 7) (j := (i : Int)) hi7]
      rw [hk]
      refine ev_ixS (z := LET) (k := k) (by rw [let_len2]; show 26 ≤ 1000000; omega) hk26 ?_
      have hch : LET.cps.toList[k] ∈ LET.cps.toList := List.getElem_mem hk26
      generalize LET.cps.toList[k] = ch at hch
      have hl1 : (⟨#[ch]⟩ : Str).length = 1 := rfl
      have hcl1 := cut_len2 stem none (some at_)
      have hcl2 := cut_len2 stem (some at_) none
      simp_all! [s_slS (z := stem) (by omega), s_addS (a := cutS stem none (some at_)) (b := ⟨#[ch]⟩) (by omega), s_addS (a := cutS stem none (some at_) ++ ⟨#[ch]⟩) (b := cutS stem (some at_) none) (by rw [Str.length_append]; omega)]
      have hwl : (cutS stem none (some at_) ++ (⟨#[ch]⟩ : Str) ++ cutS stem (some at_) none).length ≤ 3 := by rw [Str.length_append, Str.length_append]; omega
      have hwl1 : 1 ≤ (cutS stem none (some at_) ++ (⟨#[ch]⟩ : Str) ++ cutS stem (some at_) none).length := by rw [Str.length_append, Str.length_append]; omega
      have hwt := app_let (app_let (cut_let hs2 none (some at_)) (one_let hch)) (cut_let hs2 (some at_) none)
      generalize cutS stem none (some at_) ++ (⟨#[ch]⟩ : Str) ++ cutS stem (some at_) none = word at *
      refine w_app (xs := ws.map .str) (by rfl) (by rw [List.length_map]; show ws.length < 1000000; omega) ?_
      simp_all! []
      refine br_intro (fun hb => ?_) (fun hb => ?_)
      · simp_all! [s_addS (a := word) (b := tail) (by omega)]
        refine ⟨⟨ws ++ [word ++ tail], _, _, by rw [List.map_append]; rfl, by rw [List.length_append]; simp [hw1], fun w hw => ?_⟩, hB⟩
        rcases List.mem_append.mp hw with hw | hw
        · exact hw2 w hw
        · have : w = word ++ tail := by simpa using hw
          subst this
          exact nm_let (app_let hwt ht2) (by rw [Str.length_append]; omega) (by rw [Str.length_append]; omega)
      · simp_all! []
        refine ⟨⟨ws ++ [word], _, _, by rw [List.map_append]; rfl, by rw [List.length_append]; simp [hw1], fun w hw => ?_⟩, hB⟩
        rcases List.mem_append.mp hw with hw | hw
        · exact hw2 w hw
        · have : w = word := by simpa using hw
          subst this
          exact nm_let hwt hwl1 (by omega)
    · rintro ρ s ⟨ws, x, y, rfl, hw1, hw2⟩ hB
      rw [s_seq, s_frz0 rfl]
      simp_all! []
      exact q ws s (by rw [hw1, hml]) hw2 (hB.le (by omega))
theorem log_lt {n : Int} (h0 : 0 ≤ n) (h : n < 10 ^ 60) : n.natAbs.log2 < 1000 := by
  have h3 : n.natAbs < 2 ^ 200 := by
    have : (10 : Int) ^ 60 ≤ 2 ^ 200 := by decide
    omega
  have := PySem.Flt.log2_lt_of (by decide : 0 < 200) h3
  omega
theorem ev_counts {c : Nat} {ws : List Str} {ms : List Int} {b : Int} (hB : Bg c [] s) (hc : c < 2 ^ 50) (hw : ∀ w ∈ ws, nm w = true) (hl : ws.length ≤ 8) (hm0 : 0 < ms.length) (hm1 : ms.length < 100) (hm : ∀ m ∈ ms, 0 ≤ m ∧ m ≤ b) (hb60 : b < 10 ^ 60)
    (q : ∀ (ps : AL) s', Pk ps → ps.length ≤ ws.length → (∀ p ∈ ps, p.2 ≤ b) → Bg (c + 10) [] s' → Q (.dic (dcP ps)) s') : EV (m_law_counts [.obj 1, .lst (ws.map .str), .lst (ms.map .int)]) s Q E := by
  refine w_run (ρ := [.val (.obj 1), .val (.lst (ws.map .str)), .val (.lst (ms.map .int)), .no, .no, .no]) rfl ?_
  unfold b_law_counts
  simp_all! [kD0]
  refine w_forB ?_
  simp_all! []
  refine ForB.mk 1 (fun i ρ => ∃ (ps : AL) (x y : Slot), ρ = [.val (.obj 1), .val (.lst (ws.map .str)), .val (.lst (ms.map .int)), .own (.dic (dcP ps)), x, y] ∧ DN ps ∧ (∀ p ∈ ps, nm p.1 = true ∧ 0 < p.2 ∧ p.2 ≤ b) ∧ ps.length ≤ i) hB ⟨[], _, _, rfl, List.nodup_nil, fun _ h => (by cases h), Nat.le_refl _⟩ ?_ ?_
  · rintro i d ρ s hd hi ⟨ps, x, y, rfl, h1, h2, h3⟩ hB
    rw [List.length_map] at hi
    obtain ⟨w, hwm, rfl⟩ := List.mem_map.mp (List.mem_of_getElem? hd)
    refine ⟨_, by trivial, ?_⟩
    simp_all! []
    refine ev_olP (fun d => ∃ m : Int, d = .int m ∧ 0 ≤ m ∧ m ≤ b) (fun d hd => ?_) hB (by omega) (by rw [List.length_map]; omega) (by rw [List.length_map]; omega) fun d s hd hB => ?_
    · obtain ⟨m, hm', rfl⟩ := List.mem_map.mp hd
      exact ⟨m, rfl, hm m hm'⟩
    obtain ⟨m, rfl, hm0', hm1'⟩ := hd
    simp_all! []
    refine br_intro (fun hb => ?_) (fun hb => ?_)
    · have hpos : 0 < m := by simpa using hb
      refine w_putO (ks := dcP ps) (by rfl) (by rw [len_dcP]; omega) ?_
      simp_all! []
      refine ⟨w, rfl, ⟨putP ps w m, .val (.str w), .val (.int m), by rw [putD_dcP], putP_dn h1, fun p hp => ?_, Nat.le_trans putP_len (by omega)⟩, hB⟩
      exact putP_all (P := fun z n => nm z = true ∧ 0 < n ∧ n ≤ b) h2 ⟨hw w hwm, hpos, hm1'⟩ p hp
    · simp_all! []
      exact ⟨⟨ps, _, _, rfl, h1, h2, by omega⟩, hB⟩
  · rintro ρ s ⟨ps, x, y, rfl, h1, h2, h3⟩ hB
    rw [List.length_map] at h3 hB
    rw [s_seq, s_frz0 rfl]
    simp_all! []
    exact q ps s ⟨⟨h1, fun p hp => (h2 p hp).1, fun p hp => Int.le_of_lt (h2 p hp).2.1, fun p hp => log_lt (Int.le_of_lt (h2 p hp).2.1) (Int.lt_of_le_of_lt (h2 p hp).2.2 hb60), by omega⟩, fun p hp => (h2 p hp).2.1, fun p hp => Int.lt_of_le_of_lt (h2 p hp).2.2 hb60⟩ h3 (fun p hp => (h2 p hp).2.2) (hB.le (by omega))
theorem dcP_inj : ∀ {a b : AL}, dcP a = dcP b → a = b
  | [], [], _ => rfl
  | [], _ :: _, h => by cases h
  | _ :: _, [], h => by cases h
  | p :: a, q :: b, h => by
    have h : ((.inr p.1 : Key), D.int p.2) :: dcP a = ((.inr q.1 : Key), D.int q.2) :: dcP b := h
    injection h with h1 h2
    injection h1 with h3 h4
    rw [dcP_inj h2]
    obtain ⟨p1, p2⟩ := p
    obtain ⟨q1, q2⟩ := q
    have h3 : p1 = q1 := by injection h3
    have h4 : p2 = q2 := by injection h4
    rw [h3, h4]
theorem txt_inj {a b : AL} (ha : Gd a) (hb : Gd b) (h : txtP a = txtP b) : a = b := by
  have h1 : EV (m_Heap_read [.str (txtP a)]) [] (fun d _ => d = hp a) NoE := (s_read ha (fun n => by rw [D.ltL])).mpr rfl
  rw [h] at h1
  have h2 : hp b = hp a := (s_read hb (fun n => by rw [D.ltL])).mp h1
  unfold hp at h2
  injection h2 with _ h3
  injection h3 with h4 _
  injection h4 with _ h5
  injection h5 with h6
  exact (dcP_inj h6).symm
theorem s_dunNeH {a b : AL} (ha : OkP a) (hb : OkP b) : EV (dunNe [(HEAP, ⟨inT tg_Heap, m_Heap_eq⟩)] neD (hp a) (hp b)) s Q E ↔ Q (.bl !(decide (a = b))) s := by
  unfold hp
  rw [s_dunNeC (by decide +kernel)]
  show EV (m_Heap_eq [hp a, hp b]) s _ E ↔ _
  rw [s_eq ha hb, s_notD]
theorem s_dunEqH {a b : AL} (ha : OkP a) (hb : OkP b) : EV (dunEq [(HEAP, ⟨inT tg_Heap, m_Heap_eq⟩)] eqD (hp a) (hp b)) s Q E ↔ Q (.bl (decide (a = b))) s := by
  unfold hp
  rw [s_dunEqC (by decide +kernel)]
  show EV (m_Heap_eq [hp a, hp b]) s _ E ↔ _
  rw [s_eq ha hb]
theorem dat_str {z : Str} : (D.str z).dat 11 = true := rfl
theorem dat_bls {a b : Bool} : (D.lst [.bl a, .bl b]).dat 11 = true := rfl
theorem s_powK : EV (powD (.int 10) (.int 30)) s Q E ↔ Q (.int 1000000000000000000000000000000) s := s_okeq (by
  show (if 0 ≤ (30 : Int) ∧ (30 : Int) ≤ 1000000 ∧ (10 : Int).natAbs < 2 ^ 64 then pure (.int ((10 : Int) ^ (30 : Int).toNat)) else no : M D) s = _
  rw [if_pos (by decide)]
  rfl)
end

end PV.LW
end

section
namespace PV.LW
open PySem PySem.Spec L2
open PyProof.Rows hiding St
local macro_rules | `(tactic| simp_all! [$ls,*]) => `(tactic| simp -dsimp (disch := first | assumption | omega | (simp only [List.length_cons, List.length_nil]; omega) | decide) only [s_brT, s_brF, s_pure, s_Mpure, s_bind, s_if, s_raise, s_getV0, s_getR0, s_getO0, s_getV, s_getR, s_seq, s_nil, s_set, s_setO, s_ret, s_drop, s_sif, s_par, s_slotT, s_slotF, s_add, s_sub, s_lt, s_le, s_gt, s_ge, s_toint, s_tointB, s_asB, s_notD, s_negD, s_absD, s_trB, s_trI, s_trL, s_trTu, s_trN, s_asI, s_asS, s_eqI, s_neI, s_eqB, s_neB, s_eqS, s_neS, s_ltS, s_leS, s_lenL, s_lenT, s_lenD, s_lenS, s_addS, s_addL, s_catL, s_mul, s_mod, s_fdiv, s_lst0, s_lst, s_tup, s_listL, s_listT, s_slL, s_slLL, s_slS, s_seqL, s_seqT, s_seqS, s_rng1, s_zip, s_enum, s_atM, s_inS, s_c1, s_c2, s_c3, s_c4, s_c5, s_k1, s_k2, s_k2', s_p1k1, s_isiAny1, s_isiAny0, s_iNI, s_iNS, s_iNB, s_iNL, s_iNT, s_iND, s_iBI, s_iBS, s_iBB, s_iBL, s_iBT, s_iBD, s_iII, s_iIS, s_iIB, s_iIL, s_iIT, s_iID, s_iSI, s_iSS, s_iSB, s_iSL, s_iST, s_iSD, s_iLI, s_iLS, s_iLB, s_iLL, s_iLT, s_iLD, s_iTI, s_iTS, s_iTB, s_iTL, s_iTT, s_iTD, s_iDI, s_iDS, s_iDB, s_iDL, s_iDT, s_iDD, wipeE, e1, e2, eNil, eCons, kI, kS, kB, kN, tCmp, tChn, eChn, tNot, tAnd, tOr, eAnd, eOr, eIf, eIsi, eIsiT, eIsN, eNotN, tIsN, tNotN, eJoin, eSl, pN, eCal, eCal0, tYesM, isNonB, List.set_cons_zero, List.set_cons_succ, List.length_cons, List.length_nil, List.map_cons, List.map_nil, List.isEmpty_cons, List.isEmpty_nil, Bool.not_true, Bool.not_false, decide_true, decide_false, and_self, true_and, and_true, Int.reduceAdd, Int.reduceSub, Int.reduceMul, Int.reduceNeg, Int.reduceLE, Int.reduceLT, Int.reduceEq, Int.reduceNe, Int.reduceToNat, Int.reducePow, Nat.reduceAdd, Nat.reduceSub, Nat.reduceMul, Nat.reduceLeDiff, Nat.reduceLT, Nat.reduceEqDiff, Int.le_refl, Int.reduceBNe, Nat.reduceBNe, $ls,*])
local macro_rules | `(tactic| trivial) => `(tactic| (simp only [gNm, gTp, gsCons, gsNil, wipeE, Option.bind, List.set_cons_zero, List.set_cons_succ, List.length_cons, List.length_nil, if_true]; exact rfl))
variable [TP]
section
variable {s : Stt} {Q : D → Stt → Prop} {E : Err → Stt → Prop}
theorem s_rs1 {c f code : Str} {fe : Env → M D} {ρ : Env} {N B C : Env → Stt → Prop} {R : D → Stt → Prop} : WP (sRs1 c f code fe) ρ s N R B C E ↔ EV (fe ρ) s (fun d s' => E (mkE1 c f code d) s') E := by
  unfold WP EV sRs1 sB
  cases fe ρ s <;> exact Iff.rfl
theorem s_try {tP : Addr} {q : Str} {xt : XTab} {fb : Env → M D} {ρ : Env} {r : Stt} : EV (eTry tP 0 q xt fb ρ) (.tab q tP :: r) Q E ↔ EV (fb ρ) (.tab q tP :: r) (fun d s' => Q (.tup [.str (Str.ofString ""), d]) s') (fun e s' => ∃ d, tryE xt e = some d ∧ Q d s') := by
  have e0 : eTry tP 0 q xt fb ρ (.tab q tP :: r) = tryR xt (fb ρ (.tab q tP :: r)) := by
    show (if q = q ∧ tP = tP then tryR xt (fb ρ (.tab q tP :: r)) else .no) = _
    rw [if_pos ⟨rfl, rfl⟩]
  unfold EV
  rw [e0]
  cases h : fb ρ (.tab q tP :: r) with
  | ok d s' => exact Iff.rfl
  | no => exact Iff.rfl
  | err e s' =>
    cases h2 : tryE xt e <;> simp [tryR, h2]
theorem cast0 : decide (((0 : Nat) : Int) = 2) = false := rfl
theorem cast1 : decide (((1 : Nat) : Int) = 2) = false := rfl
theorem castN (n : Nat) : decide (((n + 1 + 1 + 1 : Nat) : Int) = 2) = false := decide_eq_false (by omega)
theorem hd0 : ∀ (l : List Nat) (h : 0 < l.length), l[0] = l.headD 0
  | [], h => by simp at h
  | _ :: _, _ => rfl
abbrev errT : Err := mkE1 (Str.ofString "InvalidText") (Str.ofString "line") (Str.ofString "InvalidText") (.int 0)
theorem ltS_tr {a b c : Str} (h1 : ltS a b = true) (h2 : ltS b c = true) : ltS a c = true := by
  unfold ltS at *
  exact decide_eq_true (List.lt_trans (of_decide_eq_true h1) (of_decide_eq_true h2))
/-! figures -/
def fig (z : Str) (m : Int) : Bool := decide (1 ≤ (z.length : Int)) && (decide ((z.length : Int) ≤ m) && ((z.cps.toList.all fun c => decide (c ∈ DIG.cps.toList)) && (decide (z = Str.ofString "0") || !decide ((⟨#[z.cps.toList.headD 0]⟩ : Str) = Str.ofString "0"))))
theorem s_figG {z : Str} {m : Int} (hz : z.length ≤ 100000) : EV (m_is_figure [.str z, .int m]) s Q E ↔ Q (.bl (fig z m)) s := by
  refine s_of_ev (w_run (ρ := [.val (.str z), .val (.int m), .no]) rfl ?_)
  unfold b_is_figure fig
  have hl : z.length = z.cps.toList.length := TL.len_tl z
  by_cases h1 : (1 : Int) ≤ (z.length : Int)
  · have d1 := decide_eq_true h1
    by_cases h2 : (z.length : Int) ≤ m
    · have d2 := decide_eq_true h2
      simp_all! [d1, d2]
      refine ev_lcF ?_
      simp_all! []
      refine LcF.mk (fun d => match d with
        | .str x => .bl (decide (x.cps.toList.headD 0 ∈ DIG.cps.toList))
        | _ => .non) (by unfold chrD; rw [List.length_map]; omega) (fun d hd => ?_) ?_
      · obtain ⟨c, _, rfl⟩ := List.mem_map.mp hd
        refine ⟨_, by trivial, ?_⟩
        simp_all! []
        rfl
      · unfold chrD
        rw [List.map_map]
        show EV (allD (.lst (z.cps.toList.map fun c => .bl (decide (c ∈ DIG.cps.toList))))) s _ _
        rw [s_all]
        cases ea : z.cps.toList.all fun c => decide (c ∈ DIG.cps.toList) with
        | false =>
          simp_all! []
          simp
        | true =>
          simp_all! []
          cases e0 : decide (z = Str.ofString "0") with
          | true =>
            simp_all! [e0]
            simp [h1, h2]
          | false =>
            simp_all! [e0]
            refine ev_ixS (k := 0) (by show z.length ≤ 1000000; omega) (by omega) ?_
            rw [hd0 _ (by omega)]
            simp_all! []
            simp [h1, h2]
    · have d2 := decide_eq_false h2
      simp_all! [d1, d2]
      simp
  · have d1 := decide_eq_false h1
    simp_all! [d1]
    simp
theorem dv_snoc (l : List Nat) (d : Nat) : NumText.digitsVal (l ++ [d]) = NumText.digitsVal l * 10 + (d - 48) := by
  unfold NumText.digitsVal
  rw [List.foldl_append]; rfl
theorem canon : ∀ (k : Nat) (l : List Nat), l.length = k + 1 → NumText.AllDigits l → l.headD 48 ≠ 48 → TL.numL (NumText.digitsVal l) = l ∧ 0 < NumText.digitsVal l ∧ NumText.digitsVal l < 10 ^ (k + 1)
  | 0, l, hl, ha, hh => by
    match l, hl with
    | [c], _ =>
      have h1 := ha c List.mem_cons_self
      have h2 : c ≠ 48 := hh
      have e : NumText.digitsVal [c] = c - 48 := by
        show 0 * 10 + (c - 48) = _
        omega
      rw [e, TL.numL_lt (by omega)]
      refine ⟨?_, by omega, by omega⟩
      congr 1; omega
  | k + 1, l, hl, ha, hh => by
    have hne : l ≠ [] := fun e => by subst e; simp at hl
    obtain ⟨l', d, rfl⟩ : ∃ l' d, l = l' ++ [d] := ⟨l.dropLast, l.getLast hne, (List.dropLast_concat_getLast hne).symm⟩
    rw [List.length_append] at hl
    have hl' : l'.length = k + 1 := by simpa using hl
    have hd := ha d (List.mem_append_right _ List.mem_cons_self)
    have hh' : l'.headD 48 ≠ 48 := by
      cases l' with
      | nil => simp at hl'
      | cons a r => exact hh
    obtain ⟨i1, i2, i3⟩ := canon k l' hl' (fun c hc => ha c (List.mem_append_left _ hc)) hh'
    rw [dv_snoc, TL.numL_step (by omega)]
    have e1 : (NumText.digitsVal l' * 10 + (d - 48)) / 10 = NumText.digitsVal l' := by omega
    have e2 : (NumText.digitsVal l' * 10 + (d - 48)) % 10 = d - 48 := by omega
    rw [e1, e2, i1]
    refine ⟨?_, by omega, ?_⟩
    · congr 2; omega
    · have : (10 : Nat) ^ (k + 1 + 1) = 10 ^ (k + 1) * 10 := Nat.pow_succ ..
      omega
theorem dig_le {c : Nat} (h : c ∈ DIG.cps.toList) : 48 ≤ c ∧ c ≤ 57 := by
  have e : ∀ c ∈ DIG.cps.toList, 48 ≤ c ∧ c ≤ 57 := by decide +kernel
  exact e c h
theorem fig_num {z : Str} (h : fig z 60 = true) (h0 : z ≠ Str.ofString "0") : ∃ n : Nat, 0 < n ∧ n < 10 ^ 60 ∧ z = numS (n : Int) := by
  unfold fig at h
  simp only [Bool.and_eq_true, Bool.or_eq_true, decide_eq_true_eq] at h
  obtain ⟨h1, h2, h3, h4⟩ := h
  have h4 : ¬ (⟨#[z.cps.toList.headD 0]⟩ : Str) = Str.ofString "0" := by
    rcases h4 with h4 | h4
    · exact absurd h4 h0
    · simpa using h4
  have hl : z.length = (TL.tl z).length := TL.len_tl z
  have hd : NumText.AllDigits (TL.tl z) := fun c hc => dig_le (of_decide_eq_true (List.all_eq_true.mp h3 c hc))
  have hh : (TL.tl z).headD 48 ≠ 48 := fun e => by
    have h4 : ¬ (⟨#[(TL.tl z).headD 0]⟩ : Str) = Str.ofString "0" := h4
    cases q : TL.tl z with
    | nil => rw [q] at hl; simp at hl; omega
    | cons a l =>
      rw [q] at e h4
      have e : a = 48 := e
      subst e
      exact h4 (show (⟨#[48]⟩ : Str) = Str.ofString "0" from by decide +kernel)
  obtain ⟨k, hk⟩ : ∃ k, (TL.tl z).length = k + 1 := ⟨(TL.tl z).length - 1, by omega⟩
  obtain ⟨c1, c2, c3⟩ := canon k _ hk hd hh
  refine ⟨NumText.digitsVal (TL.tl z), c2, Nat.lt_of_lt_of_le c3 (Nat.pow_le_pow_right (by decide) (by omega)), ?_⟩
  refine TL.ext_tl ?_
  rw [tl_numS, c1]
/-! a text, read -/
theorem join_len (y : Str) : ∀ ps : List Str, ps ≠ [] → (Str.join y ps).length = (ps.map (·.length)).sum + (ps.length - 1) * y.length
  | [], h => absurd rfl h
  | [p], _ => by
    show p.length = _
    simp
  | p :: q :: r, _ => by
    have e : Str.join y (p :: q :: r) = p ++ y ++ Str.join y (q :: r) := rfl
    rw [e, Str.length_append, Str.length_append, join_len y (q :: r) (by simp)]
    simp only [List.map_cons, List.sum_cons, List.length_cons]
    have : (r.length + 1 + 1 - 1) * y.length = (r.length + 1 - 1) * y.length + y.length := by
      have : r.length + 1 + 1 - 1 = (r.length + 1 - 1) + 1 := by omega
      rw [this, Nat.succ_mul]
    omega
theorem mem_sum {l : List Str} {z : Str} (h : z ∈ l) : z.length ≤ (l.map (·.length)).sum := by
  induction l with
  | nil => cases h
  | cons a l ih =>
    rw [List.map_cons, List.sum_cons]
    rcases List.mem_cons.mp h with rfl | h
    · omega
    · have := ih h; omega
theorem split_ne (x y : Str) : Txt.split x y ≠ [] ∨ x = Str.empty := by
  by_cases h : Txt.split x y = []
  · right
    have := PySem.StrLaws.join_split x y
    rw [h] at this
    exact this.symm
  · exact .inl h
/-- what is read so far -/
structure Rd (ps : AL) (last : Str) (parts : List Str) (i : Nat) : Prop where
  ok : OkP ps
  nm : ∀ p ∈ ps, nm p.1 = true
  lt : ∀ p ∈ ps, p.2 < 10 ^ 60
  row : ps.map rowP = parts.take i
  las : ∀ w, ltS last w = true → ∀ p ∈ ps, ltS p.1 w = true
theorem Rd.add {ps : AL} {last : Str} {parts : List Str} {i n : Nat} {w : Str} (h : Rd ps last parts i) (hw : PV.LW.nm w = true) (h0 : 0 < n) (h1 : n < 10 ^ 60) (hl : ltS last w = true) (hp : parts[i]? = some (rowP (w, (n : Int)))) : Rd (ps ++ [(w, (n : Int))]) w parts (i + 1) := by
  refine ⟨⟨?_, fun p hp => ?_⟩, fun p hp => ?_, fun p hp => ?_, ?_, fun v hv p hp => ?_⟩
  · rw [List.map_append, List.pairwise_append]
    refine ⟨h.ok.st, by simp, fun a ha b hb => ?_⟩
    have : b = w := by simpa using hb
    subst this
    obtain ⟨p, hp, rfl⟩ := List.mem_map.mp ha
    exact h.las _ hl p hp
  · rcases List.mem_append.mp hp with hp | hp
    · exact h.ok.pos p hp
    · have : p = (w, (n : Int)) := by simpa using hp
      subst this
      show (0 : Int) < (n : Int)
      omega
  · rcases List.mem_append.mp hp with hp | hp
    · exact h.nm p hp
    · have : p = (w, (n : Int)) := by simpa using hp
      subst this; exact hw
  · rcases List.mem_append.mp hp with hp | hp
    · exact h.lt p hp
    · have : p = (w, (n : Int)) := by simpa using hp
      subst this
      show (n : Int) < ((10 ^ 60 : Nat) : Int)
      exact Int.ofNat_lt.mpr h1
  · rw [List.map_append, h.row, List.take_succ, hp]; rfl
  · rcases List.mem_append.mp hp with hp | hp
    · exact ltS_tr (h.las _ hl p hp) hv
    · have : p = (w, (n : Int)) := by simpa using hp
      subst this; exact hv
theorem ev_read {z : Str} (hz : z.length ≤ 175) (hs : PSt s) (hE : E errT s) (q : ∀ ps, Gd ps → txtP ps = z → Q (hp ps) s) : EV (m_Heap_read [.str z]) s Q E := by
  refine w_run (ρ := [.val (.str z), .no, .no, .no, .no]) rfl ?_
  unfold b_Heap_read
  simp_all! []
  refine w_forP ?_
  have key : ∀ (parts : List Str), (parts = [] ∧ z = Str.ofString "0" ∨ parts ≠ [] ∧ Str.join (Str.ofString " + ") parts = z) → ForP (gNm 3) (sSeq (sSet 4 (eTx splitD (getR 3) (kS (Str.ofString " "))))
      (sSeq (sIf (tOr (tCmp neD (e1 lenD (getR 4)) (kI 2)) (tOr (tNot (e1 truD (eCal 2 0 2 (fmt [0, 1]) m_is_figure (eCons (e2 ixD (getR 4) (kI 0)) (eCons (kI 60) eNil)) eNil))) (tCmp eqD (e2 ixD (getR 4) (kI 0)) (kS (Str.ofString "0"))))) (sRs1 (Str.ofString "InvalidText") (Str.ofString "line") (Str.ofString "InvalidText") (kI 0)) sNil)
      (sSeq (sIf (tOr (tNot (e1 truD (eCal 1 0 1 (fmt [0]) m_is_name (eCons (e2 ixD (getR 4) (kI 1)) eNil) eNil))) (tCmp leD (e2 ixD (getR 4) (kI 1)) (getR 2))) (sRs1 (Str.ofString "InvalidText") (Str.ofString "line") (Str.ofString "InvalidText") (kI 0)) sNil)
      (sSeq (sSet 2 (e2 ixD (getR 4) (kI 1)))
      (sPut 1 (getR 2) (e1 intD (e2 ixD (getR 4) (kI 0)))))))) [.val (.str z), .own (.dic []), .val (.str (Str.ofString "")), .no, .no]
      (fun ρ s' => WP (sSeq (sFrz 1) (sRet (eMk HEAP 1 0 2 (fmtX dd_Heap_init_d [0, 1]) m_Heap_init (eCons (getV 1) eNil) eNil))) ρ s' (fun _ s' => Q .non s') Q NoF NoF E) Q E (parts.map D.str) s := by
    intro parts hpar
    have hn : parts.length < 60 ∧ ∀ p ∈ parts, p.length ≤ 175 := by
      rcases hpar with ⟨rfl, _⟩ | ⟨hne, hj⟩
      · exact ⟨by decide, fun _ h => by cases h⟩
      · have := join_len (Str.ofString " + ") parts hne
        rw [hj, pl_len] at this
        refine ⟨by omega, fun p hp => ?_⟩
        have := mem_sum hp
        omega
    refine ForP.mk (fun i ρ => ∃ ps x y last, ρ = [.val (.str z), .own (.dic (dcP ps)), .val (.str last), x, y] ∧ Rd ps last parts i) ⟨[], _, _, _, rfl, ⟨⟨List.Pairwise.nil, fun _ h => (by cases h)⟩, fun _ h => (by cases h), fun _ h => (by cases h), rfl, fun _ _ _ h => (by cases h)⟩⟩ ?_ ?_
    · rintro i d ρ hd hi ⟨ps, x, y, last, rfl, hr⟩
      rw [List.getElem?_map] at hd
      cases hpi : parts[i]? with
      | none => rw [hpi] at hd; cases hd
      | some p =>
        rw [hpi] at hd
        cases hd
        have hp := List.mem_of_getElem? hpi
        have hpl := hn.2 p hp
        refine ⟨_, by trivial, ?_⟩
        have hsplit : (((Str.ofString " ").length == 0) = false ∧ p.length + 2 ≤ SIZE) := ⟨by decide +kernel, by show _ ≤ 1000000; omega⟩
        simp_all! [eTx, s_split hsplit, s_rs1]
        have hjo := PySem.StrLaws.join_split p (Str.ofString " ")
        cases hw : Txt.split p (Str.ofString " ") with
        | nil =>
          rw [List.map_nil]
          simp_all! [s_rs1, cast0]
          exact hE
        | cons a r =>
          cases r with
          | nil =>
            rw [List.map_cons, List.map_nil]
            simp_all! [s_rs1, cast1]
            exact hE
          | cons b r =>
            cases r with
            | cons c r =>
              simp_all! [s_rs1, castN]
              exact hE
            | nil =>
              rw [hw] at hjo
              have hpe : p = a ++ Str.ofString " " ++ b := hjo.symm
              have hpl2 : a.length + b.length + 1 = p.length := by rw [hpe, Str.length_append, Str.length_append, sp_len]; omega
              rw [List.map_cons, List.map_cons, List.map_nil]
              cases hf : fig a 60 with
              | false =>
                simp_all! [cast2, s_ix0, s_ix1, s_figG (z := a) (by omega), hf, s_rs1]
                exact hE
              | true =>
                by_cases h0 : a = Str.ofString "0"
                · have e0 : decide (a = Str.ofString "0") = true := decide_eq_true h0
                  simp_all! [cast2, s_ix0, s_ix1, s_figG (z := a) (by omega), hf, s_rs1, e0]
                  exact hE
                · have e0 : decide (a = Str.ofString "0") = false := decide_eq_false h0
                  obtain ⟨n, n0, n1, hna⟩ := fig_num hf h0
                  cases hnm : nm b with
                  | false =>
                    simp_all! [cast2, s_ix0, s_ix1, s_figG (z := a) (by omega), hf, s_rs1, e0, s_is_name (z := b) (by omega), hnm]
                    exact hE
                  | true =>
                    cases hlt : decide (last.cps.toList < b.cps.toList) with
                    | false =>
                      simp_all! [cast2, s_ix0, s_ix1, s_figG (z := a) (by omega), hf, s_rs1, e0, s_is_name (z := b) (by omega), hnm, hlt]
                      exact hE
                    | true =>
                      simp_all! [cast2, s_ix0, s_ix1, s_figG (z := a) (by omega), hf, s_rs1, e0, s_is_name (z := b) (by omega), hnm, hlt]
                      have hlen : ps.length = i := by
                        have := congrArg List.length hr.row
                        rw [List.length_map, List.length_take] at this
                        have := (List.getElem?_eq_some_iff.mp hpi).1
                        omega
                      refine w_putO (ks := dcP ps) (by rfl) (by rw [len_dcP]; have := (List.getElem?_eq_some_iff.mp hpi).1; omega) ?_
                      obtain ⟨hint, hnl2⟩ := numS_int n1
                      subst hna
                      simp_all! [s_ix0, s_intS hint (by omega)]
                      have hnew : b ∉ ps.map (·.1) := fun hm => by
                        obtain ⟨p', hp', e⟩ := List.mem_map.mp hm
                        have := hr.las b hlt p' hp'
                        rw [e, ltS_ok.irr] at this
                        cases this
                      have hput : putD (dcP ps) (.inr b) (.int (n : Int)) = dcP (ps ++ [(b, (n : Int))]) := by rw [putD_dcP, putP_new hnew]
                      refine ⟨b, rfl, ps ++ [(b, (n : Int))], _, _, b, by rw [hput], hr.add hnm n0 n1 hlt ?_⟩
                      rw [hpi, hpe]
                      rfl
    · rintro ρ ⟨ps, x, y, last, rfl, hr⟩
      have hro := hr.row
      rw [List.length_map, List.take_length] at hro
      have hlen : ps.length = parts.length := by rw [← hro, List.length_map]
      have g : Gd ps := ⟨hr.ok, hr.nm, hr.lt, by omega⟩
      rw [s_seq, s_frz0 rfl]
      simp_all! [eMk, s_chk1, s_mkH g.dk hs, g.ok.norm]
      refine q ps g ?_
      unfold txtP
      rcases hpar with ⟨e, e2⟩ | ⟨hne, hj⟩
      · rw [e] at hlen
        rw [if_pos (List.eq_nil_of_length_eq_zero hlen)]; exact e2.symm
      · have : ps ≠ [] := fun e => by
          rw [e] at hlen
          exact hne (List.eq_nil_of_length_eq_zero hlen.symm)
        rw [if_neg this, hro, TL.join_eq]; exact hj
  by_cases h0 : z = Str.ofString "0"
  · have e0 := decide_eq_true h0
    simp_all! [e0]
    exact key [] (.inl ⟨rfl, h0⟩)
  · have e0 := decide_eq_false h0
    have hsplit : (((Str.ofString " + ").length == 0) = false ∧ z.length + 2 ≤ SIZE) := ⟨by decide +kernel, by show _ ≤ 1000000; omega⟩
    simp_all! [e0, eTx, s_split hsplit]
    refine key _ (.inr ⟨fun e => ?_, PySem.StrLaws.join_split z _⟩)
    rcases split_ne z (Str.ofString " + ") with h | h
    · exact h e
    · subst h
      have : Txt.split Str.empty (Str.ofString " + ") ≠ [] := by decide +kernel
      exact this e
end

end PV.LW
end

section
namespace PV.LW
open PySem PySem.Spec L2
open PyProof.Rows hiding St
local macro_rules | `(tactic| simp_all! [$ls,*]) => `(tactic| simp -dsimp (disch := first | assumption | omega | (simp only [List.length_cons, List.length_nil]; omega) | decide) only [s_brT, s_brF, s_pure, s_Mpure, s_bind, s_if, s_raise, s_getV0, s_getR0, s_getO0, s_getV, s_getR, s_seq, s_nil, s_set, s_setO, s_ret, s_drop, s_sif, s_par, s_slotT, s_slotF, s_add, s_sub, s_lt, s_le, s_gt, s_ge, s_toint, s_tointB, s_asB, s_notD, s_negD, s_absD, s_trB, s_trI, s_trL, s_trTu, s_trN, s_asI, s_asS, s_eqI, s_neI, s_eqB, s_neB, s_eqS, s_neS, s_ltS, s_leS, s_lenL, s_lenT, s_lenD, s_lenS, s_addS, s_addL, s_catL, s_mul, s_mod, s_fdiv, s_lst0, s_lst, s_tup, s_listL, s_listT, s_slL, s_slLL, s_slS, s_seqL, s_seqT, s_seqS, s_rng1, s_zip, s_enum, s_atM, s_inS, s_c1, s_c2, s_c3, s_c4, s_c5, s_k1, s_k2, s_k2', s_p1k1, s_isiAny1, s_isiAny0, s_iNI, s_iNS, s_iNB, s_iNL, s_iNT, s_iND, s_iBI, s_iBS, s_iBB, s_iBL, s_iBT, s_iBD, s_iII, s_iIS, s_iIB, s_iIL, s_iIT, s_iID, s_iSI, s_iSS, s_iSB, s_iSL, s_iST, s_iSD, s_iLI, s_iLS, s_iLB, s_iLL, s_iLT, s_iLD, s_iTI, s_iTS, s_iTB, s_iTL, s_iTT, s_iTD, s_iDI, s_iDS, s_iDB, s_iDL, s_iDT, s_iDD, wipeE, e1, e2, eNil, eCons, kI, kS, kB, kN, tCmp, tChn, eChn, tNot, tAnd, tOr, eAnd, eOr, eIf, eIsi, eIsiT, eIsN, eNotN, tIsN, tNotN, eJoin, eSl, pN, eCal, eCal0, tYesM, isNonB, List.set_cons_zero, List.set_cons_succ, List.length_cons, List.length_nil, List.map_cons, List.map_nil, List.isEmpty_cons, List.isEmpty_nil, Bool.not_true, Bool.not_false, decide_true, decide_false, and_self, true_and, and_true, Int.reduceAdd, Int.reduceSub, Int.reduceMul, Int.reduceNeg, Int.reduceLE, Int.reduceLT, Int.reduceEq, Int.reduceNe, Int.reduceToNat, Int.reducePow, Nat.reduceAdd, Nat.reduceSub, Nat.reduceMul, Nat.reduceLeDiff, Nat.reduceLT, Nat.reduceEqDiff, Int.le_refl, Int.reduceBNe, Nat.reduceBNe, $ls,*])
local macro_rules | `(tactic| trivial) => `(tactic| (simp only [gNm, gTp, gsCons, gsNil, wipeE, Option.bind, List.set_cons_zero, List.set_cons_succ, List.length_cons, List.length_nil, if_true]; exact rfl))
variable [TP]
def oddL : List D := [.str (Str.ofString ""), .str (Str.ofString " "), .str (Str.ofString "0 a"), .str (Str.ofString "1 a +"), .str (Str.ofString "1 a + 0"), .str (Str.ofString "01 a"), .str (Str.ofString "1 A"), .str (Str.ofString "1 abcdefg"), .str (Str.ofString "1  a"), .str (Str.ofString " 1 a"), .str (Str.ofString "1 a "), .str (Str.ofString "1 a+1 b"), .str (Str.ofString "1 b + 1 a"), .str (Str.ofString "1 a + 1 a"), .str (Str.ofString "a"), .str (Str.ofString "1"), .str (Str.ofString "-1 a"), .str (Str.ofString "1 a\n"), .str (Str.ofString "00"), .str (Str.ofString "1 a + 0 b"), .non, .int 3, .bl true, .lst [.str (Str.ofString "1 a")], .tup [.str (Str.ofString "1 a")], .str (Str.ofString "1" ++ repS (Str.ofString "0") 60 ++ Str.ofString " a"), .str (Str.ofString "0 + 1 a")]
theorem odd_err (s : Stt) : ∀ d ∈ oddL, m_Heap_read [d] s = .err errT s := by
  unfold oddL
  simp only [List.forall_mem_cons]
  refine ⟨?_, ?_, ?_, ?_, ?_, ?_, ?_, ?_, ?_, ?_, ?_, ?_, ?_, ?_, ?_, ?_, ?_, ?_, ?_, ?_, ?_, ?_, ?_, ?_, ?_, ?_, ?_, fun _ h => by cases h⟩ <;> kernel_rfl
section
variable {s : Stt} {Q : D → Stt → Prop} {E : Err → Stt → Prop}
abbrev nS (z : String) : Str := Str.ofString z
theorem Bg.tab {c : Nat} {rest : Stt} (h : Bg c rest s) : s = T0 :: s.tail := by
  obtain ⟨B, _, rfl⟩ := h
  rfl
theorem ev_try {c : Nat} {rest : Stt} {xt : XTab} {fb : Env → M D} {ρ : Env} (hB : Bg c rest s) (h : EV (fb ρ) s (fun d s' => Q (.tup [.str (Str.ofString ""), d]) s') (fun e s' => ∃ d, tryE xt e = some d ∧ Q d s')) : EV (eTry TP.a 0 qLam xt fb ρ) s Q E := by
  have e := hB.tab
  generalize s.tail = r at e
  subst e
  exact s_try.mpr h
theorem try_t : tryE xtab errT = some (.tup [.str (nS "InvalidText"), .int 0]) := by kernel_rfl
theorem s_it0 {a : D} {r : List D} : EV (ixD (.tup (a :: r)) (.int 0)) s Q E ↔ Q a s := s_ixT (k := 0) (xs := a :: r) (by simp)
theorem s_it1 {a b : D} {r : List D} : EV (ixD (.tup (a :: b :: r)) (.int 1)) s Q E ↔ Q b s := s_ixT (k := 1) (xs := a :: b :: r) (by simp)
theorem s_revS {zs : List Str} : EV (revD (.lst (zs.map D.str))) s Q E ↔ Q (.lst (zs.reverse.map D.str)) s := by
  rw [List.map_reverse]; exact Iff.rfl
theorem s_ninTs {z : Str} {zs : List Str} : EV (notInD (.str z) (.tup (zs.map D.str))) s Q E ↔ Q (.bl !(decide (z ∈ zs))) s := by
  have e : inB (.str z) (.tup (zs.map D.str)) = pure (decide (z ∈ zs)) := by
    unfold inB
    simp only [D.flat, flats, inV_strs]
  unfold notInD
  rw [e]; exact Iff.rfl
theorem s_nin0 : EV (notInD (.str (nS "")) (.tup [.str (nS ""), .str (nS "InvalidText")])) s Q E ↔ Q (.bl false) s := by
  have h := s_ninTs (s := s) (Q := Q) (E := E) (z := nS "") (zs := [nS "", nS "InvalidText"])
  have e : decide (nS "" ∈ [nS "", nS "InvalidText"]) = true := by decide +kernel
  rw [e] at h; exact h
theorem s_nin1 : EV (notInD (.str (nS "InvalidText")) (.tup [.str (nS ""), .str (nS "InvalidText")])) s Q E ↔ Q (.bl false) s := by
  have h := s_ninTs (s := s) (Q := Q) (E := E) (z := nS "InvalidText") (zs := [nS "", nS "InvalidText"])
  have e : decide (nS "InvalidText" ∈ [nS "", nS "InvalidText"]) = true := by decide +kernel
  rw [e] at h; exact h
theorem s_dnI {tb : List (Str × EqT)} {i j : Int} : EV (dunNe tb neD (.int i) (.int j)) s Q E ↔ EV (neD (.int i) (.int j)) s Q E := Iff.rfl
theorem s_mulX60 : EV (mulX (.str (Str.ofString "0")) (.int 60)) s Q E ↔ Q (.str (repS (Str.ofString "0") 60)) s := s_okeq (by
  show (if 2 ≤ (60 : Int) ∧ (60 : Int) ≤ 1000 ∧ 0 < (Str.ofString "0").length ∧ (Str.ofString "0").length ≤ 1000 then pure (.str (repS (Str.ofString "0") (60 : Int).toNat)) else no : M D) s = _
  rw [if_pos (by decide +kernel)]
  rfl)
theorem s_pow9 : EV (powD (.int 10) (.int 9)) s Q E ↔ Q (.int 1000000000) s := s_okeq (by
  show (if 0 ≤ (9 : Int) ∧ (9 : Int) ≤ 1000000 ∧ (10 : Int).natAbs < 2 ^ 64 then pure (.int ((10 : Int) ^ (9 : Int).toNat)) else no : M D) s = _
  rw [if_pos (by decide)]
  rfl)
theorem odd_len1 : (Str.ofString "1").length + (repS (Str.ofString "0") 60).length ≤ 1000000 := by decide +kernel
theorem odd_len2 : (Str.ofString "1" ++ repS (Str.ofString "0") 60).length + (Str.ofString " a").length ≤ 1000000 := by decide +kernel
theorem sum_rev (zs : List Str) : (zs.reverse.map (·.length)).sum = (zs.map (·.length)).sum := by
  induction zs with
  | nil => rfl
  | cons a l ih => rw [List.reverse_cons, List.map_append, List.sum_append, ih]; simp; omega
/-- the text of few small numbers is short -/
theorem txt_len {qs : AL} (h : Gd qs) (hl : qs.length ≤ 4) (hb : ∀ p ∈ qs, p.2 ≤ 1000000000) : (txtP qs).length ≤ 80 := by
  unfold txtP
  by_cases hne : qs = []
  · rw [if_pos hne]; decide +kernel
  · rw [if_neg hne, TL.join_eq, join_len _ _ (fun e => hne (List.map_eq_nil_iff.mp e)), pl_len, List.length_map]
    have h1 : ∀ z ∈ qs.map rowP, z.length ≤ 17 := fun z hz => by
      obtain ⟨p, hp, rfl⟩ := List.mem_map.mp hz
      obtain ⟨n, e, n0, _⟩ := h.nat hp
      have h2 := hb p hp
      have hn : n < 10 ^ 10 := by
        rw [e] at h2
        have : (10 : Nat) ^ 10 = 10000000000 := by decide
        omega
      have h3 : (TL.numL n).length ≤ 10 := TL.numL_len (by decide) hn
      have h4 := (nm_len (h.nm p hp)).2
      unfold rowP
      rw [Str.length_append, Str.length_append, sp_len, e, TL.len_tl (numS (n : Int)), tl_numS]
      omega
    have h2 := sum_le (f := fun z : Str => z.length) (k := 17) h1
    rw [List.length_map] at h2
    omega
theorem rev_len {T : Str} (h : T.length ≤ 80) : ((Txt.split T (nS " + ")).reverse.map (·.length)).sum + (Txt.split T (nS " + ")).reverse.length * (nS " + ").length ≤ 1000000 ∧ (Txt.join (nS " + ") (Txt.split T (nS " + ")).reverse).length ≤ 80 := by
  have hj := PySem.StrLaws.join_split T (nS " + ")
  rcases split_ne T (nS " + ") with hne | h0
  · have h1 := join_len (nS " + ") _ hne
    rw [hj, pl_len] at h1
    rw [TL.join_eq, join_len _ _ (fun e => hne (List.reverse_eq_nil_iff.mp e)), sum_rev, List.length_reverse, pl_len]
    omega
  · subst h0; decide +kernel
/-! the last heap -/
def H2 : AL := [(nS "a", 1), (nS "b", 1)]
def H2r : AL := [(nS "b", 1), (nS "a", 1)]
theorem h2_gd : Gd H2 := ⟨⟨by decide +kernel, by decide +kernel⟩, by decide +kernel, by decide +kernel, by decide⟩
theorem h2_txt : nS "1 a + 1 b" = txtP H2 := by decide +kernel
theorem h2r_dk : Dk H2r := ⟨by decide +kernel, by decide +kernel, by decide +kernel, by decide +kernel, by decide⟩
theorem h2r_norm : normP H2r = H2 := by decide +kernel
theorem s_readK (hs : PSt s) : EV (m_Heap_read [.str (nS "1 a + 1 b")]) s Q E ↔ Q (hp H2) s := by rw [h2_txt]; exact s_read h2_gd hs
theorem s_hof2 {z1 z2 : Str} (ez1 : z1 = nS "b") (ez2 : z2 = nS "a") (hs : PSt s) : EV (m_Heap_of [.tup [.str z1, .str z2]]) s Q E ↔ Q (hp H2) s := by
  refine s_of_ev (w_run (ρ := [.val (.tup [.str z1, .str z2]), .no, .no]) rfl ?_)
  unfold b_Heap_of
  simp_all! [kD0]
  refine w_forP ?_
  simp_all! []
  have ha : nm z2 = true := by rw [ez2]; decide +kernel
  have hb : nm z1 = true := by rw [ez1]; decide +kernel
  have hne : z1 ≠ z2 := by rw [ez1, ez2]; decide +kernel
  have la := nm_len ha
  have lb := nm_len hb
  refine ForP.mk (fun i ρ => ∃ x, ρ = [.val (.tup [.str z1, .str z2]), .own (.dic (dcP (([(z1, 1), (z2, 1)] : AL).take i))), x]) ⟨_, rfl⟩ ?_ ?_
  · rintro i d ρ hd hi ⟨x, rfl⟩
    have hi : i < 2 := hi
    have h01 : i = 0 ∨ i = 1 := by omega
    rcases h01 with rfl | rfl
    · cases hd
      refine ⟨_, by trivial, ?_⟩
      simp_all! [s_is_name (z := z1) (by omega), hb, s_rs1]
      refine w_putO (ks := []) (by rfl) (by decide) ?_
      simp_all! [eGet2, s_dicQ, s_get2]
      exact ⟨z1, rfl, rfl, _, rfl⟩
    · cases hd
      refine ⟨_, by trivial, ?_⟩
      simp_all! [s_is_name (z := z2) (by omega), ha, s_rs1]
      refine w_putO (ks := dcP [(z1, 1)]) (by rfl) (by rw [len_dcP]; show 1 < 1000000; decide) ?_
      have hg : (getK (dcP (([(z1, 1), (z2, 1)] : AL).take 1)) (.inr z2)).getD (.int 0) = .int 0 := by
        rw [getK_dcP]
        have : cnt (([(z1, 1), (z2, 1)] : AL).take 1) z2 = none := by rw [ez1, ez2]; decide +kernel
        rw [this]; rfl
      simp_all! [eGet2, s_dicQ, s_get2]
      rw [hg]
      simp_all! []
      refine ⟨z2, rfl, .val (.str z2), ?_⟩
      have e : putD (dcP [(z1, 1)]) (.inr z2) (.int 1) = dcP (([(z1, 1), (z2, 1)] : AL).take 2) := by
        rw [putD_dcP, putP_new (by simpa using fun e => hne e.symm)]; rfl
      rw [← e]
  · rintro ρ ⟨x, rfl⟩
    have e2 : ([(z1, 1), (z2, 1)] : AL).take ([D.str z1, D.str z2].length) = [(z1, 1), (z2, 1)] := rfl
    have hdk : Dk [(z1, 1), (z2, 1)] := by rw [ez1, ez2]; exact h2r_dk
    have hnr : normP [(z1, 1), (z2, 1)] = H2 := by rw [ez1, ez2]; exact h2r_norm
    rw [e2, s_seq, s_frz0 rfl]
    simp_all! [eMk, s_chk1, s_mkH hdk hs, hnr]
theorem s_hof {z1 z2 : Str} (ez1 : z1 = nS "b") (ez2 : z2 = nS "a") (hs : PSt s) : EV (callR 2 0 m_Heap_of [.str z1, .str z2]) s Q E ↔ Q (hp H2) s := by
  have ecr : callR 2 0 m_Heap_of [.str z1, .str z2] = m_Heap_of [.tup [.str z1, .str z2]] := by
    show (if 2 = 2 ∧ 0 ≤ 2 ∧ 2 ≤ 1000 then _ else _ : M D) = _
    rw [if_pos (by decide)]; rfl
  rw [ecr]
  exact s_hof2 ez1 ez2 hs
end

end PV.LW
end

section
namespace PV.LW
open PySem PySem.Spec L2
open PyProof.Rows hiding St
local macro_rules | `(tactic| simp_all! [$ls,*]) => `(tactic| simp -dsimp (disch := first | assumption | omega | (simp only [List.length_cons, List.length_nil]; omega) | decide) only [s_brT, s_brF, s_pure, s_Mpure, s_bind, s_if, s_raise, s_getV0, s_getR0, s_getO0, s_getV, s_getR, s_seq, s_nil, s_set, s_setO, s_ret, s_drop, s_sif, s_par, s_slotT, s_slotF, s_add, s_sub, s_lt, s_le, s_gt, s_ge, s_toint, s_tointB, s_asB, s_notD, s_negD, s_absD, s_trB, s_trI, s_trL, s_trTu, s_trN, s_asI, s_asS, s_eqI, s_neI, s_eqB, s_neB, s_eqS, s_neS, s_ltS, s_leS, s_lenL, s_lenT, s_lenD, s_lenS, s_addS, s_addL, s_catL, s_mul, s_mod, s_fdiv, s_lst0, s_lst, s_tup, s_listL, s_listT, s_slL, s_slLL, s_slS, s_seqL, s_seqT, s_seqS, s_rng1, s_zip, s_enum, s_atM, s_inS, s_c1, s_c2, s_c3, s_c4, s_c5, s_k1, s_k2, s_k2', s_p1k1, s_isiAny1, s_isiAny0, s_iNI, s_iNS, s_iNB, s_iNL, s_iNT, s_iND, s_iBI, s_iBS, s_iBB, s_iBL, s_iBT, s_iBD, s_iII, s_iIS, s_iIB, s_iIL, s_iIT, s_iID, s_iSI, s_iSS, s_iSB, s_iSL, s_iST, s_iSD, s_iLI, s_iLS, s_iLB, s_iLL, s_iLT, s_iLD, s_iTI, s_iTS, s_iTB, s_iTL, s_iTT, s_iTD, s_iDI, s_iDS, s_iDB, s_iDL, s_iDT, s_iDD, wipeE, e1, e2, eNil, eCons, kI, kS, kB, kN, tCmp, tChn, eChn, tNot, tAnd, tOr, eAnd, eOr, eIf, eIsi, eIsiT, eIsN, eNotN, tIsN, tNotN, eJoin, eSl, pN, eCal, eCal0, tYesM, isNonB, List.set_cons_zero, List.set_cons_succ, List.length_cons, List.length_nil, List.map_cons, List.map_nil, List.isEmpty_cons, List.isEmpty_nil, Bool.not_true, Bool.not_false, decide_true, decide_false, and_self, true_and, and_true, Int.reduceAdd, Int.reduceSub, Int.reduceMul, Int.reduceNeg, Int.reduceLE, Int.reduceLT, Int.reduceEq, Int.reduceNe, Int.reduceToNat, Int.reducePow, Nat.reduceAdd, Nat.reduceSub, Nat.reduceMul, Nat.reduceLeDiff, Nat.reduceLT, Nat.reduceEqDiff, Int.le_refl, Int.reduceBNe, Nat.reduceBNe, $ls,*])
local macro_rules | `(tactic| trivial) => `(tactic| (simp only [gNm, gTp, gsCons, gsNil, wipeE, Option.bind, List.set_cons_zero, List.set_cons_succ, List.length_cons, List.length_nil, if_true]; exact rfl))
variable [TP]
section
variable {s : Stt} {Q : D → Stt → Prop} {E : Err → Stt → Prop}
theorem dat_tupT : (D.tup [.str (nS "InvalidText"), .int 0]).dat 11 = true := by decide +kernel
theorem eqE : decide (nS "InvalidText" = nS "") = false := by decide +kernel
theorem eqE2 : decide (nS "" = nS "") = true := by decide +kernel
theorem ev_err {x : M D} {e : Err} (h : x s = .err e s) (q : E e s) : EV x s Q E := by
  unfold EV; rw [h]; exact q
theorem law_main (ns : List Int) : EV (m_law TP.a [.lst (ns.map D.int)]) [T0] (fun d _ => d = .bl true) NoE := by
  refine w_run (ρ := [.val (.lst (ns.map D.int)), .no, .no, .no, .no, .no, .no, .no, .no, .no, .no, .no]) rfl ?_
  unfold b_law
  simp_all! []
  refine ev_bg fun bag hbag => ?_
  simp_all! []
  rw [s_sto rfl]
  simp_all! []
  refine w_forB ?_
  simp_all! []
  refine ForB.mk 100 (fun i ρ => ∃ a2 a3 a4 a5 a6 a7 a8 a9 a10 a11 : Slot, ρ = [.val (.lst (ns.map D.int)), .val (.obj 1), a2, a3, a4, a5, a6, a7, a8, a9, a10, a11]) (hbag []) ⟨_, _, _, _, _, _, _, _, _, _, rfl⟩ ?_ ?_
  · rintro i d ρ s hd hi ⟨a2, a3, a4, a5, a6, a7, a8, a9, a10, a11, rfl⟩ hB
    have hi : i < 6 := by simpa [rangeD] using hi
    refine ⟨_, by trivial, ?_⟩
    simp_all! []
    refine ev_dr hB (by omega) (by omega) (by omega) fun r s hr0 hr1 hB => ?_
    simp_all! []
    refine ev_words hB (by omega) (by omega) (by omega) fun ws s hwl hwn hB => ?_
    simp_all! [s_pow9]
    refine ev_dr hB (by omega) (by omega) (by omega) fun r2 s hr20 hr21 hB => ?_
    simp_all! []
    refine ev_counts (ms := [0, 1, 2, 30, 1 + r2]) (b := 1000000000) hB (by omega) hwn (by omega) (by simp) (by simp) ?_ (by decide) fun ps s hps hpl hpb hB => ?_
    · intro m hm
      simp only [List.mem_cons, List.not_mem_nil, or_false] at hm
      rcases hm with rfl | rfl | rfl | rfl | rfl <;> omega
    have hst := hB.pst
    have g1 := hps.gd
    have hT := txt_len g1 (by have := norm_len hps.dk.dn; omega) (fun p hp => hpb p (norm_mem hps.dk.dn hp))
    have hsplit : (((Str.ofString " + ").length == 0) = false ∧ (txtP (normP ps)).length + 2 ≤ SIZE) := ⟨by decide +kernel, by show _ ≤ 1000000; omega⟩
    simp_all! [s_ltext hps, eTx, s_split hsplit]
    have hrd : ∀ {s : Stt} {Q : D → Stt → Prop} {E : Err → Stt → Prop}, PSt s → (EV (m_Heap_read [.str (txtP (normP ps))]) s Q E ↔ Q (hp (normP ps)) s) := fun {s Q E} hs => s_read g1 hs
    generalize hTT : txtP (normP ps) = T at *
    refine ev_dr hB (by omega) (by omega) (by omega) fun at_ s ha0 ha1 hB => ?_
    simp_all! []
    refine ev_olP (fun d => ∃ t : Str, d = .str t ∧ t.length ≤ 3) ?_ hB (by omega) (by simp) (by simp) fun d s hd hB => ?_
    · intro d hd
      simp only [List.mem_cons, List.not_mem_nil, or_false] at hd
      rcases hd with rfl | rfl | rfl | rfl | rfl | rfl | rfl | rfl | rfl | rfl <;> exact ⟨_, rfl, by decide +kernel⟩
    obtain ⟨sg, rfl, hsg⟩ := hd
    have c1 := cut_len2 T none (some at_)
    have c2 := cut_len2 T (some at_) none
    have c3 := cut_len2 T (some (at_ + 1)) none
    obtain ⟨v1, v2⟩ := rev_len hT
    simp_all! [s_slS (z := T) (by omega), s_addS (a := cutS T none (some at_)) (b := sg) (by omega), s_addS (a := cutS T none (some at_) ++ sg) (b := cutS T (some at_) none) (by rw [Str.length_append]; omega), s_addS (a := cutS T none (some at_)) (b := cutS T (some (at_ + 1)) none) (by omega), s_addS (a := cutS T none (some at_) ++ sg) (b := cutS T (some (at_ + 1)) none) (by rw [Str.length_append]; omega), s_revS, s_joinS v1]
    refine ev_olP (fun d => ∃ t : Str, d = .str t ∧ t.length ≤ 175) ?_ hB (by omega) (by simp) (by simp) fun d s hd hB => ?_
    · intro d hd
      simp only [List.mem_cons, List.not_mem_nil, or_false] at hd
      rcases hd with rfl | rfl | rfl | rfl
      · exact ⟨_, rfl, by rw [Str.length_append, Str.length_append]; omega⟩
      · exact ⟨_, rfl, by rw [Str.length_append]; omega⟩
      · exact ⟨_, rfl, by rw [Str.length_append, Str.length_append]; omega⟩
      · exact ⟨_, rfl, by omega⟩
    obtain ⟨z, rfl, hz⟩ := hd
    simp_all! []
    have hst := hB.pst
    refine ev_try hB ?_
    simp_all! [eSm]
    refine ev_read hz hst ⟨_, try_t, ?_⟩ fun qs gq hq => ?_
    · simp_all! [s_it0, s_it1, eqE, s_nin1, s_dnI, s_mulX60, s_addS odd_len1, s_addS odd_len2]
      refine ev_olP (fun d => d ∈ oddL) (fun d hd => hd) hB (by omega) (by decide) (by decide) fun d s hd hB => ?_
      have hst := hB.pst
      have ho := odd_err s d hd
      simp_all! []
      refine ev_try hB ?_
      simp_all! [eSm]
      refine ev_err ho ⟨_, try_t, ?_⟩
      simp_all! [s_sm dat_tupT, hrd hst, s_hso g1.ok (by have := g1.wd; omega) hps rfl]
      exact ⟨⟨_, _, _, _, _, _, _, _, _, _, rfl⟩, hB.le (by omega)⟩
    · subst hq
      simp_all! [s_it0, s_it1, eqE2, s_nin0, eMeth0, s_mT, s_c1q, s_text gq.dk, s_sm dat_str, s_mulX60, s_addS odd_len1, s_addS odd_len2]
      refine ev_olP (fun d => d ∈ oddL) (fun d hd => hd) hB (by omega) (by decide) (by decide) fun d s hd hB => ?_
      have hst := hB.pst
      have ho := odd_err s d hd
      simp_all! []
      refine ev_try hB ?_
      simp_all! [eSm]
      refine ev_err ho ⟨_, try_t, ?_⟩
      simp_all! [s_sm dat_tupT, hrd hst, s_hso g1.ok (by have := g1.wd; omega) hps rfl]
      exact ⟨⟨_, _, _, _, _, _, _, _, _, _, rfl⟩, hB.le (by omega)⟩
  · rintro ρ s ⟨a2, a3, a4, a5, a6, a7, a8, a9, a10, a11, rfl⟩ hB
    have hst := hB.pst
    simp_all! [eSm, s_readK hst, s_hof (z1 := nS "b") (z2 := nS "a") rfl rfl hst, s_dunEqH h2_gd.ok h2_gd.ok]
omit [TP] in
theorem law_true (tP : Addr) (ns : List Int) (h1 : ns.length ≤ 63) (h2 : ∀ z ∈ ns, Builtin.Int.intBits z ≤ 1048576) : ∃ st, m_law tP [.lst (ns.map D.int)] [.tab qLam tP] = .ok (.bl true) st := by
  letI : TP := ⟨tP⟩
  obtain ⟨a, st, e1, rfl⟩ := ev_get (law_main ns)
  exact ⟨st, e1⟩
end

end PV.LW
end

open PySem PySem.W PySem.Calls PyProof.Rows
theorem PySem.Challenge.cw_forkmeet_k07_texts_that_are_no_heaps_holds : PySem.Challenge.rw_forkmeet_k07_texts_that_are_no_heaps.Holds := by
  w_on; o_law
  refine HandSHeadRun.head_any (r := OpenLaw.row PySem.Challenge.rw_forkmeet_k07_texts_that_are_no_heaps) (q := view (OpenLaw.row PySem.Challenge.rw_forkmeet_k07_texts_that_are_no_heaps).prog [31]) (H := PV.LW.hk) (ob := PV.LW.ob) (M := 40000) (loose := PV.LW.loose) (d := HandSHeadRun.topDef (OpenLaw.row PySem.Challenge.rw_forkmeet_k07_texts_that_are_no_heaps).prog 31) (kwd := []) PV.LW.ob_eq
    (by kernel_rfl) (fun s => by kernel_rfl) PV.LW.run (by kernel_rfl) (by kernel_rfl) (by kernel_rfl) (by rfl) (by first | assumption | decide +kernel) (by decide +kernel) ⟨rfl, rfl, rfl, rfl, rfl, by decide +kernel⟩ ?hw ?hc
  case hw => w_witness2
  case hc =>
    refine PV.walk_pvT (l := PySem.Challenge.rw_forkmeet_k07_texts_that_are_no_heaps) (n := 63) (k := 15) (x := (Str.ofString "_law_script")) (lq := PV.LW.qLam) (tf := ((Str.ofString "law"), none)) rfl (by decide) (by kernel_rfl) ⟨rfl, by decide, by decide⟩ ?F
    intro w mg fa h Y G hmg0
    obtain ⟨K, KX, c, tk⟩ := Y
    have hmg : mg ((Str.ofString "law") : PySem.Str) = some (.ref fa) := by
      have e : (HandSHeadRun.topDef (OpenLaw.row PySem.Challenge.rw_forkmeet_k07_texts_that_are_no_heaps).prog 31).name = ((Str.ofString "law") : PySem.Str) := by kernel_rfl
      rw [← e]
      exact hmg0
    have hd := PV.LW.facts KX G c
    obtain ⟨fd, F⟩ := hd.d_law
    have e := hmg.symm.trans hd.g_law
    cases e
    have b := L2.FunD.bindsA (ps := PV.LW.ps_law) F fun _ _ _ _ _ _ us hl => match us, hl with | [_], _ => rfl
    refine ⟨K, He.ga K, fd, PV.LW.m_law (He.cT K ((Str.ofString "law"), none)).2, KX, tk _ (List.mem_singleton.mpr rfl), fun s v => b s [v] rfl, fun ns h1 h2 => PV.LW.law_true _ ns h1 h2, fun base _ TB => ?_⟩
    exact PV.LW.fn_law (P := (PySem.Challenge.rw_forkmeet_k07_texts_that_are_no_heaps).prog) (w := w) (base := base) hd F TB
