import PyProof.Rows.All
import Wide.All
import OpenK.AllK
import Wide.FinOn
import HandS.ForMost
import HandS.Star
import HandS.SlotsOwn
import HandS.DictComp
import HandS.Deep
import HandS.IsInst
import HandS.Exc
import HandS.ExcOwn
import HandS.WordsExc
import HandS.TupAny
import HandS.Conv
import HandS.SetKeys
import HandS.Zip
import HandS.Style
import HandS.Walk
import HandS.Lambda
import KE.GoesEnum
import HandS.NoneIn
import HandS.Defaults
import HandS.Iter
import HandS.Small
import PyProof.ReprRoads
import KE.KDictDisplayH
import HandS.NamedTupGet
import HandS.DictEq
import KE.KExcSuper
import HandS.ExcInit
import HandS.ExcSuper
import HandS.Keys
import HandS.ExcValue
import HandS.ExcBuiltin
import HandS.ExcField
import KE.KExcIs
import PySem.Challenge.RW_sparebooks_k00_errors_and_what_they_keep
set_option Elab.async false
set_option linter.all false
set_option maxRecDepth 100000
set_option maxHeartbeats 4000000
namespace VL
open PySem PySem.Spec PyProof.Rows L2
inductive D where
  | non | bl (b : Bool) | int (i : Int) | str (s : Str)
  | tup (l : List D) | lst (l : List D) | dct (l : List (Key × D)) | dtt (l : List (List Key × D))
  | obj (c : Nat) (l : List D) | exc (c : Nat) (v : D) | clo (c : Nat) (l : List D) | etu | pot | tok (a : Nat) | vex
instance : Inhabited D := ⟨.non⟩
structure Wd where
  K : PySem.W.Frag
  cls : Nat → Addr
  P : Addr
def ExcO (a C dx : Addr) : HO := .ext fun h => ∃ (oe : Obj) (vs : Array Value), h.get? a = some oe ∧ Zc (.ref C) (some dx) oe ∧ oe.data = .fields vs
def VexO (a : Addr) : HO := .ext fun h => ∃ (oe : Obj) (vs : Array Value), h.get? a = some oe ∧ Zc (.type "ValueError") none oe ∧ oe.data = .fields vs
mutual
/-- in the heap H the value v reads as d -/
inductive At (W : Wd) (H : Hp) : V → D → Prop
  | non : At W H .non .non
  | bl (b : Bool) : At W H (.bl b) (.bl b)
  | int (i : Int) : At W H (.int i) (.int i)
  | str (x : Str) : At W H (.str x) (.str x)
  | tup {a : Addr} {xs : List V} {ds : List D} : H a = some (.tup xs) → xs.length ≤ sizeLine → AtAll W H xs ds → At W H (.ref a) (.tup ds)
  | lst {a : Addr} {xs : List V} {ds : List D} : H a = some (.lst xs) → xs.length ≤ sizeLine → AtAll W H xs ds → At W H (.ref a) (.lst ds)
  | dct {a : Addr} {ks : List (Key × V)} {ds : List (Key × D)} : Rd H a (.dK ks) → ks.length ≤ sizeLine → AtKv W H ks ds → At W H (.ref a) (.dct ds)
  | dtt {a : Addr} {ks : List (List Key × V)} {ds : List (List Key × D)} : Rd H a (.dT ks) → ks.length ≤ sizeLine → ks.map (·.1) = ds.map (·.1) → AtAll W H (ks.map (·.2)) (ds.map (·.2)) → At W H (.ref a) (.dtt ds)
  | obj {a dx : Addr} {c : Nat} {xs : List V} {ds : List D} : SlX.Slt H a (W.cls c) dx (xs.map some) → AtAll W H xs ds → At W H (.ref a) (.obj c ds)
  | exc {a dx : Addr} {c : Nat} {u : V} {d : D} : H a = some (ExcO a (W.cls c) dx) → H dx = some (.xd [(("value" : Str), u)]) → At W H u d → At W H (.ref a) (.exc c d)
  | etu {a : Addr} : SqT W.K H a [] → At W H (.ref a) .etu
  | pot : At W H (.ref W.P) .pot
  | tok (a : Addr) : At W H (.ref a) (.tok a)
  | vex {a : Addr} : H a = some (VexO a) → At W H (.ref a) .vex
inductive AtAll (W : Wd) (H : Hp) : List V → List D → Prop
  | nil : AtAll W H [] []
  | cons {v : V} {d : D} {vs : List V} {ds : List D} : At W H v d → AtAll W H vs ds → AtAll W H (v :: vs) (d :: ds)
inductive AtKv (W : Wd) (H : Hp) : List (Key × V) → List (Key × D) → Prop
  | nil : AtKv W H [] []
  | cons {k : Key} {v : V} {d : D} {vs : List (Key × V)} {ds : List (Key × D)} : At W H v d → AtKv W H vs ds → AtKv W H ((k, v) :: vs) ((k, d) :: ds)
end
section
variable {W : Wd} {H H' : Hp}
theorem Same.rd {a : Addr} {u : HO} (e : Same H H') : Rd H a u → Rd H' a u
  | .inl h => .inl (e _ _ h)
  | .inr ⟨o, h⟩ => .inr ⟨o, e _ _ h⟩
theorem Same.sqT {K : PySem.W.Frag} {a : Addr} {xs : List V} (e : Same H H') : SqT K H a xs → SqT K H' a xs
  | .inl h => .inl (Same.rd e h)
  | .inr h => .inr h
theorem Same.slt {a C dx : Addr} {vs : List (Option V)} (e : Same H H') : SlX.Slt H a C dx vs → SlX.Slt H' a C dx vs
  | .inl ⟨h, z⟩ => .inl ⟨e _ _ h, z⟩
  | .inr ⟨h, z⟩ => .inr ⟨e _ _ h, e _ _ z⟩
mutual
theorem At.mono (e : Same H H') : ∀ {v : V} {d : D}, At W H v d → At W H' v d
  | _, _, .non => .non
  | _, _, .bl b => .bl b
  | _, _, .int i => .int i
  | _, _, .str x => .str x
  | _, _, .tup h z r => .tup (e _ _ h) z (AtAll.mono e r)
  | _, _, .lst h z r => .lst (e _ _ h) z (AtAll.mono e r)
  | _, _, .dct h z r => .dct (Same.rd e h) z (AtKv.mono e r)
  | _, _, .dtt h z q r => .dtt (Same.rd e h) z q (AtAll.mono e r)
  | _, _, .obj h r => .obj (Same.slt e h) (AtAll.mono e r)
  | _, _, .exc h1 h2 r => .exc (e _ _ h1) (e _ _ h2) (At.mono e r)
  | _, _, .etu h => .etu (Same.sqT e h)
  | _, _, .pot => .pot
  | _, _, .tok a => .tok a
  | _, _, .vex h => .vex (e _ _ h)
theorem AtAll.mono (e : Same H H') : ∀ {v : List V} {d : List D}, AtAll W H v d → AtAll W H' v d
  | _, _, .nil => .nil
  | _, _, .cons h r => .cons (At.mono e h) (AtAll.mono e r)
theorem AtKv.mono (e : Same H H') : ∀ {v : List (Key × V)} {d : List (Key × D)}, AtKv W H v d → AtKv W H' v d
  | _, _, .nil => .nil
  | _, _, .cons h r => .cons (At.mono e h) (AtKv.mono e r)
end
theorem sq_of {K : PySem.W.Frag} {a : Addr} {xs : List V} (h : H a = some (.tup xs)) : SqT K H a xs := .inl (.inl h)
theorem AtAll.len : ∀ {v : List V} {d : List D}, AtAll W H v d → v.length = d.length
  | _, _, .nil => rfl
  | _, _, .cons _ r => by simp [r.len]
theorem AtAll.get : ∀ {v : List V} {d : List D} {i : Nat} {x : V}, AtAll W H v d → v[i]? = some x → ∃ y, d[i]? = some y ∧ At W H x y
  | _, _, _, _, .nil, e => by simp at e
  | _, _, 0, _, .cons h _, e => by simp at e; subst e; exact ⟨_, rfl, h⟩
  | _, _, i + 1, x, .cons _ r, e => by
    obtain ⟨y, e1, h⟩ := r.get (i := i) (x := x) (by simpa using e)
    exact ⟨y, by simpa using e1, h⟩
theorem AtAll.get' : ∀ {v : List V} {d : List D} {i : Nat} {y : D}, AtAll W H v d → d[i]? = some y → ∃ x, v[i]? = some x ∧ At W H x y
  | _, _, _, _, .nil, e => by simp at e
  | _, _, 0, _, .cons h _, e => by simp at e; subst e; exact ⟨_, rfl, h⟩
  | _, _, i + 1, x, .cons _ r, e => by
    obtain ⟨y, e1, h⟩ := r.get' (i := i) (y := x) (by simpa using e)
    exact ⟨y, by simpa using e1, h⟩
theorem AtAll.append : ∀ {v v' : List V} {d d' : List D}, AtAll W H v d → AtAll W H v' d' → AtAll W H (v ++ v') (d ++ d')
  | _, _, _, _, .nil, s => s
  | _, _, _, _, .cons h r, s => .cons h (r.append s)
theorem AtAll.take : ∀ {v : List V} {d : List D} (n : Nat), AtAll W H v d → AtAll W H (v.take n) (d.take n)
  | _, _, 0, _ => by simp; exact .nil
  | _, _, n + 1, .nil => .nil
  | _, _, n + 1, .cons h r => .cons h (r.take n)
theorem AtAll.drop : ∀ {v : List V} {d : List D} (n : Nat), AtAll W H v d → AtAll W H (v.drop n) (d.drop n)
  | _, _, 0, h => h
  | _, _, n + 1, .nil => .nil
  | _, _, n + 1, .cons h r => r.drop n
theorem AtAll.set : ∀ {v : List V} {d : List D} {x : V} {y : D} (n : Nat), At W H x y → AtAll W H v d → AtAll W H (v.set n x) (d.set n y)
  | _, _, _, _, _, _, .nil => .nil
  | _, _, _, _, 0, h, .cons _ r => .cons h r
  | _, _, _, _, n + 1, h, .cons a r => .cons a (r.set n h)
theorem AtKv.len : ∀ {v : List (Key × V)} {d : List (Key × D)}, AtKv W H v d → v.length = d.length
  | _, _, .nil => rfl
  | _, _, .cons _ r => by simp [r.len]
end
abbrev Pot := Int × Int × Int
inductive R (α : Type) where
  | ok (a : α) (s : Pot)
  | err (c : Nat) (v : D) (s : Pot)
  | fail
def M (α : Type) : Type := Pot → R α
def M.bnd {α β : Type} (m : M α) (f : α → M β) : M β := fun s => match m s with
  | .ok a s' => f a s'
  | .err c v s' => .err c v s'
  | .fail => .fail
def M.ret {α : Type} (a : α) : M α := fun s => .ok a s
def nope {α : Type} : M α := fun _ => .fail
def boom {α : Type} (c : Nat) (v : D) : M α := fun s => .err c v s
instance : Monad M where
  pure := M.ret
  bind := M.bnd
def chk (b : Bool) : M Unit := fun s => if b = true then .ok () s else .fail
@[simp] theorem bind_run {α β : Type} (m : M α) (f : α → M β) (s : Pot) : (m >>= f) s = (match m s with | .ok a s' => f a s' | .err c v s' => .err c v s' | .fail => .fail) := rfl
@[simp] theorem pure_run {α : Type} (a : α) (s : Pot) : (pure a : M α) s = .ok a s := rfl
@[simp] theorem nope_run {α : Type} (s : Pot) : (nope : M α) s = .fail := rfl
@[simp] theorem boom_run {α : Type} (c : Nat) (v : D) (s : Pot) : (boom c v : M α) s = .err c v s := rfl
@[simp] theorem chk_run (b : Bool) (s : Pot) : chk b s = if b = true then .ok () s else .fail := rfl
def Post {α : Type} (A : α → Pot → Prop) (B : Nat → D → Pot → Prop) : R α → Prop
  | .ok a s => A a s
  | .err c v s => B c v s
  | .fail => False
theorem post_bind {α β : Type} {A : β → Pot → Prop} {B : Nat → D → Pot → Prop} {m : M α} {f : α → M β} {s : Pot} : Post A B ((m >>= f) s) ↔ Post (fun a s' => Post A B (f a s')) B (m s) := by
  rw [bind_run]
  cases m s <;> exact Iff.rfl
theorem post_pure {α : Type} {A : α → Pot → Prop} {B : Nat → D → Pot → Prop} {a : α} {s : Pot} : Post A B ((pure a : M α) s) ↔ A a s := by rw [pure_run]; exact Iff.rfl
theorem Post.imp {α : Type} {A A' : α → Pot → Prop} {B B' : Nat → D → Pot → Prop} {r : R α} (h : Post A B r) (ha : ∀ a s, A a s → A' a s) (hb : ∀ c v s, B c v s → B' c v s) : Post A' B' r := by
  cases r with
  | ok a s => exact ha _ _ h
  | err c v s => exact hb _ _ _ h
  | fail => exact h
def potO (s : Pot) : HO := .lst [.int s.1, .int s.2.1, .int s.2.2]
def lamQ : List Str := ["_law_right", "_law_is_due", "_law_told", "_law_is_house_right", "_law_are_lanes_right"]
def tabsOf (cls : Nat → Addr) : List (Addr × Str) := (List.range (cls 1000)).map fun i => (cls (1001 + 2 * i), ((lamQ.getD (cls (1002 + 2 * i)) "") ++ (".<locals>." : Str)) ++ ("<lambda>" : Str))
def NoT (o : HO) : Prop := (∀ ps, o ≠ .tbl ps) ∧ ∀ c q, o ≠ LamX.CodeO c q
theorem noT_lst (xs : List V) : NoT (.lst xs) := ⟨(fun _ z => by cases z), fun c q z => by unfold LamX.CodeO at z; cases z⟩
theorem noT_slO (a C dx : Addr) (vs : List (Option V)) : NoT (SlX.SlO a C dx vs) := by
  refine ⟨(fun _ z => by unfold SlX.SlO at z; cases z), fun c q z => ?_⟩
  unfold SlX.SlO LamX.CodeO at z
  have z := HO.ext.inj z
  let oc : Obj := { cls := .none, data := .fields #[.none, .str q 0] }
  have := congrFun z { objs := Array.replicate (a + c + 1) oc }
  have g : ∀ b, b < a + c + 1 → Heap.get? { objs := Array.replicate (a + c + 1) oc } b = some oc := fun b hb => by
    have e : (Array.replicate (a + c + 1) oc)[b]? = some oc := by
      rw [Array.getElem?_replicate, if_pos hb]
    unfold Heap.get?
    show (match (Array.replicate (a + c + 1) oc)[b]? with | some ⟨_, _, .freed, _⟩ => none | o => o) = some oc
    rw [e]
  have r : ∃ sl : Array (Option Value), Heap.get? { objs := Array.replicate (a + c + 1) oc } a = some { PySem.W.instObj C dx with slots := sl } ∧ SlX.SlR vs sl := this.mpr ⟨oc, #[.none, .str q 0], 0, g c (Nat.lt_succ_of_le (Nat.le_add_left c a)), rfl, rfl⟩
  obtain ⟨sl, h1, _⟩ := r
  rw [g a (Nat.lt_succ_of_le (Nat.le_add_right a c))] at h1
  have h2 := congrArg Obj.data (Option.some.inj h1)
  cases h2
theorem tabS_upd {H : Hp} {P : Addr} {q : Str} {p : Addr} {o u : HO} (t : LamX.TabS H P q) (hp : H p = some u) (n : NoT u) : LamX.TabS (upd H p o) P q := by
  obtain ⟨ps, h1, h2, h3⟩ := t
  refine ⟨ps, ?_, h2, fun pos cv hc => ?_⟩
  · rw [upd_ne (fun z => by rw [z, hp] at h1; cases h1; exact n.1 _ rfl)]; exact h1
  · obtain ⟨c, e1, e2⟩ := h3 pos cv hc
    refine ⟨c, e1, ?_⟩
    rw [upd_ne (fun z => by rw [z, hp] at e2; cases e2; exact n.2 _ _ rfl)]; exact e2
theorem tabs_upd {H : Hp} {T : List (Addr × Str)} {p : Addr} {o u : HO} (t : LamX.Tabs T H) (hp : H p = some u) (n : NoT u) : LamX.Tabs T (upd H p o) := fun q hq => tabS_upd (t q hq) hp n
theorem tabs_new {H : Hp} {T : List (Addr × Str)} {p : Addr} {o : HO} (t : LamX.Tabs T H) (hp : H p = none) : LamX.Tabs T (upd H p o) := t.ext fun b u e => by rw [upd_ne (fun z => by rw [z, hp] at e; cases e)]; exact e
structure Ext (W : Wd) (Hf H Hf' H' : Hp) (s : Pot) : Prop where
  ff : Same Hf Hf'
  fh : Same Hf' H'
  potF : Hf' W.P = none
  pot : H' W.P = some (potO s)
  old0 : ∀ b o, b ≠ W.P → H b = some o → (∀ ps, o ≠ .tbl ps) → H' b = some o
  tab : ∀ b ps, H b = some (.tbl ps) → ∃ qs, H' b = some (.tbl qs)
  tabs : LamX.Tabs (tabsOf W.cls) H'
  unf : ∀ b o, H b = some o → Hf b = none → Hf' b = none
theorem Ext.old {W : Wd} {Hf H Hf' H' : Hp} {s : Pot} (x : Ext W Hf H Hf' H' s) (b : Addr) (o : HO) (hb : b ≠ W.P) (e : H b = some o) (n : ∀ ps, o ≠ .tbl ps := by intro _ z; cases z) : H' b = some o := x.old0 b o hb e n
theorem Ext.somes {W : Wd} {Hf H Hf' H' : Hp} {s : Pot} (x : Ext W Hf H Hf' H' s) {b : Addr} (hb : b ≠ W.P) {o : HO} (e : H b = some o) : ∃ o', H' b = some o' := by
  by_cases q : ∃ ps, o = .tbl ps
  · obtain ⟨ps, rfl⟩ := q
    obtain ⟨qs, z⟩ := x.tab b ps e
    exact ⟨_, z⟩
  · exact ⟨o, x.old0 b o hb e fun ps z => q ⟨ps, z⟩⟩
theorem Ext.trans {W : Wd} {Hf H Hf1 H1 Hf2 H2 : Hp} {s s' : Pot} (a : Ext W Hf H Hf1 H1 s) (b : Ext W Hf1 H1 Hf2 H2 s') : Ext W Hf H Hf2 H2 s' where
  ff := a.ff.trans b.ff
  fh := b.fh
  potF := b.potF
  pot := b.pot
  old0 := fun c o hc e n => b.old0 c o hc (a.old0 c o hc e n) n
  tab := fun c ps e => by
    obtain ⟨qs, z⟩ := a.tab c ps e
    exact b.tab c qs z
  tabs := b.tabs
  unf := fun c o e n => by
    by_cases hc : c = W.P
    · rw [hc]; exact b.potF
    · obtain ⟨o', z⟩ := a.somes hc e
      exact b.unf c o' z (a.unf c o e n)
theorem Ext.refl {W : Wd} {Hf H Hf1 H1 : Hp} {s : Pot} (a : Ext W Hf H Hf1 H1 s) : Ext W Hf1 H1 Hf1 H1 s where
  ff := Same.refl _
  fh := a.fh
  potF := a.potF
  pot := a.pot
  old0 := fun _ _ _ e _ => e
  tab := fun _ ps e => ⟨ps, e⟩
  tabs := a.tabs
  unf := fun _ _ _ n => n
theorem Ext.newF {W : Wd} {Hf H Hf1 H1 : Hp} {s : Pot} {p : Addr} {o : HO} (a : Ext W Hf H Hf1 H1 s) (hp : H1 p = none) : Ext W Hf1 H1 (upd Hf1 p o) (upd H1 p o) s := by
  have nP : W.P ≠ p := fun e => by have := a.pot; rw [e, hp] at this; cases this
  have nf : Hf1 p = none := by
    cases e : Hf1 p with
    | none => rfl
    | some u => rw [a.fh _ _ e] at hp; cases hp
  refine ⟨fun b u e => ?_, fun b u e => ?_, ?_, ?_, fun b u _ e _ => ?_, fun b ps e => ⟨ps, ?_⟩, tabs_new a.tabs hp, fun b u e n => ?_⟩
  · rw [upd_ne (fun z => by rw [z, nf] at e; cases e)]; exact e
  · by_cases hb : b = p
    · subst hb; rw [upd_same] at e ⊢; exact e
    · rw [upd_ne hb] at e ⊢; exact a.fh _ _ e
  · rw [upd_ne nP]; exact a.potF
  · rw [upd_ne nP]; exact a.pot
  · rw [upd_ne (fun z => by rw [z, hp] at e; cases e)]; exact e
  · rw [upd_ne (fun z => by rw [z, hp] at e; cases e)]; exact e
  · rw [upd_ne (fun z => by rw [z, hp] at e; cases e)]; exact n
theorem Ext.newU {W : Wd} {Hf H Hf1 H1 : Hp} {s : Pot} {p : Addr} {o : HO} (a : Ext W Hf H Hf1 H1 s) (hp : H1 p = none) : Ext W Hf1 H1 Hf1 (upd H1 p o) s ∧ Hf1 p = none ∧ p ≠ W.P := by
  have nP : W.P ≠ p := fun e => by have := a.pot; rw [e, hp] at this; cases this
  have nf : Hf1 p = none := by
    cases e : Hf1 p with
    | none => rfl
    | some u => rw [a.fh _ _ e] at hp; cases hp
  refine ⟨⟨Same.refl _, fun b u e => ?_, a.potF, ?_, fun b u _ e _ => ?_, fun b ps e => ⟨ps, ?_⟩, tabs_new a.tabs hp, fun b u e n => n⟩, nf, Ne.symm nP⟩
  · rw [upd_ne (fun z => by rw [z, nf] at e; cases e)]; exact a.fh _ _ e
  · rw [upd_ne nP]; exact a.pot
  · rw [upd_ne (fun z => by rw [z, hp] at e; cases e)]; exact e
  · rw [upd_ne (fun z => by rw [z, hp] at e; cases e)]; exact e
theorem Ext.freeze {W : Wd} {Hf H Hf1 H1 : Hp} {s : Pot} {p : Addr} {o : HO} (a : Ext W Hf H Hf1 H1 s) (hp : H1 p = some o) (hf : Hf1 p = none) (hP : p ≠ W.P) (h0 : H p = none) : Ext W Hf H (upd Hf1 p o) H1 s := by
  refine ⟨fun b u e => ?_, fun b u e => ?_, ?_, a.pot, a.old0, a.tab, a.tabs, fun b u e n => ?_⟩
  · rw [upd_ne (fun z => by have q := a.ff _ _ e; rw [z, hf] at q; cases q)]; exact a.ff _ _ e
  · by_cases hb : b = p
    · subst hb; rw [upd_same] at e; cases e; exact hp
    · rw [upd_ne hb] at e; exact a.fh _ _ e
  · rw [upd_ne (Ne.symm hP)]; exact a.potF
  · rw [upd_ne (fun z => by rw [z, h0] at e; cases e)]; exact a.unf _ _ e n
theorem Ext.write {W : Wd} {Hf H Hf1 H1 : Hp} {s : Pot} {p : Addr} {o u : HO} (a : Ext W Hf H Hf1 H1 s) (hf : Hf1 p = none) (hP : p ≠ W.P) (h0 : H p = none) (hu : H1 p = some u) (n : NoT u) : Ext W Hf H Hf1 (upd H1 p o) s := by
  refine ⟨a.ff, fun b u e => ?_, a.potF, ?_, fun b u hb e n => ?_, fun b ps e => ?_, tabs_upd a.tabs hu n, a.unf⟩
  · rw [upd_ne (fun z => by rw [z, hf] at e; cases e)]; exact a.fh _ _ e
  · rw [upd_ne (Ne.symm hP)]; exact a.pot
  · rw [upd_ne (fun z => by rw [z, h0] at e; cases e)]; exact a.old0 _ _ hb e n
  · obtain ⟨qs, z⟩ := a.tab b ps e
    exact ⟨qs, by rw [upd_ne (fun w => by rw [w, h0] at e; cases e)]; exact z⟩
inductive Own where
  | sh | ol | od | odl | lk | ot | lt | oll
  deriving DecidableEq
abbrev Rho := List (Option D)
def AtKt (W : Wd) (H : Hp) (ks : List (List Key × V)) (ds : List (List Key × D)) : Prop := ks.map (·.1) = ds.map (·.1) ∧ AtAll W H (ks.map (·.2)) (ds.map (·.2))
theorem AtKt.mono {W : Wd} {H H' : Hp} (e : Same H H') {ks : List (List Key × V)} {ds : List (List Key × D)} (h : AtKt W H ks ds) : AtKt W H' ks ds := ⟨h.1, h.2.mono e⟩
def OwnAt (W : Wd) (Hf H : Hp) (ow : Addr → Option Nat) (i : Nat) : Own → V → D → Prop
  | .sh, v, d => At W Hf v d
  | .ol, v, d => ∃ p xs ds, v = .ref p ∧ d = .lst ds ∧ ow p = some i ∧ H p = some (.lst xs) ∧ xs.length ≤ sizeLine ∧ AtAll W Hf xs ds
  | .od, v, d => ∃ p ks ds, v = .ref p ∧ d = .dct ds ∧ ow p = some i ∧ H p = some (.dK ks) ∧ ks.length ≤ sizeLine ∧ AtKv W Hf ks ds
  | .odl, v, d => ∃ (p : Addr) (qs : List (Key × Addr)) (ds : List (Key × List D)), v = .ref p ∧ d = .dct (ds.map fun z => (z.1, .lst z.2)) ∧ ow p = some i ∧ H p = some (.dK (qs.map fun z => (z.1, .ref z.2))) ∧ qs.length ≤ sizeLine ∧
      (p :: qs.map (·.2)).Nodup ∧ Paired (fun (q : Key × Addr) (z : Key × List D) => q.1 = z.1 ∧ ow q.2 = some i ∧ ∃ xs, H q.2 = some (.lst xs) ∧ xs.length ≤ sizeLine ∧ AtAll W Hf xs z.2) qs ds
  | .lk, v, d => ∃ (p : Addr) (od : Obj) (ks : List (Key × V)) (ds : List (Key × D)), v = .ref p ∧ d = .dct ds ∧ Hf p = some (.frz od (.dK ks)) ∧ ks.length ≤ sizeLine ∧ AtKv W Hf ks ds
  | .ot, v, d => ∃ p ks ds, v = .ref p ∧ d = .dtt ds ∧ ow p = some i ∧ H p = some (.dT ks) ∧ ks.length ≤ sizeLine ∧ AtKt W Hf ks ds
  | .lt, v, d => ∃ (p : Addr) (od : Obj) (ks : List (List Key × V)) (ds : List (List Key × D)), v = .ref p ∧ d = .dtt ds ∧ Hf p = some (.frz od (.dT ks)) ∧ ks.length ≤ sizeLine ∧ AtKt W Hf ks ds
  | .oll, v, d => ∃ (p : Addr) (qs : List Addr) (ds : List (List D)), v = .ref p ∧ d = .lst (ds.map .lst) ∧ ow p = some i ∧ H p = some (.lst (qs.map .ref)) ∧ qs.length ≤ sizeLine ∧
      (p :: qs).Nodup ∧ Paired (fun (q : Addr) (z : List D) => ow q = some i ∧ ∃ xs, H q = some (.lst xs) ∧ xs.length ≤ sizeLine ∧ AtAll W Hf xs z) qs ds
abbrev Gam := List Own
structure EnvAt (W : Wd) (B : Hp × Hp) (Γ : Gam) (ρ : Rho) (s : Pot) (σ : L2.St) (Hf H : Hp) : Prop where
  ext : Ext W B.1 B.2 Hf H s
  len : σ.length = ρ.length
  own : ∃ ow : Addr → Option Nat, (∀ i d, ρ[i]? = some (some d) → ∃ v, σ[i]? = some (some v) ∧ OwnAt W Hf H ow i (Γ.getD i .sh) v d) ∧ ∀ q i, ow q = some i → Hf q = none ∧ q ≠ W.P ∧ B.2 q = none ∧ ∃ o, H q = some o
theorem OwnAt.ext {W : Wd} {Hf H Hf' H' : Hp} {s : Pot} {ow : Addr → Option Nat} {i : Nat} (x : Ext W Hf H Hf' H' s) (h : ∀ q j, ow q = some j → q ≠ W.P) : ∀ {o : Own} {v : V} {d : D}, OwnAt W Hf H ow i o v d → OwnAt W Hf' H' ow i o v d
  | .sh, _, _, a => At.mono x.ff a
  | .ol, _, _, ⟨p, xs, ds, e1, e2, e3, e4, e5, e6⟩ => ⟨p, xs, ds, e1, e2, e3, x.old _ _ (h _ _ e3) e4, e5, e6.mono x.ff⟩
  | .od, _, _, ⟨p, xs, ds, e1, e2, e3, e4, e5, e6⟩ => ⟨p, xs, ds, e1, e2, e3, x.old _ _ (h _ _ e3) e4, e5, e6.mono x.ff⟩
  | .odl, _, _, ⟨p, qs, ds, e1, e2, e3, e4, e5, e6, e7⟩ => ⟨p, qs, ds, e1, e2, e3, x.old _ _ (h _ _ e3) e4, e5, e6, Paired.mapP e7 fun a b ⟨z1, z2, xs, z3, z4, z5⟩ => ⟨z1, z2, xs, x.old _ _ (h _ _ z2) z3, z4, z5.mono x.ff⟩⟩
  | .lk, _, _, ⟨p, od, ks, ds, e1, e2, e3, e4, e5⟩ => ⟨p, od, ks, ds, e1, e2, x.ff _ _ e3, e4, e5.mono x.ff⟩
  | .ot, _, _, ⟨p, xs, ds, e1, e2, e3, e4, e5, e6⟩ => ⟨p, xs, ds, e1, e2, e3, x.old _ _ (h _ _ e3) e4, e5, e6.mono x.ff⟩
  | .oll, _, _, ⟨p, qs, ds, e1, e2, e3, e4, e5, e6, e7⟩ => ⟨p, qs, ds, e1, e2, e3, x.old _ _ (h _ _ e3) e4, e5, e6, Paired.mapP e7 fun a b ⟨z2, xs, z3, z4, z5⟩ => ⟨z2, xs, x.old _ _ (h _ _ z2) z3, z4, z5.mono x.ff⟩⟩
  | .lt, _, _, ⟨p, od, ks, ds, e1, e2, e3, e4, e5⟩ => ⟨p, od, ks, ds, e1, e2, x.ff _ _ e3, e4, e5.mono x.ff⟩
theorem EnvAt.ext' {W : Wd} {B : Hp × Hp} {Γ : Gam} {ρ : Rho} {s s' : Pot} {σ : L2.St} {Hf H Hf' H' : Hp} (a : EnvAt W B Γ ρ s σ Hf H) (x : Ext W Hf H Hf' H' s') : EnvAt W B Γ ρ s' σ Hf' H' := by
  obtain ⟨ow, h1, h2⟩ := a.own
  refine ⟨a.ext.trans x, a.len, ow, fun i d e => ?_, fun q i e => ?_⟩
  · obtain ⟨v, e1, z⟩ := h1 i d e
    exact ⟨v, e1, z.ext x fun q j e => (h2 q j e).2.1⟩
  · obtain ⟨z1, z2, z3, o, z4⟩ := h2 q i e
    exact ⟨x.unf _ _ z4 z1, z2, z3, x.somes z2 z4⟩
end VL
namespace VL
open PySem PySem.Spec PyProof.Rows L2
def opt {α : Type} : Option α → M α
  | some a => pure a
  | none => nope
theorem post_opt {α : Type} {A : α → Pot → Prop} {B : Nat → D → Pot → Prop} {o : Option α} {s : Pot} : Post A B (opt o s) ↔ ∃ a, o = some a ∧ A a s := by
  cases o with
  | none => constructor
            · intro h; exact h.elim
            · intro ⟨a, e, _⟩; cases e
  | some a => constructor
              · intro h; exact ⟨a, rfl, h⟩
              · intro ⟨b, e, h⟩; cases e; exact h
@[simp] theorem opt_some {α : Type} (a : α) : (opt (some a) : M α) = pure a := by funext s; rfl
@[simp] theorem opt_none {α : Type} : (opt none : M α) = nope := by funext s; rfl
structure Glob where
  prog : Program
  w : World
  K : PySem.W.Frag
  mg : Str → Option Value
  base : Heap
  cls : Nat → Addr
structure Ctx where
  G : Glob
  N : List Str
  sc : Scope
  k : Nat
  P : Addr
  E : XK
  fnf : Str → Bool
  /-- no guarded code runs below (what repr of a list asks) -/
  gd : Bool
  /-- the def's code object, its table of code objects, the def's name: where lambdas are made -/
  me : Option (Addr × Addr × Str)
abbrev Ctx.W (c : Ctx) : Wd := ⟨c.G.K, c.G.cls, c.P⟩
structure Is (c : Ctx) (X : Cx) : Prop where
  prog : X.prog = c.G.prog
  w : X.w = c.G.w
  K : X.K = c.G.K
  mg : X.mg = c.G.mg
  base : X.base = c.G.base
  N : X.N = c.N
  sc : X.env.scope = c.sc
  room : Room c.k X.A
  calm : X.calm = true
  nd : X.N.Nodup
  fn : X.fn = c.fnf
  pass : Passes (L2.CX X.prog X.w) X c.E
  take : Takes X (fun cls d _ H => c.E cls d H)
  own : PassesOwn (model X.prog X.w) X.A X.env X.xe
  kind : X.env.scope.kind = .function
  gd : c.gd = true → X.A.guards = some []
  me : ∀ k P q, c.me = some (k, P, q) → X.env.code = .ref k ∧ X.env.qual = q ++ (".<locals>." : Str) ∧ LamX.TabB X.base X.mg k P
def ErrOk (W : Wd) (B : Hp × Hp) (E : XK) (c : Nat) (v : D) (s : Pot) : Prop :=
  ∀ dx u Hf' H', Ext W B.1 B.2 Hf' H' s → H' dx = some (.xd [(("value" : Str), u)]) → At W Hf' u v → E (.ref (W.cls c)) (some dx) H'
abbrev Res := Hp → Hp → Hp → V → D → Prop
def RX (W : Wd) (E : XK) (Γ : Gam) (Rs : Res) (t : TE) (f : Rho → M D) : Prop :=
  ∀ B ρ s σ Hf H Q, EnvAt W B Γ ρ s σ Hf H → Post (fun d s' => ∀ v Hf' H', Ext W Hf H Hf' H' s' → Rs H Hf' H' v d → Q v H') (ErrOk W B E) (f ρ s) → t σ H Q
def RT (W : Wd) (E : XK) (Γ : Gam) (t : TT) (f : Rho → M Bool) : Prop :=
  ∀ B ρ s σ Hf H Q, EnvAt W B Γ ρ s σ Hf H → Post (fun d s' => ∀ Hf' H', Ext W Hf H Hf' H' s' → Q d H') (ErrOk W B E) (f ρ s) → t σ H Q
inductive VAt (W : Wd) (Hf H : Hp) : V → D → Prop
  | fr {v : V} {d : D} : At W Hf v d → VAt W Hf H v d
  | lst {p : Addr} {xs : List V} {ds : List D} : p ≠ W.P → H p = some (.lst xs) → xs.length ≤ sizeLine → AtAll W Hf xs ds → VAt W Hf H (.ref p) (.lst ds)
  | dct {p : Addr} {ks : List (Key × V)} {ds : List (Key × D)} : p ≠ W.P → H p = some (.dK ks) → ks.length ≤ sizeLine → AtKv W Hf ks ds → VAt W Hf H (.ref p) (.dct ds)
  | dtt {p : Addr} {ks : List (List Key × V)} {ds : List (List Key × D)} : p ≠ W.P → H p = some (.dT ks) → ks.length ≤ sizeLine → AtKt W Hf ks ds → VAt W Hf H (.ref p) (.dtt ds)
inductive VAll (W : Wd) (Hf H : Hp) : List V → List D → Prop
  | nil : VAll W Hf H [] []
  | cons {v : V} {d : D} {vs : List V} {ds : List D} : VAt W Hf H v d → VAll W Hf H vs ds → VAll W Hf H (v :: vs) (d :: ds)
theorem VAt.ext {W : Wd} {Hf H Hf' H' : Hp} {s : Pot} {v : V} {d : D} (x : Ext W Hf H Hf' H' s) : VAt W Hf H v d → VAt W Hf' H' v d
  | .fr h => .fr (h.mono x.ff)
  | .lst h1 h2 h3 h4 => .lst h1 (x.old _ _ h1 h2) h3 (h4.mono x.ff)
  | .dct h1 h2 h3 h4 => .dct h1 (x.old _ _ h1 h2) h3 (h4.mono x.ff)
  | .dtt h1 h2 h3 h4 => .dtt h1 (x.old _ _ h1 h2) h3 (h4.mono x.ff)
theorem VAll.ext {W : Wd} {Hf H Hf' H' : Hp} {s : Pot} (x : Ext W Hf H Hf' H' s) : ∀ {v : List V} {d : List D}, VAll W Hf H v d → VAll W Hf' H' v d
  | _, _, .nil => .nil
  | _, _, .cons a r => .cons (a.ext x) (r.ext x)
def rAt (W : Wd) : Res := fun _ Hf' _ v d => At W Hf' v d
def rV (W : Wd) : Res := fun _ Hf' H' v d => VAt W Hf' H' v d
def rF (W : Wd) : Res := fun H Hf' H' v d => ∃ p xs ds, v = .ref p ∧ d = .lst ds ∧ H p = none ∧ Hf' p = none ∧ p ≠ W.P ∧ H' p = some (.lst xs) ∧ xs.length ≤ sizeLine ∧ AtAll W Hf' xs ds
def rFd (W : Wd) : Res := fun H Hf' H' v d => ∃ p ks ds, v = .ref p ∧ d = .dct ds ∧ H p = none ∧ Hf' p = none ∧ p ≠ W.P ∧ H' p = some (.dK ks) ∧ ks.length ≤ sizeLine ∧ AtKv W Hf' ks ds
def JX (c : Ctx) (Rs : Wd → Res) (Γ : Gam) (e : Expr) (f : Rho → M D) : Prop := ∃ t, (∀ X, Is c X → PE X e t) ∧ RX c.W c.E Γ (Rs c.W) t f
abbrev JE (c : Ctx) := JX c rAt
abbrev JV (c : Ctx) := JX c rV
abbrev JF (c : Ctx) := JX c rF
abbrev JFd (c : Ctx) := JX c rFd
def JT (c : Ctx) (Γ : Gam) (e : Expr) (f : Rho → M Bool) : Prop := ∃ t, (∀ X, Is c X → PT X e t) ∧ RT c.W c.E Γ t f
section
variable {c : Ctx} {W : Wd} {E : XK} {Γ : Gam} {e a b : Expr} {f fa fb : Rho → M D} {pos : Pos}
theorem JX.imp {Rs Rs' : Wd → Res} (h : JX c Rs Γ e f) (i : ∀ W H Hf' H' s v d, Ext W Hf' H' Hf' H' s → (∀ b o, b ≠ W.P → H b = some o → (∀ ps, o ≠ .tbl ps) → H' b = some o) → Rs W H Hf' H' v d → Rs' W H Hf' H' v d) : JX c Rs' Γ e f := by
  obtain ⟨t, h1, h2⟩ := h
  refine ⟨t, h1, fun B ρ s σ Hf H Q V p => h2 B ρ s σ Hf H Q V (p.imp (fun d s' k v Hf' H' x r => k v Hf' H' x ?_) fun _ _ _ z => z)⟩
  exact i _ _ _ _ s' _ _ x.refl x.old0 r
theorem JX.v (h : JX c rAt Γ e f) : JX c rV Γ e f := h.imp fun _ _ _ _ _ _ _ _ _ r => .fr r
theorem JX.fv (h : JX c rF Γ e f) : JX c rV Γ e f := h.imp fun _ _ _ _ _ _ _ _ _ ⟨p, xs, ds, e1, e2, _, _, nP, h1, h2, h3⟩ => by subst e1; subst e2; exact .lst nP h1 h2 h3
theorem JX.fe (h : JX c rF Γ e f) : JX c rAt Γ e f := by
  obtain ⟨t, h1, h2⟩ := h
  refine ⟨t, h1, fun B ρ s σ Hf H Q V p => h2 B ρ s σ Hf H Q V (p.imp (fun d s' k v Hf' H' x r => ?_) fun _ _ _ z => z)⟩
  obtain ⟨q, xs, ds, e1, e2, n0, nf, nP, hq, hl, ha⟩ := r
  subst e1; subst e2
  have y := x.freeze hq nf nP n0
  refine k _ _ _ y (.lst upd_same hl (ha.mono ?_))
  intro b o hb
  rw [upd_ne (fun z => by rw [z, nf] at hb; cases hb)]; exact hb
theorem JX.fde (h : JX c rFd Γ e f) : JX c rAt Γ e f := by
  obtain ⟨t, h1, h2⟩ := h
  refine ⟨t, h1, fun B ρ s σ Hf H Q V p => h2 B ρ s σ Hf H Q V (p.imp (fun d s' k v Hf' H' x r => ?_) fun _ _ _ z => z)⟩
  obtain ⟨q, xs, ds, e1, e2, n0, nf, nP, hq, hl, ha⟩ := r
  subst e1; subst e2
  have y := x.freeze hq nf nP n0
  refine k _ _ _ y (.dct (.inl upd_same) hl (ha.mono ?_))
  intro b o hb
  rw [upd_ne (fun z => by rw [z, nf] at hb; cases hb)]; exact hb
def slot (i : Nat) (ρ : Rho) : M D := match ρ[i]? with
  | some (some d) => pure d
  | _ => nope
theorem post_slot {A : D → Pot → Prop} {B : Nat → D → Pot → Prop} {i : Nat} {ρ : Rho} {s : Pot} (h : Post A B (slot i ρ s)) : ∃ d, ρ[i]? = some (some d) ∧ A d s := by
  unfold slot at h
  cases e : ρ[i]? with
  | none => rw [e] at h; exact h.elim
  | some o => cases o with
    | none => rw [e] at h; exact h.elim
    | some d => rw [e] at h; exact ⟨d, rfl, h⟩
theorem Is.vis {X : Cx} (h : Is c X) {x : Str} (hv : Vis c.sc x) : Vis X.env.scope x := by rw [h.sc]; exact hv
theorem Is.gl {X : Cx} (h : Is c X) {x : Str} (hv : c.sc.names.lookup x = some .globalImplicit) : Gl X x := by
  unfold Gl Env.kindOf; rw [h.sc]; exact hv
theorem EnvAt.ext0 {B : Hp × Hp} {ρ : Rho} {s : Pot} {σ : L2.St} {Hf H : Hp} (V : EnvAt W B Γ ρ s σ Hf H) : Ext W Hf H Hf H s := V.ext.refl
theorem je_var (i : Nat) {x : Str} (hN : c.N[i]? = some x) (hv : Vis c.sc x) (hΓ : Γ.getD i .sh = .sh) (hd : (x == ("__debug__" : Str)) = false := by decide) (hcd : (x == ("__classdict__" : Str)) = false := by decide) : JE c Γ (.Name x pos) (slot i) := by
  refine ⟨tVar i, fun X h => pe_var (by rw [h.N]; exact hN) (h.vis hv) hd hcd, fun B ρ s σ Hf H Q V p => ?_⟩
  obtain ⟨d, e, k⟩ := post_slot p
  obtain ⟨ow, h1, _⟩ := V.own
  obtain ⟨v, e1, z⟩ := h1 i d e
  rw [hΓ] at z
  exact ⟨v, e1, k v Hf H V.ext0 z⟩
theorem je_int {i : Int} {j} : JE c Γ (.Constant (.int i) j pos) (fun _ => pure (.int i)) :=
  ⟨tC (.int i), fun X _ => pe_int, fun B ρ s σ Hf H Q V p => p _ _ _ V.ext0 (.int i)⟩
theorem je_bl {i : Bool} {j} : JE c Γ (.Constant (.bool i) j pos) (fun _ => pure (.bl i)) :=
  ⟨tC (.bl i), fun X _ => pe_bl, fun B ρ s σ Hf H Q V p => p _ _ _ V.ext0 (.bl i)⟩
theorem je_str {i : Str} {j} : JE c Γ (.Constant (.str i) j pos) (fun _ => pure (.str i)) :=
  ⟨tC (.str i), fun X _ => pe_str, fun B ρ s σ Hf H Q V p => p _ _ _ V.ext0 (.str i)⟩
theorem je_non {j} : JE c Γ (.Constant .none j pos) (fun _ => pure .non) :=
  ⟨tC .non, fun X _ => pe_non, fun B ρ s σ Hf H Q V p => p _ _ _ V.ext0 .non⟩
def OpD (W : Wd) (Rs : Res) (r : R2) (g : D → D → Option D) : Prop :=
  ∀ Hf H s x y d e z Q, Ext W Hf H Hf H s → VAt W Hf H x d → VAt W Hf H y e → g d e = some z → (∀ v Hf' H', Ext W Hf H Hf' H' s → Rs H Hf' H' v z → Q v H') → r x y H Q
def bin (g : D → D → Option D) (fa fb : Rho → M D) : Rho → M D := fun ρ => do
  let d ← fa ρ
  let e ← fb ρ
  opt (g d e)
theorem Rs_old {Hf0 H0 Hf H : Hp} {s : Pot} (x : Ext W Hf0 H0 Hf H s) {p : Addr} (h : H p = none) (hp : p ≠ W.P) : H0 p = none := by
  cases e : H0 p with
  | none => rfl
  | some o => obtain ⟨o', z⟩ := x.somes hp e; rw [z] at h; cases h
def Elder (W : Wd) (Rs : Res) : Prop := ∀ Hf0 H0 Hf H s Hf' H' s' v d, Ext W Hf0 H0 Hf H s → Ext W Hf H Hf' H' s' → Rs H Hf' H' v d → Rs H0 Hf' H' v d
theorem elder_at : Elder W (rAt W) := fun _ _ _ _ _ _ _ _ _ _ _ _ r => r
theorem elder_f : Elder W (rF W) := fun _ _ _ _ _ _ _ _ _ _ x _ ⟨p, xs, ds, e1, e2, n0, nf, nP, r⟩ => ⟨p, xs, ds, e1, e2, Rs_old x n0 nP, nf, nP, r⟩
theorem rx_bin {Rs : Res} {r : R2} {g : D → D → Option D} {ta tb : TE} (el : Elder W Rs) (ho : OpD W Rs r g) (ha : RX W E Γ (rV W) ta fa) (hb : RX W E Γ (rV W) tb fb) : RX W E Γ Rs (tOp r ta tb) (bin g fa fb) := by
  intro B ρ s σ Hf H Q V p
  unfold bin at p
  rw [post_bind] at p
  refine ha B ρ s σ Hf H _ V (p.imp (fun d s1 p1 v Hf1 H1 x1 r1 => ?_) fun _ _ _ z => z)
  rw [post_bind] at p1
  have V1 := V.ext' x1
  refine hb B ρ s1 σ Hf1 H1 _ V1 (p1.imp (fun d2 s2 p2 v2 Hf2 H2 x2 r2 => ?_) fun _ _ _ z => z)
  rw [post_opt] at p2
  obtain ⟨z, e, k⟩ := p2
  refine ho Hf2 H2 s2 v v2 d d2 z Q x2.refl (VAt.ext x2 r1) r2 e fun u Hf3 H3 x3 r3 => k u Hf3 H3 ((x1.trans x2).trans x3) (el _ _ _ _ _ _ _ _ _ _ (x1.trans x2) x3 r3)
theorem jx_op {Rs : Wd → Res} {op : Operator} {r : R2} {g : D → D → Option D} (el : ∀ W, Elder W (Rs W)) (hr : ∀ X, Is c X → OpR X (binaryOp op) r) (ho : OpD c.W (Rs c.W) r g) (ha : JV c Γ a fa) (hb : JV c Γ b fb) : JX c Rs Γ (.BinOp a op b pos) (bin g fa fb) := by
  obtain ⟨ta, a1, a2⟩ := ha
  obtain ⟨tb, b1, b2⟩ := hb
  exact ⟨tOp r ta tb, fun X h => pe_op (hr X h) (a1 X h) (b1 X h), rx_bin (el _) ho a2 b2⟩
theorem jx_cmp {op : CmpOp} {r : R2} {g : D → D → Option D} (hr : ∀ X, Is c X → OpR X (compareOp op) r) (ho : OpD c.W (rAt c.W) r g) (ha : JV c Γ a fa) (hb : JV c Γ b fb) (hm : behindInMarks op b = false) : JE c Γ (.Compare a [op] [b] pos) (bin g fa fb) := by
  obtain ⟨ta, a1, a2⟩ := ha
  obtain ⟨tb, b1, b2⟩ := hb
  exact ⟨tOp r ta tb, fun X h => pe_cmpR (hr X h) (a1 X h) (b1 X h) hm, rx_bin elder_at ho a2 b2⟩
def asBl (d : D) : M Bool := match d with
  | .bl b => pure b
  | _ => nope
theorem post_asBl {A : Bool → Pot → Prop} {B : Nat → D → Pot → Prop} {d : D} {s : Pot} (h : Post A B (asBl d s)) : ∃ b, d = .bl b ∧ A b s := by
  cases d with
  | bl b => exact ⟨b, rfl, h⟩
  | _ => exact h.elim
def tst (f : Rho → M D) : Rho → M Bool := fun ρ => do asBl (← f ρ)
theorem VAt.bl' {Hf H : Hp} {v : V} {b : Bool} (h : VAt W Hf H v (.bl b)) : v = .bl b := by
  cases h with
  | fr h => cases h; rfl
theorem VAt.int' {Hf H : Hp} {v : V} {b : Int} (h : VAt W Hf H v (.int b)) : v = .int b := by
  cases h with
  | fr h => cases h; rfl
theorem VAt.str' {Hf H : Hp} {v : V} {b : Str} (h : VAt W Hf H v (.str b)) : v = .str b := by
  cases h with
  | fr h => cases h; rfl
theorem VAt.lst' {Hf H : Hp} {v : V} {ds : List D} (e : Same Hf H) (h : VAt W Hf H v (.lst ds)) : ∃ p xs, v = .ref p ∧ H p = some (.lst xs) ∧ xs.length ≤ sizeLine ∧ AtAll W Hf xs ds := by
  cases h with
  | fr h => cases h with
    | lst h1 h2 h3 => exact ⟨_, _, rfl, e _ _ h1, h2, h3⟩
  | lst h0 h1 h2 h3 => exact ⟨_, _, rfl, h1, h2, h3⟩
theorem VAt.tup' {Hf H : Hp} {v : V} {ds : List D} (e : Same Hf H) (h : VAt W Hf H v (.tup ds)) : ∃ p xs, v = .ref p ∧ SqT W.K H p xs ∧ xs.length ≤ sizeLine ∧ AtAll W Hf xs ds := by
  cases h with
  | fr h => cases h with
    | tup h1 h2 h3 => exact ⟨_, _, rfl, Same.sqT e (sq_of h1), h2, h3⟩
theorem VAt.dct' {Hf H : Hp} {v : V} {ds : List (Key × D)} (e : Same Hf H) (h : VAt W Hf H v (.dct ds)) : ∃ p xs, v = .ref p ∧ Rd H p (.dK xs) ∧ xs.length ≤ sizeLine ∧ AtKv W Hf xs ds := by
  cases h with
  | fr h => cases h with
    | dct h1 h2 h3 => exact ⟨_, _, rfl, Same.rd e h1, h2, h3⟩
  | dct h0 h1 h2 h3 => exact ⟨_, _, rfl, .inl h1, h2, h3⟩
theorem rt_of {t : TE} (h : RX W E Γ (rV W) t f) : RT W E Γ (tTest t) (tst f) := by
  intro B ρ s σ Hf H Q V p
  unfold tst at p
  rw [post_bind] at p
  refine h B ρ s σ Hf H _ V (p.imp (fun d s1 p1 v Hf1 H1 x1 r1 => ?_) fun _ _ _ z => z)
  obtain ⟨b, rfl, k⟩ := post_asBl p1
  exact ⟨b, r1.bl', k _ _ x1⟩
theorem jt_val (h : JV c Γ e f) (he : ∀ (env : Env) whole, isTrue e env whole = (do let v ← whole; standAt e.pos; holding [v] (truthy v)) := by intro _ _; rfl) : JT c Γ e (tst f) := by
  obtain ⟨t, h1, h2⟩ := h
  exact ⟨tTest t, fun X hX => by
    have := pt_val (h1 X hX) (he X.env)
    exact this, rt_of h2⟩
theorem jt_cmp {op : CmpOp} {r : R2} {g : D → D → Option D} (hr : ∀ X, Is c X → OpR X (compareOp op) r) (ho : OpD c.W (rAt c.W) r g) (ha : JV c Γ a fa) (hb : JV c Γ b fb) (hm : behindInMarks op b = false) : JT c Γ (.Compare a [op] [b] pos) (tst (bin g fa fb)) := by
  obtain ⟨ta, a1, a2⟩ := ha
  obtain ⟨tb, b1, b2⟩ := hb
  refine ⟨tTest (tOp r ta tb), fun X h => pt_cmpR (hr X h) (a1 X h) (b1 X h) hm, rt_of ?_⟩
  have q := rx_bin elder_at ho a2 b2
  intro B ρ s σ Hf H Q V p
  exact q B ρ s σ Hf H Q V (p.imp (fun d s' k v Hf' H' x r => k v Hf' H' x (.fr r)) fun _ _ _ z => z)
def orB (f g : Rho → M Bool) : Rho → M Bool := fun ρ => do
  let b ← f ρ
  if b = true then pure true else g ρ
def notB (f : Rho → M Bool) : Rho → M Bool := fun ρ => do
  let b ← f ρ
  pure !b
def JW (c : Ctx) (Γ : Gam) (e : Expr) (f : Rho → M Bool) : Prop := ∃ t, (∀ X, Is c X → PW X e t) ∧ RT c.W c.E Γ t f
theorem JW.jt {f : Rho → M Bool} (h : JW c Γ e f) : JT c Γ e f := by
  obtain ⟨t, h1, h2⟩ := h
  exact ⟨t, fun X hX => (h1 X hX).pt, h2⟩
theorem jw_or1 {g : Rho → M Bool} (h : JT c Γ a g) : JW c Γ (.BoolOp .Or [a] pos) g := by
  obtain ⟨t, h1, h2⟩ := h
  exact ⟨t, fun X hX => pw_or1 (h1 X hX), h2⟩
theorem jw_or {g g' : Rho → M Bool} {rest : List Expr} (h : JT c Γ a g) (h' : JW c Γ (.BoolOp .Or (b :: rest) pos) g') : JW c Γ (.BoolOp .Or (a :: b :: rest) pos) (orB g g') := by
  obtain ⟨t, h1, h2⟩ := h
  obtain ⟨t', h1', h2'⟩ := h'
  refine ⟨_, fun X hX => pw_or (h1 X hX) (h1' X hX), fun B ρ s σ Hf H Q V p => ?_⟩
  unfold orB at p
  rw [post_bind] at p
  refine h2 B ρ s σ Hf H _ V (p.imp (fun d s1 p1 Hf1 H1 x1 => ?_) fun _ _ _ z => z)
  cases d with
  | false => exact h2' B ρ s1 σ Hf1 H1 _ (V.ext' x1) (p1.imp (fun d2 s2 k Hf2 H2 x2 => k _ _ (x1.trans x2)) fun _ _ _ z => z)
  | true => exact p1 _ _ x1
theorem jt_not {g : Rho → M Bool} (h : JT c Γ a g) : JT c Γ (.UnaryOp .Not a pos) (notB g) := by
  obtain ⟨t, h1, h2⟩ := h
  refine ⟨_, fun X hX => pt_not (h1 X hX), fun B ρ s σ Hf H Q V p => ?_⟩
  unfold notB at p
  rw [post_bind] at p
  exact h2 B ρ s σ Hf H _ V (p.imp (fun d s1 p1 Hf1 H1 x1 => p1 _ _ x1) fun _ _ _ z => z)
theorem je_one {op} {g : Rho → M D} (h : JE c Γ a g) : JE c Γ (.BoolOp op [a] pos) g := by
  obtain ⟨t, h1, h2⟩ := h
  exact ⟨t, fun X hX => pe_one (h1 X hX), h2⟩
def andV (f g : Rho → M D) : Rho → M D := fun ρ => do
  let b ← asBl (← f ρ)
  if b = true then g ρ else pure (.bl false)
def notV (f : Rho → M D) : Rho → M D := fun ρ => do
  let b ← asBl (← f ρ)
  pure (.bl !b)
theorem At.bl' {H : Hp} {v : V} {b : Bool} (h : At W H v (.bl b)) : v = .bl b := by cases h; rfl
theorem je_and {rest : List Expr} (ha : JE c Γ a fa) (hb : JE c Γ (.BoolOp .And (b :: rest) pos) fb) : JE c Γ (.BoolOp .And (a :: b :: rest) pos) (andV fa fb) := by
  obtain ⟨t, h1, h2⟩ := ha
  obtain ⟨t', h1', h2'⟩ := hb
  refine ⟨_, fun X hX => pe_and (h1 X hX) (h1' X hX), fun B ρ s σ Hf H Q V p => ?_⟩
  unfold andV at p
  rw [post_bind] at p
  refine h2 B ρ s σ Hf H _ V (p.imp (fun d s1 p1 v Hf1 H1 x1 r1 => ?_) fun _ _ _ z => z)
  rw [post_bind] at p1
  obtain ⟨b, rfl, p2⟩ := post_asBl p1
  refine ⟨b, At.bl' r1, ?_⟩
  cases b with
  | true => exact h2' B ρ s1 σ Hf1 H1 _ (V.ext' x1) (p2.imp (fun d2 s2 k v2 Hf2 H2 x2 r2 => k _ _ _ (x1.trans x2) r2) fun _ _ _ z => z)
  | false => exact p2 _ _ _ x1 (.bl _)
theorem je_not (ha : JE c Γ a fa) : JE c Γ (.UnaryOp .Not a pos) (notV fa) := by
  obtain ⟨t, h1, h2⟩ := ha
  refine ⟨_, fun X hX => pe_not (h1 X hX), fun B ρ s σ Hf H Q V p => ?_⟩
  unfold notV at p
  rw [post_bind] at p
  refine h2 B ρ s σ Hf H _ V (p.imp (fun d s1 p1 v Hf1 H1 x1 r1 => ?_) fun _ _ _ z => z)
  rw [post_bind] at p1
  obtain ⟨b, rfl, p2⟩ := post_asBl p1
  exact ⟨b, At.bl' r1, p2 _ _ _ x1 (.bl _)⟩
end
end VL
namespace VL
open PySem PySem.Spec PyProof.Rows L2
mutual
def toPy : D → Option PyData
  | .non => some .none
  | .bl b => some (.bool b)
  | .int i => some (.int i)
  | .str s => some (.str s)
  | .tup l => (toPyL l).map .tuple
  | .lst l => (toPyL l).map .list
  | .dct _ => none
  | .obj _ _ => none
  | .exc _ _ => none
  | .clo _ _ => none
  | .dtt _ => none
  | .etu => none
  | .pot => none
  | .tok _ => none
  | .vex => none
def toPyL : List D → Option (List PyData)
  | [] => some []
  | d :: r => match toPy d, toPyL r with
    | some a, some b => some (a :: b)
    | _, _ => none
end
section
variable {c : Ctx} {W : Wd} {E : XK} {Γ : Gam} {e a b : Expr} {f fa fb : Rho → M D} {pos : Pos} {Hf H : Hp}
mutual
theorem At.dp : ∀ {v : V} {d : D} {p : PyData}, At W H v d → toPy d = some p → Dp W.K H v p
  | _, _, p, .non, h => by simp only [toPy, Option.some.injEq] at h; subst h; exact .non
  | _, _, p, .bl b, h => by simp only [toPy, Option.some.injEq] at h; subst h; exact .bl b
  | _, _, p, .int i, h => by simp only [toPy, Option.some.injEq] at h; subst h; exact .int i
  | _, _, p, .str x, h => by simp only [toPy, Option.some.injEq] at h; subst h; exact .str x
  | _, _, p, .tup (ds := ds) h1 _ r, h => by
    simp only [toPy, Option.map_eq_some_iff] at h
    obtain ⟨q, hq, rfl⟩ := h
    exact .tup (sq_of h1) (AtAll.dp r hq)
  | _, _, p, .lst (ds := ds) h1 _ r, h => by
    simp only [toPy, Option.map_eq_some_iff] at h
    obtain ⟨q, hq, rfl⟩ := h
    exact .lst (SqL.of h1) (AtAll.dp r hq)
  | _, _, p, .dct _ _ _, h => by simp [toPy] at h
  | _, _, p, .obj _ _, h => by simp [toPy] at h
  | _, _, p, .dtt _ _ _ _, h => by simp [toPy] at h
  | _, _, p, .etu _, h => by simp [toPy] at h
  | _, _, p, .pot, h => by simp [toPy] at h
  | _, _, p, .vex _, h => by simp [toPy] at h
theorem AtAll.dp : ∀ {v : List V} {d : List D} {p : List PyData}, AtAll W H v d → toPyL d = some p → DpAll W.K H v p
  | _, _, p, .nil, h => by simp only [toPyL, Option.some.injEq] at h; subst h; exact .nil
  | _, _, p, .cons (d := d) (ds := ds) h1 r, h => by
    simp only [toPyL] at h
    cases e1 : toPy d with
    | none => rw [e1] at h; simp at h
    | some x =>
      cases e2 : toPyL ds with
      | none => rw [e1, e2] at h; simp at h
      | some y =>
        rw [e1, e2] at h
        simp only [Option.some.injEq] at h
        subst h
        exact .cons (At.dp h1 e1) (AtAll.dp r e2)
end
theorem VAt.dp {v : V} {d : D} {p : PyData} (e : Same Hf H) (h : VAt W Hf H v d) (hp : toPy d = some p) : Dp W.K H v p := by
  cases h with
  | fr h => exact (h.mono e).dp hp
  | lst h0 h1 h2 h3 =>
    simp only [toPy, Option.map_eq_some_iff] at hp
    obtain ⟨q, hq, rfl⟩ := hp
    exact .lst (SqL.of h1) ((h3.mono e).dp hq)
  | dct h0 h1 h2 h3 => simp [toPy] at hp
  | dtt h0 h1 h2 h3 => simp [toPy] at hp
def py (d : D) : Option PyData := match toPy d with
  | some p => if SeqAt.shaped p = true then some p else none
  | none => none
theorem py_some {d : D} {p : PyData} (h : py d = some p) : toPy d = some p ∧ SeqAt.shaped p = true := by
  unfold py at h
  cases e : toPy d with
  | none => rw [e] at h; cases h
  | some q =>
    rw [e] at h
    by_cases hs : SeqAt.shaped q = true
    · simp only [hs, if_true, Option.some.injEq] at h; subst h; exact ⟨rfl, hs⟩
    · simp only [hs] at h; simp at h
def eqD (d e : D) : Option D := match py d, py e with
  | some a, some b => some (.bl (PyData.eqv a b))
  | _, _ => none
def neD (d e : D) : Option D := match py d, py e with
  | some a, some b => some (.bl (!PyData.eqv a b))
  | _, _ => none
theorem opd_eq : OpD W (rAt W) (rEqD W.K) eqD := by
  intro Hf H s x y d e z Q x0 hx hy hg k
  unfold eqD at hg
  cases e1 : py d with
  | none => rw [e1] at hg; cases hg
  | some p => cases e2 : py e with
    | none => rw [e1, e2] at hg; cases hg
    | some q =>
      rw [e1, e2] at hg
      cases hg
      exact ⟨p, q, hx.dp x0.fh (py_some e1).1, hy.dp x0.fh (py_some e2).1, (py_some e1).2, (py_some e2).2, k _ _ _ x0 (.bl _)⟩
theorem opd_ne : OpD W (rAt W) (rNeD W.K) neD := by
  intro Hf H s x y d e z Q x0 hx hy hg k
  unfold neD at hg
  cases e1 : py d with
  | none => rw [e1] at hg; cases hg
  | some p => cases e2 : py e with
    | none => rw [e1, e2] at hg; cases hg
    | some q =>
      rw [e1, e2] at hg
      cases hg
      exact ⟨p, q, hx.dp x0.fh (py_some e1).1, hy.dp x0.fh (py_some e2).1, (py_some e1).2, (py_some e2).2, k _ _ _ x0 (.bl _)⟩
theorem or_eq (X : Cx) (h : Is c X) : OpR X (compareOp .Eq) (rEqD c.W.K) := by
  have := op_eqD (X := X) h.room.units
  rw [h.K] at this; exact this
theorem or_ne (X : Cx) (h : Is c X) : OpR X (compareOp .NotEq) (rNeD c.W.K) := by
  have := op_neD (X := X) h.room.units
  rw [h.K] at this; exact this
theorem je_eq (ha : JV c Γ a fa) (hb : JV c Γ b fb) : JE c Γ (.Compare a [.Eq] [b] pos) (bin eqD fa fb) := jx_cmp or_eq opd_eq ha hb (nomark _)
theorem jt_ne (ha : JV c Γ a fa) (hb : JV c Γ b fb) : JT c Γ (.Compare a [.NotEq] [b] pos) (tst (bin neD fa fb)) := jt_cmp or_ne opd_ne ha hb (nomark _)
def pyL (d : D) : Option (List PyData) := match d with
  | .lst l => match py (.lst l) with
    | some (.list ds) => some ds
    | _ => none
  | .tup l => match py (.tup l) with
    | some (.tuple ds) => some ds
    | _ => none
  | _ => none
def hasD (d e : D) : Option Bool := match d, e with
  | .str x, .str y => some (!(Builtin.Str.occurrences y x 0 y.length 1).isEmpty)
  | d, e => match py d, pyL e with
    | some a, some l => some (l.any fun z => PyData.eqv z a)
    | _, _ => none
def inD (d e : D) : Option D := (hasD d e).map .bl
def notInD (d e : D) : Option D := (hasD d e).map fun b => .bl (!b)
def rInT (K : PySem.W.Frag) : R2 := fun x y H Q => ∃ d ds, Dp K H x d ∧ Dp K H y (.tuple ds) ∧ SeqAt.shaped d = true ∧ SeqAt.shaped (.tuple ds) = true ∧ Q (.bl (ds.any fun z => PyData.eqv z d)) H
def rNotInT (K : PySem.W.Frag) : R2 := fun x y H Q => ∃ d ds, Dp K H x d ∧ Dp K H y (.tuple ds) ∧ SeqAt.shaped d = true ∧ SeqAt.shaped (.tuple ds) = true ∧ Q (.bl (!ds.any fun z => PyData.eqv z d)) H
theorem op_inT {X : Cx} (hu : X.A.units + 65 < cLine) : OpR X (compareOp .In) (rInT X.K) := by
  intro pins s σ H x y v u Q I rx ry h
  obtain ⟨d, ds, hd, he, sd, se, q⟩ := h
  obtain ⟨as, r1⟩ := Dp.reads I d x v hd rx
  obtain ⟨bs, r2⟩ := Dp.reads I (.tuple ds) y u he ry
  exact SeqAt.in_tuple_reads r2 r1 (SeqAt.canLay_of_shaped se) (SeqAt.canLay_of_shaped sd) (room_in_shaped sd hu) ⟨.bl _, H, I, rfl, q⟩
theorem op_notInT {X : Cx} (hu : X.A.units + 65 < cLine) : OpR X (compareOp .NotIn) (rNotInT X.K) := by
  intro pins s σ H x y v u Q I rx ry h
  obtain ⟨d, ds, hd, he, sd, se, q⟩ := h
  obtain ⟨as, r1⟩ := Dp.reads I d x v hd rx
  obtain ⟨bs, r2⟩ := Dp.reads I (.tuple ds) y u he ry
  exact SeqAt.notIn_tuple_reads r2 r1 (SeqAt.canLay_of_shaped se) (SeqAt.canLay_of_shaped sd) (room_in_shaped sd hu) ⟨.bl _, H, I, rfl, q⟩
def rInS : R2 := fun x y H Q => ∃ i j, x = .str i ∧ y = .str j ∧ Q (.bl (!(Builtin.Str.occurrences j i 0 j.length 1).isEmpty)) H
def rNotInS : R2 := fun x y H Q => ∃ i j, x = .str i ∧ y = .str j ∧ Q (.bl (!(!(Builtin.Str.occurrences j i 0 j.length 1).isEmpty))) H
def rIn (K : PySem.W.Frag) : R2 := fun x y H Q => rInS x y H Q ∨ (rInD K x y H Q ∨ rInT K x y H Q)
def rNotIn (K : PySem.W.Frag) : R2 := fun x y H Q => rNotInS x y H Q ∨ (rNotInD K x y H Q ∨ rNotInT K x y H Q)
theorem Is.u65 {X : Cx} (h : Is c X) : X.A.units + 65 < cLine := by
  have := h.room.un; omega
theorem or_in (X : Cx) (h : Is c X) : OpR X (compareOp .In) (rIn c.W.K) := by
  have h1 := op_inD (X := X) h.u65
  have h2 := op_inT (X := X) h.u65
  rw [h.K] at h1 h2
  exact OpR.or op_in_str (OpR.or h1 h2)
theorem or_notIn (X : Cx) (h : Is c X) : OpR X (compareOp .NotIn) (rNotIn c.W.K) := by
  have h1 := op_notInD (X := X) h.u65
  have h2 := op_notInT (X := X) h.u65
  rw [h.K] at h1 h2
  exact OpR.or op_notin_str (OpR.or h1 h2)
theorem pyL_cases {d : D} {ds : List PyData} (h : pyL d = some ds) : (∃ l, d = .lst l ∧ toPy d = some (.list ds) ∧ SeqAt.shaped (.list ds) = true) ∨ (∃ l, d = .tup l ∧ toPy d = some (.tuple ds) ∧ SeqAt.shaped (.tuple ds) = true) := by
  cases d with
  | lst l =>
    simp only [pyL] at h
    cases e : py (.lst l) with
    | none => rw [e] at h; cases h
    | some p =>
      rw [e] at h
      cases p with
      | list q => simp only [Option.some.injEq] at h; subst h; exact .inl ⟨l, rfl, py_some e⟩
      | _ => cases h
  | tup l =>
    simp only [pyL] at h
    cases e : py (.tup l) with
    | none => rw [e] at h; cases h
    | some p =>
      rw [e] at h
      cases p with
      | tuple q => simp only [Option.some.injEq] at h; subst h; exact .inr ⟨l, rfl, py_some e⟩
      | _ => cases h
  | _ => cases h
theorem hasD_cases {d e : D} {b : Bool} (h : hasD d e = some b) : (∃ x y, d = .str x ∧ e = .str y ∧ b = !(Builtin.Str.occurrences y x 0 y.length 1).isEmpty) ∨ (∃ p ds, py d = some p ∧ pyL e = some ds ∧ b = ds.any fun z => PyData.eqv z p) := by
  have gen : ∀ {d e : D}, (match py d, pyL e with | some a, some l => some (l.any fun z => PyData.eqv z a) | _, _ => none) = some b → ∃ p ds, py d = some p ∧ pyL e = some ds ∧ b = ds.any fun z => PyData.eqv z p := by
    intro d e h
    cases e1 : py d with
    | none => rw [e1] at h; cases h
    | some p => cases e2 : pyL e with
      | none => rw [e1, e2] at h; cases h
      | some l => rw [e1, e2] at h; cases h; exact ⟨p, l, rfl, rfl, rfl⟩
  cases d with
  | str x =>
    cases e with
    | str y => cases h; exact .inl ⟨x, y, rfl, rfl, rfl⟩
    | _ => exact .inr (gen h)
  | _ => exact .inr (gen h)
theorem opd_in : OpD W (rAt W) (rIn W.K) inD := by
  intro Hf H s x y d e z Q x0 hx hy hg k
  simp only [inD, Option.map_eq_some_iff] at hg
  obtain ⟨b, hb, rfl⟩ := hg
  rcases hasD_cases hb with ⟨i, j, rfl, rfl, rfl⟩ | ⟨p, ds, e1, e2, rfl⟩
  · exact .inl ⟨i, j, hx.str', hy.str', k _ _ _ x0 (.bl _)⟩
  · rcases pyL_cases e2 with ⟨l, rfl, q1, q2⟩ | ⟨l, rfl, q1, q2⟩
    · exact .inr (.inl ⟨p, ds, hx.dp x0.fh (py_some e1).1, hy.dp x0.fh q1, (py_some e1).2, q2, k _ _ _ x0 (.bl _)⟩)
    · exact .inr (.inr ⟨p, ds, hx.dp x0.fh (py_some e1).1, hy.dp x0.fh q1, (py_some e1).2, q2, k _ _ _ x0 (.bl _)⟩)
theorem opd_notIn : OpD W (rAt W) (rNotIn W.K) notInD := by
  intro Hf H s x y d e z Q x0 hx hy hg k
  simp only [notInD, Option.map_eq_some_iff] at hg
  obtain ⟨b, hb, rfl⟩ := hg
  rcases hasD_cases hb with ⟨i, j, rfl, rfl, rfl⟩ | ⟨p, ds, e1, e2, rfl⟩
  · exact .inl ⟨i, j, hx.str', hy.str', k _ _ _ x0 (.bl _)⟩
  · rcases pyL_cases e2 with ⟨l, rfl, q1, q2⟩ | ⟨l, rfl, q1, q2⟩
    · exact .inr (.inl ⟨p, ds, hx.dp x0.fh (py_some e1).1, hy.dp x0.fh q1, (py_some e1).2, q2, k _ _ _ x0 (.bl _)⟩)
    · exact .inr (.inr ⟨p, ds, hx.dp x0.fh (py_some e1).1, hy.dp x0.fh q1, (py_some e1).2, q2, k _ _ _ x0 (.bl _)⟩)
theorem je_notIn (ha : JV c Γ a fa) (hb : JV c Γ b fb) (hm : behindInMarks .NotIn b = false := by rfl) : JE c Γ (.Compare a [.NotIn] [b] pos) (bin notInD fa fb) := jx_cmp or_notIn opd_notIn ha hb hm
theorem jt_in (ha : JV c Γ a fa) (hb : JV c Γ b fb) (hm : behindInMarks .In b = false := by rfl) : JT c Γ (.Compare a [.In] [b] pos) (tst (bin inD fa fb)) := jt_cmp or_in opd_in ha hb hm
def intI (g : Int → Int → Option D) (d e : D) : Option D := match d, e with
  | .int i, .int j => g i j
  | _, _ => none
theorem intI_some {g : Int → Int → Option D} {d e z : D} (h : intI g d e = some z) : ∃ i j, d = .int i ∧ e = .int j ∧ g i j = some z := by
  cases d with
  | int i => cases e with
    | int j => exact ⟨i, j, rfl, rfl, h⟩
    | _ => cases h
  | _ => cases h
theorem opd_b {g : Int → Int → Bool} : OpD W (rAt W) (rI0 fun i j => .bl (g i j)) (intI fun i j => some (.bl (g i j))) := by
  intro Hf H s x y d e z Q x0 hx hy hg k
  obtain ⟨i, j, rfl, rfl, hz⟩ := intI_some hg
  cases hz
  exact ⟨i, j, hx.int', hy.int', k _ _ _ x0 (.bl _)⟩
def gtD := intI fun i j => some (.bl (decide (j < i)))
theorem jt_gt (ha : JV c Γ a fa) (hb : JV c Γ b fb) : JT c Γ (.Compare a [.Gt] [b] pos) (tst (bin gtD fa fb)) := jt_cmp (fun X h => op_gt) opd_b ha hb (nomark _)
def addD (d e : D) : Option D := match d, e with
  | .int i, .int j => some (.int (i + j))
  | .str x, .str y => if x.length + y.length ≤ sizeLine then some (.str (x ++ y)) else none
  | .tup l, .tup m => if l.length + m.length ≤ sizeLine then some (.tup (l ++ m)) else none
  | _, _ => none
def rAddA (K : PySem.W.Frag) : R2 := fun x y H Q => (rI0 fun i j => .int (i + j)) x y H Q ∨ ((fun x y H Q => ∃ i j, x = .str i ∧ y = .str j ∧ i.length + j.length ≤ sizeLine ∧ Q (.str (i ++ j)) H) x y H Q ∨ rCatA K x y H Q)
theorem or_add (X : Cx) (h : Is c X) : OpR X (binaryOp .Add) (rAddA c.W.K) := by
  have h1 := op_catA (X := X)
  rw [h.K] at h1
  exact OpR.or op_add (OpR.or op_add_str h1)
theorem opd_add : OpD W (rAt W) (rAddA W.K) addD := by
  intro Hf H s x y d e z Q x0 hx hy hg k
  unfold addD at hg
  split at hg
  · cases hg; exact .inl ⟨_, _, hx.int', hy.int', k _ _ _ x0 (.int _)⟩
  · split at hg
    · rename_i hz; cases hg; exact .inr (.inl ⟨_, _, hx.str', hy.str', hz, k _ _ _ x0 (.str _)⟩)
    · cases hg
  · split at hg
    · rename_i l m hz
      cases hg
      obtain ⟨p, xs, rfl, h1, h2, h3⟩ := hx.tup' x0.fh
      obtain ⟨q, ys, rfl, g1, g2, g3⟩ := hy.tup' x0.fh
      have hl : xs.length + ys.length ≤ sizeLine := by rw [h3.len, g3.len]; exact hz
      refine .inr (.inr ⟨p, q, xs, ys, rfl, rfl, h1, g1, hl, fun e => ?_, fun _ e => ?_, fun _ _ r hr => ?_⟩)
      · subst e
        cases h3
        refine k _ _ _ x0 ?_
        cases hy with
        | fr hy => exact hy
      · subst e
        cases g3
        rw [List.append_nil] at k
        refine k _ _ _ x0 ?_
        cases hx with
        | fr hx => exact hx
      · have y := x0.newF (o := .tup (xs ++ ys)) hr
        exact k _ _ _ y (.tup upd_same (by rw [List.length_append]; exact hl) ((h3.mono y.ff).append (g3.mono y.ff)))
    · cases hg
  · cases hg
theorem je_add (ha : JV c Γ a fa) (hb : JV c Γ b fb) : JE c Γ (.BinOp a .Add b pos) (bin addD fa fb) := jx_op (fun _ => elder_at) or_add opd_add ha hb
def catD (d e : D) : Option D := match d, e with
  | .lst l, .lst m => if l.length + m.length ≤ sizeLine then some (.lst (l ++ m)) else none
  | _, _ => none
theorem opd_cat : OpD W (rF W) rCat catD := by
  intro Hf H s x y d e z Q x0 hx hy hg k
  unfold catD at hg
  split at hg
  · split at hg
    · rename_i l m hz
      cases hg
      obtain ⟨p, xs, rfl, h1, h2, h3⟩ := hx.lst' x0.fh
      obtain ⟨q, ys, rfl, g1, g2, g3⟩ := hy.lst' x0.fh
      have hl : xs.length + ys.length ≤ sizeLine := by rw [h3.len, g3.len]; exact hz
      refine ⟨p, q, xs, ys, rfl, rfl, h1, g1, hl, fun r hr => ?_⟩
      obtain ⟨y, nf, nP⟩ := x0.newU (o := .lst (xs ++ ys)) hr
      exact k _ _ _ y ⟨r, _, _, rfl, rfl, hr, nf, nP, upd_same, by rw [List.length_append]; exact hl, h3.append g3⟩
    · cases hg
  · cases hg
theorem jf_cat (ha : JV c Γ a fa) (hb : JV c Γ b fb) : JF c Γ (.BinOp a .Add b pos) (bin catD fa fb) := jx_op (fun _ => elder_f) (fun X h => op_cat) opd_cat ha hb
theorem opd_i {C : Int → Int → Prop} {g : Int → Int → Int} {go : Int → Int → Option D} (h : ∀ i j z, go i j = some z → C i j ∧ z = .int (g i j)) : OpD W (rAt W) (rI C fun i j => .int (g i j)) (intI go) := by
  intro Hf H s x y d e z Q x0 hx hy hg k
  obtain ⟨i, j, rfl, rfl, hz⟩ := intI_some hg
  obtain ⟨hc, rfl⟩ := h i j z hz
  exact ⟨i, j, hx.int', hy.int', hc, k _ _ _ x0 (.int _)⟩
def mulD := intI fun i j => if (-(2 ^ 64) < i ∧ i < 2 ^ 64) ∨ (-(2 ^ 64) < j ∧ j < 2 ^ 64) then some (.int (i * j)) else none
theorem je_mul (ha : JV c Γ a fa) (hb : JV c Γ b fb) : JE c Γ (.BinOp a .Mult b pos) (bin mulD fa fb) :=
  jx_op (fun _ => elder_at) (fun X h => op_mul) (opd_i fun i j z h => by
    by_cases q : (-(2 ^ 64) < i ∧ i < 2 ^ 64) ∨ (-(2 ^ 64) < j ∧ j < 2 ^ 64)
    · rw [if_pos q] at h; cases h; exact ⟨q, rfl⟩
    · rw [if_neg q] at h; cases h) ha hb
def fdivD := intI fun i j => if 0 < j ∧ j < 1073741824 then some (.int (i / j)) else none
theorem je_fdiv (ha : JV c Γ a fa) (hb : JV c Γ b fb) : JE c Γ (.BinOp a .FloorDiv b pos) (bin fdivD fa fb) :=
  jx_op (fun _ => elder_at) (fun X h => op_fdiv) (opd_i fun i j z h => by
    by_cases q : 0 < j ∧ j < 1073741824
    · rw [if_pos q] at h; cases h; exact ⟨q, rfl⟩
    · rw [if_neg q] at h; cases h) ha hb
def modD := intI fun i j => if 0 < j then some (.int (i % j)) else none
theorem je_mod (ha : JV c Γ a fa) (hb : JV c Γ b fb) : JE c Γ (.BinOp a .Mod b pos) (bin modD fa fb) :=
  jx_op (fun _ => elder_at) (fun X h => op_mod) (opd_i fun i j z h => by
    by_cases q : 0 < j
    · rw [if_pos q] at h; cases h; exact ⟨q, rfl⟩
    · rw [if_neg q] at h; cases h) ha hb
def powD := intI fun i j => if 0 ≤ j ∧ j ≤ 1000000 ∧ i.natAbs < 2 ^ 64 then some (.int (i ^ j.toNat)) else none
theorem je_pow (ha : JV c Γ a fa) (hb : JV c Γ b fb) : JE c Γ (.BinOp a .Pow b pos) (bin powD fa fb) :=
  jx_op (fun _ => elder_at) (fun X h => op_pow) (opd_i fun i j z h => by
    by_cases q : 0 ≤ j ∧ j ≤ 1000000 ∧ i.natAbs < 2 ^ 64
    · rw [if_pos q] at h; cases h; exact ⟨q, rfl⟩
    · rw [if_neg q] at h; cases h) ha hb
def un (g : D → Option D) (fa : Rho → M D) : Rho → M D := fun ρ => do
  let d ← fa ρ
  opt (g d)
def UnD (W : Wd) (Rs : Res) (r : V → Hp → VK → Prop) (g : D → Option D) : Prop :=
  ∀ Hf H s x d z Q, Ext W Hf H Hf H s → VAt W Hf H x d → g d = some z → (∀ v Hf' H', Ext W Hf H Hf' H' s → Rs H Hf' H' v z → Q v H') → r x H Q
theorem rx_un {Rs : Res} {r : V → Hp → VK → Prop} {g : D → Option D} {ta : TE} (el : Elder W Rs) (ho : UnD W Rs r g) (ha : RX W E Γ (rV W) ta fa) : RX W E Γ Rs (tUn r ta) (un g fa) := by
  intro B ρ s σ Hf H Q V p
  unfold un at p
  rw [post_bind] at p
  refine ha B ρ s σ Hf H _ V (p.imp (fun d s1 p1 v Hf1 H1 x1 r1 => ?_) fun _ _ _ z => z)
  rw [post_opt] at p1
  obtain ⟨z, e, k⟩ := p1
  exact ho Hf1 H1 s1 v d z Q x1.refl r1 e fun u Hf3 H3 x3 r3 => k u Hf3 H3 (x1.trans x3) (el _ _ _ _ _ _ _ _ _ _ x1 x3 r3)
def negD (d : D) : Option D := match d with
  | .int i => some (.int (-i))
  | _ => none
theorem je_neg (ha : JV c Γ a fa) : JE c Γ (.UnaryOp .USub a pos) (un negD fa) := by
  obtain ⟨t, h1, h2⟩ := ha
  refine ⟨_, fun X hX => pe_un un_neg (h1 X hX), rx_un elder_at ?_ h2⟩
  intro Hf H s x d z Q x0 hx hg k
  cases d with
  | int i => cases hg; exact ⟨i, hx.int', k _ _ _ x0 (.int _)⟩
  | _ => cases hg
end
end VL
namespace VL
open PySem PySem.Spec PyProof.Rows L2
section
variable {c : Ctx} {W : Wd} {E : XK} {Γ : Gam} {e a b : Expr} {f fa fb : Rho → M D} {pos : Pos} {Hf H : Hp}
theorem AtAll.atI {xs : List V} {ds : List D} {i : Int} {z : D} (h : AtAll W Hf xs ds) (e : atI ds i = some z) : ∃ v, L2.atI xs i = some v ∧ At W Hf v z := by
  unfold L2.atI at e ⊢
  rw [h.len]
  cases hi : ixN ds.length i with
  | none => rw [hi] at e; cases e
  | some j =>
    rw [hi] at e
    exact h.get' e
def idxD (d e : D) : Option D := match d, e with
  | .lst l, .int i => atI l i
  | .tup l, .int i => atI l i
  | .str x, .int i => if x.length ≤ sizeLine then (atI x.cps.toList i).map fun ch => .str ⟨#[ch]⟩ else none
  | _, _ => none
theorem opd_idx : OpD W (rAt W) (rIx W.K) idxD := by
  intro Hf H s x y d e z Q x0 hx hy hg k
  unfold idxD at hg
  split at hg
  · obtain ⟨p, xs, rfl, h1, h2, h3⟩ := hx.lst' x0.fh
    obtain ⟨v, q, a⟩ := h3.atI hg
    exact .inl ⟨p, xs, _, v, rfl, hy.int', SqL.of h1, q, k _ _ _ x0 a⟩
  · obtain ⟨p, xs, rfl, h1, h2, h3⟩ := hx.tup' x0.fh
    obtain ⟨v, q, a⟩ := h3.atI hg
    exact .inr (.inl ⟨p, xs, _, v, rfl, hy.int', h1, q, k _ _ _ x0 a⟩)
  · split at hg
    · rename_i hz
      simp only [Option.map_eq_some_iff] at hg
      obtain ⟨ch, hc, rfl⟩ := hg
      exact .inr (.inr ⟨_, _, ch, hx.str', hy.int', hz, hc, k _ _ _ x0 (.str _)⟩)
    · cases hg
  · cases hg
theorem je_idx (ha : JV c Γ a fa) (hb : JV c Γ b fb) (hs : PlainIx b := by exact fun _ _ => rfl) : JE c Γ (.Subscript a b pos) (bin idxD fa fb) := by
  obtain ⟨ta, a1, a2⟩ := ha
  obtain ⟨tb, b1, b2⟩ := hb
  refine ⟨tOp (rIx c.W.K) ta tb, fun X h => ?_, rx_bin elder_at opd_idx a2 b2⟩
  have q := ix_seq (X := X)
  rw [h.K] at q
  exact pe_ix q (a1 X h) (b1 X h) hs
def asInt (d : D) : M Int := match d with
  | .int b => pure b
  | _ => nope
def JA (c : Ctx) (Γ : Gam) (es : List Expr) (f : Rho → M (List D)) : Prop := ∃ t, (∀ X, Is c X → PA X es t) ∧
  ∀ B ρ s σ Hf H Q, EnvAt c.W B Γ ρ s σ Hf H → Post (fun ds s' => ∀ vs Hf' H', Ext c.W Hf H Hf' H' s' → AtAll c.W Hf' vs ds → Q vs H') (ErrOk c.W B c.E) (f ρ s) → t σ H Q
def JAv (c : Ctx) (Γ : Gam) (es : List Expr) (f : Rho → M (List D)) : Prop := ∃ t, (∀ X, Is c X → PA X es t) ∧
  ∀ B ρ s σ Hf H Q, EnvAt c.W B Γ ρ s σ Hf H → Post (fun ds s' => ∀ vs Hf' H', Ext c.W Hf H Hf' H' s' → VAll c.W Hf' H' vs ds → Q vs H') (ErrOk c.W B c.E) (f ρ s) → t σ H Q
def nilA : Rho → M (List D) := fun _ => pure []
def consA (f : Rho → M D) (g : Rho → M (List D)) : Rho → M (List D) := fun ρ => do
  let d ← f ρ
  let ds ← g ρ
  pure (d :: ds)
def seqOf (d : D) : Option (List D) := match d with
  | .lst l => some l
  | .tup l => some l
  | _ => none
theorem ja_nil : JA c Γ [] nilA := ⟨_, fun X h => pa_nil, fun B ρ s σ Hf H Q V p => p _ _ _ V.ext0 .nil⟩
theorem jav_nil : JAv c Γ [] nilA := ⟨_, fun X h => pa_nil, fun B ρ s σ Hf H Q V p => p _ _ _ V.ext0 .nil⟩
theorem ja_cons {es : List Expr} {fs : Rho → M (List D)} (ha : JE c Γ a fa) (hr : JA c Γ es fs) (hs : ∀ env, starEach (a :: es) env = (false, eval a env) :: starEach es env := by intro _; rfl) : JA c Γ (a :: es) (consA fa fs) := by
  obtain ⟨t, h1, h2⟩ := ha
  obtain ⟨u, g1, g2⟩ := hr
  refine ⟨_, fun X h => pa_cons (h1 X h) (g1 X h) (hs _), fun B ρ s σ Hf H Q V p => ?_⟩
  unfold consA at p
  rw [post_bind] at p
  refine h2 B ρ s σ Hf H _ V (p.imp (fun d s1 p1 v Hf1 H1 x1 r1 => ?_) fun _ _ _ z => z)
  rw [post_bind] at p1
  refine g2 B ρ s1 σ Hf1 H1 _ (V.ext' x1) (p1.imp (fun ds s2 k vs Hf2 H2 x2 r2 => ?_) fun _ _ _ z => z)
  exact k _ _ _ (x1.trans x2) (.cons (At.mono x2.ff r1) r2)
theorem jav_cons {es : List Expr} {fs : Rho → M (List D)} (ha : JV c Γ a fa) (hr : JAv c Γ es fs) (hs : ∀ env, starEach (a :: es) env = (false, eval a env) :: starEach es env := by intro _; rfl) : JAv c Γ (a :: es) (consA fa fs) := by
  obtain ⟨t, h1, h2⟩ := ha
  obtain ⟨u, g1, g2⟩ := hr
  refine ⟨_, fun X h => pa_cons (h1 X h) (g1 X h) (hs _), fun B ρ s σ Hf H Q V p => ?_⟩
  unfold consA at p
  rw [post_bind] at p
  refine h2 B ρ s σ Hf H _ V (p.imp (fun d s1 p1 v Hf1 H1 x1 r1 => ?_) fun _ _ _ z => z)
  rw [post_bind] at p1
  refine g2 B ρ s1 σ Hf1 H1 _ (V.ext' x1) (p1.imp (fun ds s2 k vs Hf2 H2 x2 r2 => ?_) fun _ _ _ z => z)
  exact k _ _ _ (x1.trans x2) (.cons (VAt.ext x2 r1) r2)
def mkT (ds : List D) : M D := if ds.length ≤ sizeLine then pure (.tup ds) else nope
def mkL (ds : List D) : M D := if ds.length ≤ sizeLine then pure (.lst ds) else nope
def tupF (fs : Rho → M (List D)) : Rho → M D := fun ρ => do mkT (← fs ρ)
def lstF (fs : Rho → M (List D)) : Rho → M D := fun ρ => do mkL (← fs ρ)
theorem post_mkT {A : D → Pot → Prop} {B : Nat → D → Pot → Prop} {ds : List D} {s : Pot} (h : Post A B (mkT ds s)) : ds.length ≤ sizeLine ∧ A (.tup ds) s := by
  unfold mkT at h
  split at h
  · exact ⟨by assumption, h⟩
  · exact h.elim
theorem post_mkL {A : D → Pot → Prop} {B : Nat → D → Pot → Prop} {ds : List D} {s : Pot} (h : Post A B (mkL ds s)) : ds.length ≤ sizeLine ∧ A (.lst ds) s := by
  unfold mkL at h
  split at h
  · exact ⟨by assumption, h⟩
  · exact h.elim
theorem je_tup {es : List Expr} {fs : Rho → M (List D)} {x1} (h : JA c Γ es fs) : JE c Γ (.Tuple es x1 pos) (tupF fs) := by
  obtain ⟨t, h1, h2⟩ := h
  refine ⟨_, fun X h => pe_tup (h1 X h), fun B ρ s σ Hf H Q V p => ?_⟩
  unfold tupF at p
  rw [post_bind] at p
  refine h2 B ρ s σ Hf H _ V (p.imp (fun d s1 p1 vs Hf1 H1 x1 r1 => ?_) fun _ _ _ z => z)
  obtain ⟨hz, k⟩ := post_mkT p1
  refine ⟨by rw [r1.len]; exact hz, fun q hq => ?_⟩
  have y := x1.newF (o := .tup vs) hq
  exact k _ _ _ (x1.trans y) (.tup upd_same (by rw [r1.len]; exact hz) (r1.mono y.ff))
theorem jf_lst {es : List Expr} {fs : Rho → M (List D)} (h : JA c Γ es fs) : JF c Γ (.List es pos) (lstF fs) := by
  obtain ⟨t, h1, h2⟩ := h
  refine ⟨_, fun X h => pe_lst (h1 X h), fun B ρ s σ Hf H Q V p => ?_⟩
  unfold lstF at p
  rw [post_bind] at p
  refine h2 B ρ s σ Hf H _ V (p.imp (fun d s1 p1 vs Hf1 H1 x1 r1 => ?_) fun _ _ _ z => z)
  obtain ⟨hz, k⟩ := post_mkL p1
  refine ⟨by rw [r1.len]; exact hz, fun q hq => ?_⟩
  obtain ⟨y, nf, nP⟩ := x1.newU (o := .lst vs) hq
  exact k _ _ _ (x1.trans y) (elder_f _ _ _ _ _ _ _ _ _ _ x1 y ⟨q, _, _, rfl, rfl, hq, nf, nP, upd_same, by rw [r1.len]; exact hz, r1⟩)
def CallD (W : Wd) (Rs : Res) (r : List V → Hp → VK → Prop) (g : List D → Option D) : Prop :=
  ∀ Hf H s xs ds z Q, Ext W Hf H Hf H s → VAll W Hf H xs ds → g ds = some z → (∀ v Hf' H', Ext W Hf H Hf' H' s → Rs H Hf' H' v z → Q v H') → r xs H Q
def callF (g : List D → Option D) (fs : Rho → M (List D)) : Rho → M D := fun ρ => do
  let ds ← fs ρ
  opt (g ds)
theorem rx_call {Rs : Res} {r : List V → Hp → VK → Prop} {g : List D → Option D} {t : TA} {fs : Rho → M (List D)} (el : Elder c.W Rs) (ho : CallD c.W Rs r g)
    (h2 : ∀ B ρ s σ Hf H Q, EnvAt c.W B Γ ρ s σ Hf H → Post (fun ds s' => ∀ vs Hf' H', Ext c.W Hf H Hf' H' s' → VAll c.W Hf' H' vs ds → Q vs H') (ErrOk c.W B c.E) (fs ρ s) → t σ H Q) : RX c.W c.E Γ Rs (tCB r t) (callF g fs) := by
  intro B ρ s σ Hf H Q V p
  unfold callF at p
  rw [post_bind] at p
  refine h2 B ρ s σ Hf H _ V (p.imp (fun d s1 p1 v Hf1 H1 x1 r1 => ?_) fun _ _ _ z => z)
  rw [post_opt] at p1
  obtain ⟨z, e, k⟩ := p1
  exact ho Hf1 H1 s1 v d z Q x1.refl r1 e fun u Hf3 H3 x3 r3 => k u Hf3 H3 (x1.trans x3) (el _ _ _ _ _ _ _ _ _ _ x1 x3 r3)
theorem jx_callB {Rs : Wd → Res} {x : Str} {id : String} {r : List V → Hp → VK → Prop} {g : List D → Option D} {es : List Expr} {fs : Rho → M (List D)} {p : Pos} (el : ∀ W, Elder W (Rs W)) (hr : ∀ X, Is c X → CallR X (.builtin id) r) (ho : CallD c.W (Rs c.W) r g)
    (hv : bootBuiltins x = some (.builtin id)) (ha : JAv c Γ (e :: es) fs) (hg : c.sc.names.lookup x = some .globalImplicit) (hm : c.G.mg x = none)
    (he : ∀ env, starEach (e :: es) env = (false, eval e env) :: starEach es env := by intro _; rfl) (hpl : ∀ env, (backTo pos (starEach es env)).any (·.1) = false := by intro _; rfl) (hd : (x == ("__debug__" : Str)) = false := by decide) (hn : x ≠ "__name__" := by decide) : JX c Rs Γ (.Call (.Name x p) (e :: es) [] pos) (callF g fs) := by
  obtain ⟨t, h1, h2⟩ := ha
  exact ⟨tCB r t, fun X h => pe_callB (hr X h) (h.gl hg) (by rw [h.mg]; exact hm) hv (h1 X h) (hdb := hd) (hn := hn) (he := he _) (hpl := hpl _), rx_call (el _) ho h2⟩
theorem jx_callT {Rs : Wd → Res} {x : Str} {T : String} {r : List V → Hp → VK → Prop} {g : List D → Option D} {es : List Expr} {fs : Rho → M (List D)} {p : Pos} (el : ∀ W, Elder W (Rs W)) (hr : ∀ X, Is c X → CallR X (.type T) r) (ho : CallD c.W (Rs c.W) r g)
    (hv : bootBuiltins x = some (.type T)) (ha : JAv c Γ (e :: es) fs) (hg : c.sc.names.lookup x = some .globalImplicit) (hm : c.G.mg x = none)
    (he : ∀ env, starEach (e :: es) env = (false, eval e env) :: starEach es env := by intro _; rfl) (hpl : ∀ env, (backTo pos (starEach es env)).any (·.1) = false := by intro _; rfl) (hd : (x == ("__debug__" : Str)) = false := by decide) (hn : x ≠ "__name__" := by decide) : JX c Rs Γ (.Call (.Name x p) (e :: es) [] pos) (callF g fs) := by
  obtain ⟨t, h1, h2⟩ := ha
  exact ⟨tCB r t, fun X h => pe_callTy (hr X h) (h.gl hg) (by rw [h.mg]; exact hm) hv (h1 X h) (hdb := hd) (hn := hn) (he := he _) (hpl := hpl _), rx_call (el _) ho h2⟩
end
end VL
namespace VL
open PySem PySem.Spec PyProof.Rows L2
theorem CallR.or {X : Cx} {f : Value} {r r' : List V → Hp → VK → Prop} (h : CallR X f r) (h' : CallR X f r') : CallR X f (fun xs H Q => r xs H Q ∨ r' xs H Q) := by
  intro pins s σ H xs us Q I rx q
  rcases q with q | q
  · exact h pins s σ H xs us Q I rx q
  · exact h' pins s σ H xs us Q I rx q
section
variable {c : Ctx} {W : Wd} {E : XK} {Γ : Gam} {e a b o : Expr} {f fa fb fo : Rho → M D} {pos : Pos} {Hf H : Hp}
theorem VAll.one {xs : List V} {d : D} (h : VAll W Hf H xs [d]) : ∃ x, xs = [x] ∧ VAt W Hf H x d := by
  cases h with
  | cons h r => cases r; exact ⟨_, rfl, h⟩
theorem VAll.two {xs : List V} {d e : D} (h : VAll W Hf H xs [d, e]) : ∃ x y, xs = [x, y] ∧ VAt W Hf H x d ∧ VAt W Hf H y e := by
  cases h with
  | cons h r => cases r with
    | cons h' r => cases r; exact ⟨_, _, rfl, h, h'⟩
def lenD (ds : List D) : Option D := match ds with
  | [.lst l] => some (.int l.length)
  | [.tup l] => some (.int l.length)
  | [.dct l] => some (.int l.length)
  | [.str x] => if x.length ≤ sizeLine then some (.int x.length) else none
  | _ => none
def rLenA (K : PySem.W.Frag) : List V → Hp → VK → Prop := fun xs H Q => (∃ p ys, xs = [.ref p] ∧ (SqL K H p ys ∨ SqT K H p ys) ∧ Q (.int ys.length) H) ∨ ((∃ x n, xs = [x] ∧ LenV K x H n ∧ Q (.int n) H) ∨ (∃ a kvs, xs = [V.ref a] ∧ Rd H a (.dK kvs) ∧ Q (.int kvs.length) H))
theorem call_lenRd {X : Cx} : CallR X (.builtin "len") (fun xs H Q => ∃ a kvs, xs = [V.ref a] ∧ Rd H a (.dK kvs) ∧ Q (.int kvs.length) H) := by
  intro pins s σ H xs us Q I r h
  obtain ⟨a, kvs, e, hrd, q⟩ := h
  subst e
  obtain ⟨u, eu, ru⟩ := vals1 r
  subst eu
  cases ru
  exact d_len I hrd fun t s' I' => ⟨.int kvs.length, H, I', ⟨t, rfl⟩, q⟩
theorem cr_lenA (X : Cx) (h : Is c X) : CallR X (.builtin "len") (rLenA c.W.K) := by
  have h1 := call_len_seq (X := X)
  have h2 := call_len (X := X)
  rw [h.K] at h1 h2
  exact CallR.or h1 (CallR.or h2 call_lenRd)
theorem cd_len : CallD W (rAt W) (rLenA W.K) lenD := by
  intro Hf H s xs ds z Q x0 hxs hg k
  unfold lenD at hg
  split at hg
  · cases hg
    obtain ⟨x, rfl, hx⟩ := hxs.one
    obtain ⟨p, ys, rfl, h1, h2, h3⟩ := hx.lst' x0.fh
    exact .inl ⟨p, ys, rfl, .inl (SqL.of h1), by rw [h3.len]; exact k _ _ _ x0 (.int _)⟩
  · cases hg
    obtain ⟨x, rfl, hx⟩ := hxs.one
    obtain ⟨p, ys, rfl, h1, h2, h3⟩ := hx.tup' x0.fh
    exact .inl ⟨p, ys, rfl, .inr h1, by rw [h3.len]; exact k _ _ _ x0 (.int _)⟩
  · cases hg
    obtain ⟨x, rfl, hx⟩ := hxs.one
    obtain ⟨p, ys, rfl, h1, h2, h3⟩ := hx.dct' x0.fh
    exact .inr (.inr ⟨p, ys, rfl, h1, by rw [h3.len]; exact k _ _ _ x0 (.int _)⟩)
  · split at hg
    · rename_i hz
      cases hg
      obtain ⟨x, rfl, hx⟩ := hxs.one
      have e := hx.str'
      subst e
      exact .inr (.inl ⟨_, _, rfl, ⟨hz, rfl⟩, k _ _ _ x0 (.int _)⟩)
    · cases hg
  · cases hg
theorem je_len {fs : Rho → M (List D)} {p : Pos} (ha : JAv c Γ [e] fs) (hg : c.sc.names.lookup ("len" : Str) = some .globalImplicit) (hm : c.G.mg "len" = none) (he : ∀ env, starEach [e] env = (false, eval e env) :: starEach [] env := by intro _; rfl) : JE c Γ (.Call (.Name "len" p) [e] [] pos) (callF lenD fs) :=
  jx_callB (fun _ => elder_at) cr_lenA cd_len boot_len ha hg hm he
def intD (ds : List D) : Option D := match ds with
  | [.int i] => some (.int i)
  | [.bl b] => some (.int (if b then 1 else 0))
  | _ => none
theorem je_int' {fs : Rho → M (List D)} {p : Pos} (ha : JAv c Γ [e] fs) (hg : c.sc.names.lookup ("int" : Str) = some .globalImplicit) (hm : c.G.mg "int" = none) (he : ∀ env, starEach [e] env = (false, eval e env) :: starEach [] env := by intro _; rfl) : JE c Γ (.Call (.Name "int" p) [e] [] pos) (callF intD fs) := by
  refine jx_callT (fun _ => elder_at) (fun X h => call_int1) ?_ (by decide +kernel) ha hg hm he
  intro Hf H s xs ds z Q x0 hxs hg k
  unfold intD at hg
  split at hg
  · cases hg
    obtain ⟨x, rfl, hx⟩ := hxs.one
    exact .inl ⟨_, by rw [hx.int'], k _ _ _ x0 (.int _)⟩
  · cases hg
    obtain ⟨x, rfl, hx⟩ := hxs.one
    exact .inr ⟨_, by rw [hx.bl'], k _ _ _ x0 (.int _)⟩
  · cases hg
def valD (l : List (Key × D)) (k : Key) : Option D := (l.find? fun kv => decide (kv.1 = k)).map (·.2)
def putD (l : List (Key × D)) (k : Key) (v : D) : List (Key × D) :=
  if (l.any fun kv => decide (kv.1 = k)) = true then l.map (fun kv => if kv.1 = k then (kv.1, v) else kv) else l ++ [(k, v)]
theorem AtKv.val : ∀ {ks : List (Key × V)} {ds : List (Key × D)} (k : Key), AtKv W H ks ds → (∀ d, valD ds k = some d → ∃ v, valV ks k = some v ∧ At W H v d) ∧ (valD ds k = none → valV ks k = none)
  | _, _, k, .nil => ⟨fun d h => by simp [valD] at h, fun _ => rfl⟩
  | _, _, k, .cons (k := k') h r => by
    obtain ⟨h1, h2⟩ := AtKv.val k r
    by_cases e : k' = k
    · subst e
      refine ⟨fun d hd => ?_, fun hd => ?_⟩
      · simp [valD, List.find?_cons] at hd
        subst hd
        exact ⟨_, valV_pos rfl, h⟩
      · simp [valD, List.find?_cons] at hd
    · refine ⟨fun d hd => ?_, fun hd => ?_⟩
      · obtain ⟨v, q, a⟩ := h1 d (by simpa [valD, List.find?_cons, e] using hd)
        exact ⟨v, by rw [valV_neg (p := (k', _)) e]; exact q, a⟩
      · rw [valV_neg (p := (k', _)) e]
        exact h2 (by simpa [valD, List.find?_cons, e] using hd)
theorem AtKv.any : ∀ {ks : List (Key × V)} {ds : List (Key × D)} (k : Key), AtKv W H ks ds → (ks.any fun kv => decide (kv.1 = k)) = (ds.any fun kv => decide (kv.1 = k))
  | _, _, _, .nil => rfl
  | _, _, k, .cons h r => by simp only [List.any_cons]; rw [AtKv.any k r]
theorem AtKv.append : ∀ {ks ks' : List (Key × V)} {ds ds' : List (Key × D)}, AtKv W H ks ds → AtKv W H ks' ds' → AtKv W H (ks ++ ks') (ds ++ ds')
  | _, _, _, _, .nil, s => s
  | _, _, _, _, .cons h r, s => .cons h (AtKv.append r s)
theorem AtKv.repl : ∀ {ks : List (Key × V)} {ds : List (Key × D)} {k : Key} {v : V} {d : D}, At W H v d → AtKv W H ks ds → AtKv W H (ks.map fun kv => if kv.1 = k then (kv.1, v) else kv) (ds.map fun kv => if kv.1 = k then (kv.1, d) else kv)
  | _, _, _, _, _, _, .nil => .nil
  | _, _, k, _, _, h, .cons (k := k') a r => by
    by_cases e : k' = k
    · subst e
      simp only [List.map_cons, if_true]
      exact .cons h (AtKv.repl h r)
    · simp only [List.map_cons, if_neg e]
      exact .cons a (AtKv.repl h r)
theorem AtKv.put {ks : List (Key × V)} {ds : List (Key × D)} {k : Key} {v : V} {d : D} (h : At W H v d) (r : AtKv W H ks ds) : AtKv W H (putK ks k v) (putD ds k d) := by
  unfold putK putD
  rw [r.any k]
  split
  · exact r.repl h
  · exact r.append (.cons h .nil)
theorem Is.u1 {X : Cx} (h : Is c X) : X.A.units + 1 < cLine := by
  have := h.room.un; omega
end
end VL
namespace VL
open PySem PySem.Spec PyProof.Rows L2
theorem wipe_set {σ : L2.St} {i : Nat} {v : Option V} : ∀ {vs : List Nat}, i ∈ vs → wipe (σ.set i v) vs = wipe σ vs
  | j :: vs, h => by
    by_cases hi : i ∈ vs
    · show (wipe (σ.set i v) vs).set j none = (wipe σ vs).set j none
      rw [wipe_set hi]
    · have e : i = j := by
        rcases List.mem_cons.mp h with e | e
        · exact e
        · exact absurd e hi
      subst e
      show (wipe (σ.set i v) vs).set i none = (wipe σ vs).set i none
      have : ∀ ws : List Nat, i ∉ ws → wipe (σ.set i v) ws = (wipe σ ws).set i v := by
        intro ws
        induction ws with
        | nil => intro _; rfl
        | cons k r ih =>
          intro hk
          have h1 : i ≠ k := fun e => hk (by rw [e]; exact List.mem_cons_self ..)
          have h2 : i ∉ r := fun e => hk (List.mem_cons_of_mem _ e)
          show (wipe (σ.set i v) r).set k none = ((wipe σ r).set k none).set i v
          rw [ih h2, List.set_comm _ _ h1]
      rw [this vs hi, List.set_set]
theorem wipe_wipe {σ : L2.St} : ∀ {ws vs : List Nat}, (∀ i ∈ ws, i ∈ vs) → wipe (wipe σ ws) vs = wipe σ vs
  | [], _, _ => rfl
  | j :: ws, vs, h => by
    show wipe ((wipe σ ws).set j none) vs = wipe σ vs
    rw [wipe_set (h j (List.mem_cons_self ..)), wipe_wipe fun i hi => h i (List.mem_cons_of_mem _ hi)]
def wipeR (ρ : Rho) : List Nat → Rho
  | [] => ρ
  | v :: vs => (wipeR ρ vs).set v none
theorem wipeR_len (ρ : Rho) : ∀ vs : List Nat, (wipeR ρ vs).length = ρ.length
  | [] => rfl
  | v :: vs => by simp [wipeR, wipeR_len ρ vs]
theorem wipeR_some {ρ : Rho} {i : Nat} {x : D} : ∀ {vs : List Nat}, (wipeR ρ vs)[i]? = some (some x) → ρ[i]? = some (some x) ∧ i ∉ vs
  | [], h => ⟨h, by simp⟩
  | v :: vs, h => by
    by_cases e : i = v
    · subst e
      simp only [wipeR] at h
      rw [List.getElem?_set_self'] at h
      cases h' : (wipeR ρ vs)[i]? with
      | none => rw [h'] at h; simp at h
      | some o => rw [h'] at h; simp at h
    · simp only [wipeR] at h
      rw [List.getElem?_set_ne (Ne.symm e)] at h
      obtain ⟨h1, h2⟩ := wipeR_some h
      exact ⟨h1, by simp [e, h2]⟩
section
variable {c : Ctx} {W : Wd} {E : XK} {Γ : Gam} {e a b o : Expr} {f fa fb fo : Rho → M D} {pos : Pos} {Hf H : Hp}
theorem EnvAt.wipe' {B : Hp × Hp} {ρ : Rho} {s : Pot} {σ : L2.St} (V : EnvAt W B Γ ρ s σ Hf H) (vs : List Nat) : EnvAt W B Γ (wipeR ρ vs) s (wipe σ vs) Hf H := by
  obtain ⟨ow, h1, h2⟩ := V.own
  refine ⟨V.ext, by rw [wipeR_len, wipe_length, V.len], ow, fun i d e => ?_, h2⟩
  obtain ⟨e1, e2⟩ := wipeR_some e
  obtain ⟨v, e3, z⟩ := h1 i d e1
  exact ⟨v, by rw [wipe_out e2]; exact e3, z⟩
theorem EnvAt.setSh' {B : Hp × Hp} {ρ : Rho} {s : Pot} {σ : L2.St} {v : V} {d : D} {i : Nat} (V : EnvAt W B Γ ρ s σ Hf H) (hv : At W Hf v d) (hi : Γ.getD i .sh = .sh) : EnvAt W B Γ (ρ.set i (some d)) s (σ.set i (some v)) Hf H := by
  obtain ⟨ow, h1, h2⟩ := V.own
  refine ⟨V.ext, by simp [V.len], ow, fun j d' e => ?_, h2⟩
  by_cases hj : j = i
  · subst hj
    have hl : j < ρ.length := by
      have := List.getElem?_eq_some_iff.mp e
      simpa using this.1
    rw [List.getElem?_set_self hl] at e
    cases e
    refine ⟨v, by rw [List.getElem?_set_self (by rw [V.len]; exact hl)], ?_⟩
    rw [hi]
    exact hv
  · rw [List.getElem?_set_ne (Ne.symm hj)] at e
    obtain ⟨v', e1, z⟩ := h1 j d' e
    exact ⟨v', by rw [List.getElem?_set_ne (Ne.symm hj)]; exact e1, z⟩
def JG (c : Ctx) (Γ : Gam) (is : List Nat) (tg : Expr) (f : D → Rho → Option Rho) : Prop := ∃ g, (∀ X, Is c X → PG X tg g) ∧
  ∀ B ρ s σ Hf H x d ρ' Q, EnvAt c.W B Γ ρ s σ Hf H → At c.W Hf x d → f d ρ = some ρ' → (∀ σ', EnvAt c.W B Γ ρ' s σ' Hf H → (∀ vs, (∀ i ∈ is, i ∈ vs) → wipe σ' vs = wipe σ vs) → Q σ' H) → g x σ H Q
def tgN (i : Nat) (d : D) (ρ : Rho) : Option Rho := some (ρ.set i (some d))
theorem jg_name (i : Nat) {x : Str} {p : Pos} (hN : c.N[i]? = some x) (hx : Loc c.sc x) (hΓ : Γ.getD i .sh = .sh) (hf : c.fnf x = true ∨ c.sc.names.lookup x = some .local := by first | exact .inl rfl | exact .inr rfl) : JG c Γ [i] (.Name x p) (tgN i) := by
  refine ⟨gName i, fun X h => pg_name h.nd (by rw [h.N]; exact hN) (by rw [h.sc]; exact hx) (by rw [h.fn, h.sc]; exact hf), fun B ρ s σ Hf H y d ρ' Q V hv e k => ?_⟩
  cases e
  exact k _ (V.setSh' hv hΓ) fun vs hi => wipe_set (hi i (by simp))
def JGs (c : Ctx) (Γ : Gam) (is : List Nat) (ts : List Expr) (f : List D → Rho → Option Rho) : Prop := ∃ g, (∀ X, Is c X → PGs X ts g) ∧
  ∀ B ρ s σ Hf H xs ds ρ' Q, EnvAt c.W B Γ ρ s σ Hf H → AtAll c.W Hf xs ds → f ds ρ = some ρ' → (∀ σ', EnvAt c.W B Γ ρ' s σ' Hf H → (∀ vs, (∀ i ∈ is, i ∈ vs) → wipe σ' vs = wipe σ vs) → Q σ' H) → g xs σ H Q
def tgNil (ds : List D) (ρ : Rho) : Option Rho := match ds with
  | [] => some ρ
  | _ => none
def tgCons (f : D → Rho → Option Rho) (g : List D → Rho → Option Rho) (ds : List D) (ρ : Rho) : Option Rho := match ds with
  | d :: r => (f d ρ).bind (g r)
  | [] => none
theorem jgs_nil : JGs c Γ [] [] tgNil := by
  refine ⟨gNil, fun X h => pgs_nil, fun B ρ s σ Hf H xs ds ρ' Q V hv e k => ?_⟩
  cases hv with
  | nil => cases e; exact ⟨rfl, k _ V fun _ _ => rfl⟩
  | cons _ _ => cases e
theorem jgs_cons {is js : List Nat} {t : Expr} {ts : List Expr} {ft : D → Rho → Option Rho} {fs : List D → Rho → Option Rho} (h : JG c Γ is t ft) (h' : JGs c Γ js ts fs) (hs : ∀ env, (assignEach (t :: ts) env).map (·.2) = assign t env :: (assignEach ts env).map (·.2) := by intro _; rfl) : JGs c Γ (is ++ js) (t :: ts) (tgCons ft fs) := by
  obtain ⟨g, h1, h2⟩ := h
  obtain ⟨g', h1', h2'⟩ := h'
  refine ⟨gCons g g', fun X hX => pgs_cons (h1 X hX) (h1' X hX) (hs _), fun B ρ s σ Hf H xs ds ρ' Q V hv e k => ?_⟩
  cases hv with
  | nil => cases e
  | cons hx hr =>
    rename_i v d vs ds
    refine ⟨_, _, rfl, ?_⟩
    unfold tgCons at e
    dsimp only at e
    cases hq : ft d ρ with
    | none => rw [hq] at e; cases e
    | some ρ1 =>
      rw [hq] at e
      refine h2 B ρ s σ Hf H v d ρ1 _ V hx hq fun σ1 V1 w1 => ?_
      refine h2' B ρ1 s σ1 Hf H vs ds ρ' _ V1 hr e fun σ2 V2 w2 => k σ2 V2 fun us hu => ?_
      rw [w2 us fun i hi => hu i (List.mem_append_right _ hi), w1 us fun i hi => hu i (List.mem_append_left _ hi)]
def tgT (n : Nat) (f : List D → Rho → Option Rho) (d : D) (ρ : Rho) : Option Rho := match d with
  | .tup ds => if ds.length = n then f ds ρ else none
  | _ => none
theorem jg_tup {is : List Nat} {ts : List Expr} {fs : List D → Rho → Option Rho} {n k : Nat} (h : JGs c Γ is ts fs) (hn : ∀ env, (assignEach ts env).length = n := by intro _; rfl) (hst : ∀ env, (assignEach ts env).findIdx? (·.1) = none := by intro _; rfl) : JG c Γ is (.Tuple ts k pos) (tgT n fs) := by
  obtain ⟨g, h1, h2⟩ := h
  refine ⟨gTup c.W.K n g, fun X hX => ?_, fun B ρ s σ Hf H x d ρ' Q V hv e k => ?_⟩
  · have q := pg_tup (k := k) (pos := pos) (n := n) hX.calm (h1 X hX) (hn _) (hst _)
    rw [hX.K] at q; exact q
  · unfold tgT at e
    split at e
    · split at e
      · rename_i ds hl
        cases hv with
        | tup a1 a2 a3 => have a1 := sq_of (K := c.W.K) a1; exact ⟨_, _, rfl, Same.sqT V.ext.fh a1, by rw [a3.len]; exact hl, h2 B ρ s σ Hf H _ ds ρ' Q V a3 e k⟩
      · cases e
    · cases e
def ItF (W : Wd) (J : It) (Hf : Hp) (ds : List D) : Prop := ∀ i Hf1 H1 s1, Same Hf Hf1 → Ext W Hf1 H1 Hf1 H1 s1 →
  (ds.length ≤ i → J.stop i H1) ∧ ∀ d, ds[i]? = some d → J.go i H1 ∧ ∀ x H2, J.yld i H1 x H2 → ∃ Hf2, Ext W Hf1 H1 Hf2 H2 s1 ∧ At W Hf2 x d
def ItE (W : Wd) (J : It) (Hf H : Hp) (ds : List D) : Prop := ∀ i Hf1 H1 s1, Ext W Hf H Hf1 H1 s1 →
  (ds.length ≤ i → J.stop i H1) ∧ ∀ d, ds[i]? = some d → J.go i H1 ∧ ∀ x H2, J.yld i H1 x H2 → ∃ Hf2, Ext W Hf1 H1 Hf2 H2 s1 ∧ At W Hf2 x d
theorem ItF.toE {J : It} {ds : List D} (h : ItF W J Hf ds) : ItE W J Hf H ds := fun i Hf1 H1 s1 x => h i Hf1 H1 s1 x.ff x.refl
def JI (c : Ctx) (Γ : Gam) (tg iter : Expr) (f : Rho → M (List D)) : Prop := ∃ wi, (∀ X, Is c X → PI X tg iter wi) ∧
  ∀ B ρ s σ Hf H R, EnvAt c.W B Γ ρ s σ Hf H → Post (fun ds s' => ∀ J Hf' H', Ext c.W Hf H Hf' H' s' → ds.length ≤ sizeLine → ItF c.W J Hf' ds → R J H') (ErrOk c.W B c.E) (f ρ s) → wi σ H R
def JIv (c : Ctx) (Γ : Gam) (tg iter : Expr) (f : Rho → M (List D)) : Prop := ∃ wi, (∀ X, Is c X → PI X tg iter wi) ∧
  ∀ B ρ s σ Hf H R, EnvAt c.W B Γ ρ s σ Hf H → Post (fun ds s' => ∀ J Hf' H', Ext c.W Hf H Hf' H' s' → ds.length ≤ sizeLine → ItE c.W J Hf' H' ds → R J H') (ErrOk c.W B c.E) (f ρ s) → wi σ H R
theorem JI.v {tg iter : Expr} {fi : Rho → M (List D)} (h : JI c Γ tg iter fi) : JIv c Γ tg iter fi := by
  obtain ⟨w, h1, h2⟩ := h
  exact ⟨w, h1, fun B ρ s σ Hf H R V p => h2 B ρ s σ Hf H R V (p.imp (fun ds s' k J Hf' H' x hz i => k J Hf' H' x hz (ItF.toE i)) fun _ _ _ z => z)⟩
def iSeq (K : PySem.W.Frag) (tl : TE) : TI := fun σ H R => tl σ H fun x H1 => ∃ a, x = .ref a ∧ (((∃ xs, SqL K H1 a xs) ∧ R (Itl K a) H1) ∨ ((∃ xs, SqT K H1 a xs) ∧ R (Itt K a) H1))
theorem pi_seq {X : Cx} {tg l : Expr} {tl : TE} (hl : PE X l tl) : PI X tg l (iSeq X.K tl) := by
  refine ⟨fun pins s σ H R I h => ?_⟩
  refine thn (hl.run pins s σ H _ I h) fun v s1 ⟨x, H1, I1, r1, q1⟩ => ?_
  obtain ⟨a, e, q⟩ := q1
  subst e
  cases r1
  rcases q with ⟨⟨xs, hq⟩, q⟩ | ⟨⟨xs, hq⟩, q⟩
  · obtain ⟨its, rv, p, hz⟩ := I1.list hq
    refine wpAny_pyIter_list p.isList ?_
    refine ⟨s1.heap.objs.size, [s1.heap.objs.size], _, _, H1, rfl, I1.kept (t' := s1.toks) fun b o e => Heap.get?_push_of_some _ e, turn_list a _, ⟨_, Heap.get?_push_size _ rfl, rfl, rfl⟩, fun b hb => ?_, q⟩
    have e : b = s1.heap.objs.size := by simpa using hb
    subst e
    exact I1.fpOk (Nat.le_refl _) (I1.hok.fresh (Nat.le_refl _))
  · obtain ⟨its, rv, p, hz⟩ := I1.tuple hq
    refine wpAny_pyIter_tuple (show s1.heap.IsTuple a its.toArray from p) ?_
    refine ⟨s1.heap.objs.size, [s1.heap.objs.size], _, _, H1, rfl, I1.kept (t' := s1.toks) fun b o e => Heap.get?_push_of_some _ e, turn_tuple a _, ⟨_, Heap.get?_push_size _ rfl, rfl, rfl⟩, fun b hb => ?_, q⟩
    have e : b = s1.heap.objs.size := by simpa using hb
    subst e
    exact I1.fpOk (Nat.le_refl _) (I1.hok.fresh (Nat.le_refl _))
def seqF (f : Rho → M D) : Rho → M (List D) := fun ρ => do opt (seqOf (← f ρ))
theorem itl_ok {a : Addr} {xs : List V} {ds : List D} (K : ∀ Hf1 H1 s1, Same Hf Hf1 → Ext W Hf1 H1 Hf1 H1 s1 → H1 a = some (.lst xs)) (ha : AtAll W Hf xs ds) : ItF W (Itl W.K a) Hf ds := by
  intro i Hf1 H1 s1 hs x
  have hq := SqL.of (K := W.K) (K Hf1 H1 s1 hs x)
  refine ⟨fun h => ⟨xs, hq, by rw [ha.len]; exact h⟩, fun d hd => ?_⟩
  obtain ⟨y, e1, a1⟩ := ha.get' hd
  refine ⟨⟨xs, y, hq, e1⟩, fun z H2 ⟨e2, h2⟩ => ?_⟩
  subst e2
  have e3 := h2 xs hq
  rw [e1] at e3
  cases e3
  exact ⟨Hf1, x, a1.mono hs⟩
theorem itt_ok {a : Addr} {xs : List V} {ds : List D} (hq : SqT W.K Hf a xs) (ha : AtAll W Hf xs ds) : ItF W (Itt W.K a) Hf ds := by
  intro i Hf1 H1 s1 hs x
  have hq := Same.sqT x.fh (Same.sqT hs hq)
  refine ⟨fun h => ⟨xs, hq, by rw [ha.len]; exact h⟩, fun d hd => ?_⟩
  obtain ⟨y, e1, a1⟩ := ha.get' hd
  refine ⟨⟨xs, y, hq, e1⟩, fun z H2 ⟨e2, h2⟩ => ?_⟩
  subst e2
  have e3 := h2 xs hq
  rw [e1] at e3
  cases e3
  exact ⟨Hf1, x, a1.mono hs⟩
theorem ji_seq {tg : Expr} (h : JE c Γ a f) : JI c Γ tg a (seqF f) := by
  obtain ⟨t, h1, h2⟩ := h
  refine ⟨iSeq c.W.K t, fun X hX => by have q := pi_seq (tg := tg) (h1 X hX); rw [hX.K] at q; exact q, fun B ρ s σ Hf H R V p => ?_⟩
  unfold seqF at p
  rw [post_bind] at p
  refine h2 B ρ s σ Hf H _ V (p.imp (fun d s1 p1 v Hf1 H1 x1 r1 => ?_) fun _ _ _ z => z)
  rw [post_opt] at p1
  obtain ⟨l, hl, k⟩ := p1
  cases r1 with
  | lst g1 g2 g3 =>
    cases hl
    exact ⟨_, rfl, .inl ⟨⟨_, SqL.of (x1.fh _ _ g1)⟩, k _ _ _ x1 (by rw [← g3.len]; exact g2) (itl_ok (fun Hf2 H2 s2 hs x => x.fh _ _ (hs _ _ g1)) g3)⟩⟩
  | tup g1 g2 g3 =>
    have g1 := sq_of (K := c.W.K) g1
    cases hl
    exact ⟨_, rfl, .inr ⟨⟨_, Same.sqT x1.fh g1⟩, k _ _ _ x1 (by rw [← g3.len]; exact g2) (itt_ok g1 g3)⟩⟩
  | _ => cases hl
def range1D (ds : List D) : Option (List D) := match ds with
  | [.int j] => if -(2 ^ 62) ≤ j ∧ j < 2 ^ 62 ∧ j.toNat ≤ sizeLine then some ((List.range j.toNat).map fun i => .int ((0 : Int) + (i : Nat))) else none
  | _ => none
def rngF (g : List D → Option (List D)) (fs : Rho → M (List D)) : Rho → M (List D) := fun ρ => do opt (g (← fs ρ))
theorem itr_ok (lo : Int) (n : Nat) : ItF W (Itr lo n) Hf ((List.range n).map fun i => .int (lo + (i : Nat))) := by
  intro i Hf1 H1 s1 hs x
  refine ⟨fun h => ?_, fun d hd => ?_⟩
  · have : n ≤ i := by simpa using h
    exact this
  · have hi : i < n := by
      have := (List.getElem?_eq_some_iff.mp hd).1
      simpa using this
    have e : d = .int (lo + (i : Nat)) := by
      rw [List.getElem?_map, List.getElem?_range hi] at hd
      simpa using hd.symm
    subst e
    refine ⟨hi, fun z H2 ⟨e1, e2⟩ => ?_⟩
    subst e1; subst e2
    exact ⟨Hf1, x, .int _⟩
theorem ji_range1 {tg : Expr} {fs : Rho → M (List D)} {p : Pos} (ha : JAv c Γ [a] fs) (hg : c.sc.names.lookup ("range" : Str) = some .globalImplicit) (hm : c.G.mg "range" = none) (hs : ∀ env, starEach [a] env = [(false, eval a env)] := by intro _; rfl) : JI c Γ tg (.Call (.Name "range" p) [a] [] pos) (rngF range1D fs) := by
  obtain ⟨t, h1, h2⟩ := ha
  refine ⟨iRng1 t, fun X hX => pi_range1 (hX.gl hg) (by rw [hX.mg]; exact hm) (h1 X hX) (hs _), fun B ρ s σ Hf H R V p => ?_⟩
  unfold rngF at p
  rw [post_bind] at p
  refine h2 B ρ s σ Hf H _ V (p.imp (fun d s1 p1 v Hf1 H1 x1 r1 => ?_) fun _ _ _ z => z)
  rw [post_opt] at p1
  obtain ⟨l, hl, k⟩ := p1
  unfold range1D at hl
  split at hl
  · split at hl
    · rename_i j hz
      cases hl
      obtain ⟨x, rfl, hx⟩ := r1.one
      have e := hx.int'
      subst e
      exact ⟨j, rfl, hz.1, hz.2.1, k _ _ _ x1 (by simpa using hz.2.2) (itr_ok 0 _)⟩
    · cases hl
  · cases hl
def noE {α : Type} (m : M α) : M α := fun s => match m s with
  | .ok a s' => .ok a s'
  | _ => .fail
theorem post_noE {α : Type} {A : α → Pot → Prop} {B : Nat → D → Pot → Prop} {m : M α} {s : Pot} : Post A B (noE m s) ↔ Post A (fun _ _ _ => False) (m s) := by
  unfold noE
  cases m s <;> exact Iff.rfl
theorem noE_ok {α : Type} {m : M α} {s s' : Pot} {x : α} (h : m s = .ok x s') : noE m s = .ok x s' := by
  unfold noE; rw [h]
def relabelS (scope sc : Scope) : Scope := { scope with names := scope.names.map fun (n, k) => if (k == NameKind.free && sc.kind == .function && sc.names.lookup n == some .cell) then (n, NameKind.cell) else (n, k) }
def Ctx.blk (c : Ctx) (scope : Scope) : Ctx := { c with sc := relabelS scope c.sc, E := fun _ _ _ => False, fnf := fun x => scope.names.lookup x == some .cell, me := none }
theorem Is.blk {X : Cx} (h : Is c X) {scope : Scope} (hk : scope.kind = .function) (s : Shared) (H : Hp) (C : Addr) (cl : List (Str × Addr)) (fp : List Addr) : Is (c.blk scope) (X.blk s H scope (compEnvC scope cl C X.env) fp) where
  prog := h.prog
  w := h.w
  K := h.K
  mg := h.mg
  base := h.base
  N := h.N
  sc := by
    show relabelS scope X.env.scope = relabelS scope c.sc
    rw [h.sc]
  room := h.room
  calm := h.calm
  nd := h.nd
  fn := rfl
  pass := fun pins σ H s e s' _ z => by
    obtain ⟨_, _, _, _, _, _, _, _, _, _, _, _, z⟩ := z
    exact z
  take := fun u s' z => by
    obtain ⟨_, _, _, _, _, _, _, _, _, _, _, _, _, _, _, _, z⟩ := z
    exact z.elim
  own := PassesOwn.never
  kind := hk
  gd := h.gd
  me := fun _ _ _ z => by cases z
def JTs (c : Ctx) (Γ : Gam) (ifs : List Expr) (f : Rho → M Bool) : Prop := ∃ t, (∀ X, Is c X → PTs X ifs t) ∧ RT c.W c.E Γ t f
theorem jts_nil : JTs c Γ [] (fun _ => pure true) := ⟨tYes, fun X h => pts_nil, fun B ρ s σ Hf H Q V p => p _ _ V.ext0⟩
def compL (tg : D → Rho → Option Rho) (tt : Rho → M Bool) (te : Rho → M D) (ρ : Rho) : List D → M (List D)
  | [] => pure []
  | d :: r => do
    let ρ' ← opt (tg d ρ)
    let b ← tt ρ'
    if b = true then do
      let y ← te ρ'
      let ys ← compL tg tt te ρ r
      pure (y :: ys)
    else compL tg tt te ρ r
def lcF (vs : List Nat) (fi : Rho → M (List D)) (tg : D → Rho → Option Rho) (tt : Rho → M Bool) (te : Rho → M D) : Rho → M D := fun ρ => do
  let ds ← fi ρ
  let ys ← noE (compL tg tt te (wipeR ρ vs) ds)
  pure (.lst ys)
theorem lc_parts {Γ : Gam} {is : List Nat} {tg iter elt : Expr} {ifs : List Expr} {scope : Scope} {own : List (Str × Nat)} {fi : Rho → M (List D)} {ft : D → Rho → Option Rho} {ftt : Rho → M Bool} {fe : Rho → M D}
    (hi : JIv c Γ tg iter fi) (hg : JG (c.blk scope) Γ is tg ft) (ht : JTs (c.blk scope) Γ ifs ftt) (he : JE (c.blk scope) Γ elt fe) (his : ∀ i ∈ is, i ∈ own.map (·.2)) :
    ∃ wi g tt te, (∀ X, Is c X → PI X tg iter wi) ∧ (∀ X, Is (c.blk scope) X → PG X tg g) ∧ (∀ X, Is (c.blk scope) X → PTs X ifs tt) ∧ (∀ X, Is (c.blk scope) X → PE X elt te) ∧ RX c.W c.E Γ (rF c.W) (tLc wi g tt te (own.map (·.2))) (lcF (own.map (·.2)) fi ft ftt fe) := by
  obtain ⟨wi, i1, i2⟩ := hi
  obtain ⟨g, g1, g2⟩ := hg
  obtain ⟨tt, t1, t2⟩ := ht
  obtain ⟨te, e1, e2⟩ := he
  refine ⟨wi, g, tt, te, i1, g1, t1, e1, ?_⟩
  intro B ρ s σ Hf H Q V p
  unfold lcF at p
  rw [post_bind] at p
  refine i2 B ρ s σ Hf H _ V (p.imp (fun ds s1 p1 J Hf1 H1 x1 hz it => ?_) fun _ _ _ z => z)
  rw [post_bind, post_noE] at p1
  have V1 := (V.ext' x1).wipe' (own.map (·.2))
  intro D0 hD0
  obtain ⟨y0, nf0, nP0⟩ := x1.newU (o := .lst []) hD0
  -- the invariant
  refine ⟨fun i m H2 => ∃ Hf2 s2 acc das, i ≤ ds.length ∧ m = ds.length - i ∧ Ext c.W Hf1 H1 Hf2 H2 s2 ∧ H2 D0 = some (.lst acc) ∧ Hf2 D0 = none ∧ acc.length ≤ i ∧ AtAll c.W Hf2 acc das ∧
    Post (fun ys s' => ∀ v Hf' H', Ext c.W Hf H Hf' H' s' → rF c.W H Hf' H' v (.lst (das ++ ys)) → Q v H') (fun _ _ _ => False) (compL ft ftt fe (wipeR ρ (own.map (·.2))) (ds.drop i) s2), ?_, ?_⟩
  · refine ⟨ds.length - 0, Hf1, s1, [], [], Nat.zero_le _, rfl, y0, upd_same, nf0, Nat.le_refl _, .nil, ?_⟩
    refine p1.imp (fun ys s' k v Hf' H' x r => ?_) fun _ _ _ z => z
    exact k v Hf' H' x r
  · intro i m H2 ⟨Hf2, s2, acc, das, hi, hm, x2, hD, hDf, hl, ha, p2⟩
    have hit := it i Hf2 H2 s2 x2
    by_cases hlt : i < ds.length
    · right
      have hd : ds[i]? = some ds[i] := List.getElem?_eq_getElem hlt
      obtain ⟨go, yl⟩ := hit.2 _ hd
      refine ⟨go, fun H3 => ∃ Hf3 s3 acc3 das3, Ext c.W Hf1 H1 Hf3 H3 s3 ∧ H3 D0 = some (.lst acc3) ∧ Hf3 D0 = none ∧ acc3.length ≤ i + 1 ∧ AtAll c.W Hf3 acc3 das3 ∧
        Post (fun ys s' => ∀ v Hf' H', Ext c.W Hf H Hf' H' s' → rF c.W H Hf' H' v (.lst (das3 ++ ys)) → Q v H') (fun _ _ _ => False) (compL ft ftt fe (wipeR ρ (own.map (·.2))) (ds.drop (i + 1)) s3),
        fun H3 ⟨Hf3, s3, acc3, das3, q1, q2, q3, q4, q5, q6⟩ => ⟨ds.length - (i + 1), by omega, Hf3, s3, acc3, das3, hlt, rfl, q1, q2, q3, q4, q5, q6⟩, fun x H3 hy => ?_⟩
      obtain ⟨Hf3, x3, ax⟩ := yl x H3 hy
      have x13 := x2.trans x3
      have V3 : EnvAt (c.blk scope).W B Γ (wipeR ρ (own.map (·.2))) s2 (wipe σ (own.map (·.2))) Hf3 H3 := V1.ext' x13
      rw [List.drop_eq_getElem_cons hlt] at p2
      unfold compL at p2
      rw [post_bind, post_opt] at p2
      obtain ⟨ρ', eρ, p2⟩ := p2
      refine g2 B (wipeR ρ (own.map (·.2))) s2 (wipe σ (own.map (·.2))) Hf3 H3 x _ ρ' _ V3 ax eρ fun σ' V4 w4 => ?_
      refine ⟨?_, ?_⟩
      · rw [w4 _ his, wipe_wipe fun _ h => h]
      · rw [post_bind] at p2
        refine t2 B ρ' s2 σ' Hf3 H3 _ V4 (p2.imp (fun b s3 p3 Hf4 H4 x4 => ?_) fun _ _ _ z => z.elim)
        have nP : D0 ≠ c.W.P := nP0
        have hD3 : H3 D0 = some (.lst acc) := x3.old _ _ nP hD
        have hDf3 : Hf3 D0 = none := x3.unf _ _ hD hDf
        have hD4 : H4 D0 = some (.lst acc) := x4.old _ _ nP hD3
        have hDf4 : Hf4 D0 = none := x4.unf _ _ hD3 hDf3
        have x14 : Ext c.W Hf1 H1 Hf4 H4 s3 := x13.trans x4
        cases b with
        | false =>
          simp only [Bool.false_eq_true, if_false] at p3 ⊢
          exact ⟨Hf4, s3, acc, das, x14, hD4, hDf4, by omega, ha.mono (x3.ff.trans x4.ff), p3⟩
        | true =>
          simp only [if_true] at p3 ⊢
          rw [post_bind] at p3
          refine e2 B ρ' s3 σ' Hf4 H4 _ (V4.ext' x4) (p3.imp (fun y s4 p4 v5 Hf5 H5 x5 r5 => ?_) fun _ _ _ z => z.elim)
          have hD5 : H5 D0 = some (.lst acc) := x5.old _ _ nP hD4
          have hDf5 : Hf5 D0 = none := x5.unf _ _ hD4 hDf4
          refine ⟨acc, hD5, by omega, Hf5, s4, acc ++ [v5], das ++ [y], (x14.trans x5).write hDf5 nP hD0 hD5 (noT_lst _), upd_same, hDf5, by simp; omega, (ha.mono (x3.ff.trans (x4.ff.trans x5.ff))).append (.cons r5 .nil), ?_⟩
          rw [post_bind] at p4
          refine p4.imp (fun ys s' k v Hf' H' x r => ?_) fun _ _ _ z => z
          have k := k v Hf' H' x
          rw [List.append_assoc] at r
          exact k r
    · left
      have e : i = ds.length := by omega
      subst e
      refine ⟨hit.1 (Nat.le_refl _), ?_⟩
      rw [List.drop_length] at p2
      have k := p2 (.ref D0) Hf2 H2 (x1.trans x2)
      rw [List.append_nil] at k
      exact k ⟨D0, acc, das, rfl, rfl, Rs_old x1 hD0 nP0, hDf, nP0, hD, by omega, ha⟩
theorem jf_lc {Γ : Gam} {is : List Nat} {tg iter elt : Expr} {ifs : List Expr} {scope : Scope} {own : List (Str × Nat)} {fi : Rho → M (List D)} {ft : D → Rho → Option Rho} {ftt : Rho → M Bool} {fe : Rho → M D}
    (hi : JIv c Γ tg iter fi) (ok : BlkOk c.N c.sc scope own) (hg : JG (c.blk scope) Γ is tg ft) (ht : JTs (c.blk scope) Γ ifs ftt) (he : JE (c.blk scope) Γ elt fe)
    (his : ∀ i ∈ is, i ∈ own.map (·.2) := by decide) (hs : ∀ env x, foldedSetIterable iter env x = pure x := by intro _ _; rfl) : JF c Γ (.ListComp elt [⟨tg, iter, ifs, 0⟩] scope pos) (lcF (own.map (·.2)) fi ft ftt fe) := by
  obtain ⟨wi, g, tt, te, i1, g1, t1, e1, r⟩ := lc_parts hi hg ht he his
  exact ⟨tLc wi g tt te (own.map (·.2)), fun X hX => pe_lc hX.calm hX.nd (i1 X hX) (by rw [hX.N, hX.sc]; exact ok) (fun s H C cl fp => g1 _ (hX.blk ok.kind s H C cl fp)) (fun s H C cl fp => t1 _ (hX.blk ok.kind s H C cl fp)) (fun s H C cl fp => e1 _ (hX.blk ok.kind s H C cl fp)) (hs _), r⟩
end
end VL
namespace VL
open PySem PySem.Spec PyProof.Rows L2
inductive Fl where
  | nx (ρ : Rho) | rt (d : D) | bk (ρ : Rho) | ct (ρ : Rho)
def FlOk (W : Wd) (B : Hp × Hp) (Γ' Γl : Gam) (D : Ends) : Fl → Pot → Prop
  | .nx ρ', s' => ∀ σ' Hf' H', EnvAt W B Γ' ρ' s' σ' Hf' H' → D.nx σ' H'
  | .rt d, s' => ∀ v Hf' H', Ext W B.1 B.2 Hf' H' s' → At W Hf' v d → D.rt v H'
  | .bk ρ', s' => ∀ σ' Hf' H', EnvAt W B Γl ρ' s' σ' Hf' H' → D.bk σ' H'
  | .ct ρ', s' => ∀ σ' Hf' H', EnvAt W B Γl ρ' s' σ' Hf' H' → D.ct σ' H'
def RS (W : Wd) (E : XK) (Γ Γ' Γl : Gam) (t : TS) (f : Rho → M Fl) : Prop :=
  ∀ B ρ s σ Hf H D, EnvAt W B Γ ρ s σ Hf H → Post (FlOk W B Γ' Γl D) (ErrOk W B E) (f ρ s) → t D σ H
def JS (c : Ctx) (Γ Γ' Γl : Gam) (st : Stmt) (f : Rho → M Fl) : Prop := ∃ t, (∀ X, Is c X → PS X st t) ∧ RS c.W c.E Γ Γ' Γl t f
def JSs (c : Ctx) (Γ Γ' Γl : Gam) (st : List Stmt) (f : Rho → M Fl) : Prop := ∃ t, (∀ X, Is c X → PSs X st t) ∧ RS c.W c.E Γ Γ' Γl t f
section
variable {c : Ctx} {W : Wd} {E : XK} {Γ Γ' Γ'' Γl : Gam} {e a b o : Expr} {f fa fb fo : Rho → M D} {pos : Pos} {Hf H : Hp} {st : Stmt} {sts rest : List Stmt}
def skip : Rho → M Fl := fun ρ => pure (.nx ρ)
theorem jss_nil : JSs c Γ Γ Γl [] skip := ⟨tNext, fun X h => pss_nil, fun B ρ s σ Hf H D V p => p _ _ _ V⟩
def seqS (f g : Rho → M Fl) : Rho → M Fl := fun ρ => do
  let r ← f ρ
  match r with
  | .nx ρ' => g ρ'
  | .rt d => pure (.rt d)
  | .bk ρ' => pure (.bk ρ')
  | .ct ρ' => pure (.ct ρ')
theorem rs_seq {t u : TS} {f g : Rho → M Fl} (h1 : RS W E Γ Γ' Γl t f) (h2 : RS W E Γ' Γ'' Γl u g) : RS W E Γ Γ'' Γl (tSeq t u) (seqS f g) := by
  intro B ρ s σ Hf H D V p
  unfold seqS at p
  rw [post_bind] at p
  refine h1 B ρ s σ Hf H _ V (p.imp (fun r s1 p1 => ?_) fun _ _ _ z => z)
  cases r with
  | nx ρ' => exact fun σ' Hf' H' V' => h2 B ρ' s1 σ' Hf' H' D V' p1
  | rt d => exact p1
  | bk ρ' => exact p1
  | ct ρ' => exact p1
theorem jss_cons {f g : Rho → M Fl} (h1 : JS c Γ Γ' Γl st f) (h2 : JSs c Γ' Γ'' Γl sts g) : JSs c Γ Γ'' Γl (st :: sts) (seqS f g) := by
  obtain ⟨t, a1, a2⟩ := h1
  obtain ⟨u, b1, b2⟩ := h2
  exact ⟨tSeq t u, fun X h => pss_cons (a1 X h) (b1 X h), rs_seq a2 b2⟩
theorem jss_one {f : Rho → M Fl} (h1 : JS c Γ Γ' Γl st f) : JSs c Γ Γ' Γl [st] f := by
  obtain ⟨t, a1, a2⟩ := h1
  exact ⟨t, fun X h => pss_one (a1 X h), a2⟩
def retS (f : Rho → M D) : Rho → M Fl := fun ρ => do
  let d ← f ρ
  pure (.rt d)
theorem js_ret (he : JE c Γ e f) : JS c Γ Γ' Γl (.Return (some e) pos) (retS f) := by
  obtain ⟨t, h1, h2⟩ := he
  refine ⟨tRet t, fun X h => ps_ret (h1 X h), fun B ρ s σ Hf H D V p => ?_⟩
  unfold retS at p
  rw [post_bind] at p
  exact h2 B ρ s σ Hf H _ V (p.imp (fun d s1 p1 v Hf1 H1 x1 r1 => p1 v _ _ (V.ext.trans x1) r1) fun _ _ _ z => z)
def ifS (g : Rho → M Bool) (f h : Rho → M Fl) : Rho → M Fl := fun ρ => do
  let b ← g ρ
  if b = true then f ρ else h ρ
theorem js_if {x : Expr} {g : Rho → M Bool} {f h : Rho → M Fl} {p q : List Stmt} (hg : JT c Γ x g) (hp : JSs c Γ Γ' Γl p f) (hq : JSs c Γ Γ' Γl q h) : JS c Γ Γ' Γl (.If x p q pos) (ifS g f h) := by
  obtain ⟨t, h1, h2⟩ := hg
  obtain ⟨ta, a1, a2⟩ := hp
  obtain ⟨tb, b1, b2⟩ := hq
  refine ⟨tIfS t ta tb, fun X hX => ps_if (h1 X hX) (a1 X hX) (b1 X hX), fun B ρ s σ Hf H D V p => ?_⟩
  unfold ifS at p
  rw [post_bind] at p
  refine h2 B ρ s σ Hf H _ V (p.imp (fun d s1 p1 Hf1 H1 x1 => ?_) fun _ _ _ z => z)
  cases d with
  | true => exact a2 B ρ s1 σ Hf1 H1 D (V.ext' x1) p1
  | false => exact b2 B ρ s1 σ Hf1 H1 D (V.ext' x1) p1
def OwnL (W : Wd) (Hf H : Hp) : Own → V → D → List Addr → Prop
  | .sh, v, d, l => l = [] ∧ At W Hf v d
  | .ol, v, d, l => ∃ p xs ds, v = .ref p ∧ d = .lst ds ∧ l = [p] ∧ H p = some (.lst xs) ∧ xs.length ≤ sizeLine ∧ AtAll W Hf xs ds
  | .od, v, d, l => ∃ p ks ds, v = .ref p ∧ d = .dct ds ∧ l = [p] ∧ H p = some (.dK ks) ∧ ks.length ≤ sizeLine ∧ AtKv W Hf ks ds
  | .odl, v, d, l => ∃ (p : Addr) (qs : List (Key × Addr)) (ds : List (Key × List D)), v = .ref p ∧ d = .dct (ds.map fun z => (z.1, .lst z.2)) ∧ l = p :: qs.map (·.2) ∧ H p = some (.dK (qs.map fun z => (z.1, .ref z.2))) ∧ qs.length ≤ sizeLine ∧
      (p :: qs.map (·.2)).Nodup ∧ Paired (fun (q : Key × Addr) (z : Key × List D) => q.1 = z.1 ∧ ∃ xs, H q.2 = some (.lst xs) ∧ xs.length ≤ sizeLine ∧ AtAll W Hf xs z.2) qs ds
  | .lk, v, d, l => l = [] ∧ ∃ (p : Addr) (od : Obj) (ks : List (Key × V)) (ds : List (Key × D)), v = .ref p ∧ d = .dct ds ∧ Hf p = some (.frz od (.dK ks)) ∧ ks.length ≤ sizeLine ∧ AtKv W Hf ks ds
  | .ot, v, d, l => ∃ p ks ds, v = .ref p ∧ d = .dtt ds ∧ l = [p] ∧ H p = some (.dT ks) ∧ ks.length ≤ sizeLine ∧ AtKt W Hf ks ds
  | .lt, v, d, l => l = [] ∧ ∃ (p : Addr) (od : Obj) (ks : List (List Key × V)) (ds : List (List Key × D)), v = .ref p ∧ d = .dtt ds ∧ Hf p = some (.frz od (.dT ks)) ∧ ks.length ≤ sizeLine ∧ AtKt W Hf ks ds
  | .oll, v, d, l => ∃ (p : Addr) (qs : List Addr) (ds : List (List D)), v = .ref p ∧ d = .lst (ds.map .lst) ∧ l = p :: qs ∧ H p = some (.lst (qs.map .ref)) ∧ qs.length ≤ sizeLine ∧
      (p :: qs).Nodup ∧ Paired (fun (q : Addr) (z : List D) => ∃ xs, H q = some (.lst xs) ∧ xs.length ≤ sizeLine ∧ AtAll W Hf xs z) qs ds
theorem Paired.both {α β : Type} {F G : α → β → Prop} : ∀ {l₁ : List α} {l₂ : List β}, Paired F l₁ l₂ → (∀ a b, a ∈ l₁ → F a b → G a b) → Paired G l₁ l₂
  | _, _, .nil, _ => .nil
  | _, _, .cons h r, k => .cons (k _ _ (List.mem_cons_self ..) h) (Paired.both r fun a b m z => k a b (List.mem_cons_of_mem _ m) z)
theorem OwnL.at {k : Own} {v : V} {d : D} {l : List Addr} {ow : Addr → Option Nat} {i : Nat} (h : OwnL W Hf H k v d l) (ho : ∀ q ∈ l, ow q = some i) : OwnAt W Hf H ow i k v d := by
  cases k with
  | sh => exact h.2
  | ol =>
    obtain ⟨p, xs, ds, e1, e2, e3, r⟩ := h
    subst e3
    exact ⟨p, xs, ds, e1, e2, ho p (by simp), r⟩
  | od =>
    obtain ⟨p, xs, ds, e1, e2, e3, r⟩ := h
    subst e3
    exact ⟨p, xs, ds, e1, e2, ho p (by simp), r⟩
  | odl =>
    obtain ⟨p, qs, ds, e1, e2, e3, r1, r2, r3, r4⟩ := h
    subst e3
    exact ⟨p, qs, ds, e1, e2, ho p (by simp), r1, r2, r3, Paired.both r4 fun a b m z => ⟨z.1, ho _ (List.mem_cons_of_mem _ (List.mem_map.mpr ⟨a, m, rfl⟩)), z.2⟩⟩
  | lk => exact h.2
  | ot =>
    obtain ⟨p, xs, ds, e1, e2, e3, r⟩ := h
    subst e3
    exact ⟨p, xs, ds, e1, e2, ho p (by simp), r⟩
  | lt => exact h.2
  | oll =>
    obtain ⟨p, qs, ds, e1, e2, e3, r1, r2, r3, r4⟩ := h
    subst e3
    exact ⟨p, qs, ds, e1, e2, ho p (by simp), r1, r2, r3, Paired.both r4 fun a b m z => ⟨ho _ (List.mem_cons_of_mem _ m), z⟩⟩
theorem OwnAt.other {k : Own} {v : V} {d : D} {ow ow' : Addr → Option Nat} {i : Nat} (h : OwnAt W Hf H ow i k v d) (ho : ∀ q, ow q = some i → ow' q = some i) : OwnAt W Hf H ow' i k v d := by
  cases k with
  | sh => exact h
  | ol => obtain ⟨p, xs, ds, e1, e2, e3, r⟩ := h; exact ⟨p, xs, ds, e1, e2, ho _ e3, r⟩
  | od => obtain ⟨p, xs, ds, e1, e2, e3, r⟩ := h; exact ⟨p, xs, ds, e1, e2, ho _ e3, r⟩
  | odl =>
    obtain ⟨p, qs, ds, e1, e2, e3, r1, r2, r3, r4⟩ := h
    exact ⟨p, qs, ds, e1, e2, ho _ e3, r1, r2, r3, Paired.mapP r4 fun a b z => ⟨z.1, ho _ z.2.1, z.2.2⟩⟩
  | lk => exact h
  | ot => obtain ⟨p, xs, ds, e1, e2, e3, r⟩ := h; exact ⟨p, xs, ds, e1, e2, ho _ e3, r⟩
  | lt => exact h
  | oll =>
    obtain ⟨p, qs, ds, e1, e2, e3, r1, r2, r3, r4⟩ := h
    exact ⟨p, qs, ds, e1, e2, ho _ e3, r1, r2, r3, Paired.mapP r4 fun a b z => ⟨ho _ z.1, z.2⟩⟩
theorem set_get {α : Type} {l : List α} {i j : Nat} {x y : α} (h : (l.set i x)[j]? = some y) : (j = i ∧ y = x ∧ i < l.length) ∨ (j ≠ i ∧ l[j]? = some y) := by
  by_cases e : j = i
  · subst e
    have hl : j < l.length := by simpa using (List.getElem?_eq_some_iff.mp h).1
    rw [List.getElem?_set_self hl] at h
    cases h
    exact .inl ⟨rfl, rfl, hl⟩
  · rw [List.getElem?_set_ne (Ne.symm e)] at h
    exact .inr ⟨e, h⟩
theorem getD_set_self {Γ : Gam} {i : Nat} {k : Own} (h : i < Γ.length) : (Γ.set i k).getD i .sh = k := by
  rw [List.getD_eq_getElem?_getD, List.getElem?_set_self h]; rfl
theorem getD_set_ne {Γ : Gam} {i j : Nat} {k : Own} (h : j ≠ i) : (Γ.set i k).getD j .sh = Γ.getD j .sh := by
  rw [List.getD_eq_getElem?_getD, List.getElem?_set_ne (Ne.symm h), ← List.getD_eq_getElem?_getD]
theorem EnvAt.store {B : Hp × Hp} {ρ : Rho} {s : Pot} {σ : L2.St} {k : Own} {v : V} {d : D} {l : List Addr} {i : Nat} {ow : Addr → Option Nat} (x : Ext W B.1 B.2 Hf H s) (len : σ.length = ρ.length)
    (h1 : ∀ i d, ρ[i]? = some (some d) → ∃ v, σ[i]? = some (some v) ∧ OwnAt W Hf H ow i (Γ.getD i .sh) v d) (h2 : ∀ q i, ow q = some i → Hf q = none ∧ q ≠ W.P ∧ B.2 q = none ∧ ∃ o, H q = some o)
    (hl : OwnL W Hf H k v d l) (hn : ∀ q ∈ l, ow q = none ∧ Hf q = none ∧ q ≠ W.P ∧ B.2 q = none ∧ ∃ o, H q = some o) (hi : i < Γ.length) :
    (∀ j d', (ρ.set i (some d))[j]? = some (some d') → ∃ v', (σ.set i (some v))[j]? = some (some v') ∧ OwnAt W Hf H (fun q => if q ∈ l then some i else ow q) j ((Γ.set i k).getD j .sh) v' d') ∧
      ∀ q j, (fun q => if q ∈ l then some i else ow q) q = some j → Hf q = none ∧ q ≠ W.P ∧ B.2 q = none ∧ ∃ o, H q = some o := by
  refine ⟨fun j d' e => ?_, fun q j e => ?_⟩
  · rcases set_get e with ⟨rfl, e1, hl'⟩ | ⟨hj, e1⟩
    · cases e1
      refine ⟨v, by rw [List.getElem?_set_self (by omega)], ?_⟩
      rw [getD_set_self hi]
      exact hl.at fun q hq => by simp [hq]
    · obtain ⟨v', e2, z⟩ := h1 j d' e1
      refine ⟨v', by rw [List.getElem?_set_ne (Ne.symm hj)]; exact e2, ?_⟩
      rw [getD_set_ne hj]
      refine z.other fun q hq => ?_
      have : q ∉ l := fun m => by have := (hn q m).1; rw [this] at hq; cases hq
      simp [this, hq]
  · by_cases hq : q ∈ l
    · exact (hn q hq).2
    · have e : ow q = some j := by simpa [hq] using e
      exact h2 q j e
def Fits (W : Wd) (Rs : Res) (k : Own) : Prop := ∀ H0 Hf' H' v d, Rs H0 Hf' H' v d → ∃ l, OwnL W Hf' H' k v d l ∧ ∀ q ∈ l, H0 q = none ∧ Hf' q = none ∧ q ≠ W.P ∧ ∃ o, H' q = some o
theorem fits_sh : Fits W (rAt W) .sh := fun H0 Hf' H' v d r => ⟨[], ⟨rfl, r⟩, fun _ h => by simp at h⟩
theorem fits_ol : Fits W (rF W) .ol := fun H0 Hf' H' v d ⟨p, xs, ds, e1, e2, n0, nf, nP, h1, h2, h3⟩ => ⟨[p], ⟨p, xs, ds, e1, e2, rfl, h1, h2, h3⟩, fun q hq => by
  have e : q = p := by simpa using hq
  subst e
  exact ⟨n0, nf, nP, _, h1⟩⟩
theorem Paired.left {α β : Type} {F : α → β → Prop} : ∀ {l₁ : List α} {l₂ : List β} {x : α}, Paired F l₁ l₂ → x ∈ l₁ → ∃ y, F x y
  | _, _, _, .nil, m => by simp at m
  | _, _, x, .cons h r, m => by
    rcases List.mem_cons.mp m with e | m
    · subst e; exact ⟨_, h⟩
    · exact Paired.left r m
theorem EnvAt.put {B : Hp × Hp} {ρ : Rho} {s s' : Pot} {σ : L2.St} {Hf' H' : Hp} {Rs : Res} {k : Own} {v : V} {d : D} {i : Nat} (V : EnvAt W B Γ ρ s σ Hf H) (x : Ext W Hf H Hf' H' s') (ft : Fits W Rs k) (r : Rs H Hf' H' v d) (hi : i < Γ.length) : EnvAt W B (Γ.set i k) (ρ.set i (some d)) s' (σ.set i (some v)) Hf' H' := by
  obtain ⟨ow, h1, h2⟩ := V.own
  have V' := V.ext' x
  obtain ⟨l, ol, hl⟩ := ft _ _ _ _ _ r
  have g1 : ∀ i d, ρ[i]? = some (some d) → ∃ v, σ[i]? = some (some v) ∧ OwnAt W Hf' H' ow i (Γ.getD i .sh) v d := fun i d e => by
    obtain ⟨v, e1, z⟩ := h1 i d e
    exact ⟨v, e1, z.ext x fun q j e => (h2 q j e).2.1⟩
  have g2 : ∀ q i, ow q = some i → Hf' q = none ∧ q ≠ W.P ∧ B.2 q = none ∧ ∃ o, H' q = some o := fun q i e => by
    obtain ⟨z1, z2, z3, o, z4⟩ := h2 q i e
    exact ⟨x.unf _ _ z4 z1, z2, z3, x.somes z2 z4⟩
  obtain ⟨k1, k2⟩ := EnvAt.store (i := i) V'.ext V.len g1 g2 ol (fun q hq => by
    obtain ⟨n0, nf, nP, ho⟩ := hl q hq
    refine ⟨?_, nf, nP, Rs_old V.ext n0 nP, ho⟩
    cases e : ow q with
    | none => rfl
    | some j =>
      obtain ⟨_, _, _, o, z⟩ := h2 q j e
      rw [n0] at z; cases z) hi
  exact ⟨V'.ext, by simp [V.len], _, k1, k2⟩
def setS (i : Nat) (f : Rho → M D) : Rho → M Fl := fun ρ => do
  let d ← f ρ
  pure (.nx (ρ.set i (some d)))
theorem rs_set {Rs : Res} {k : Own} {t : TE} {i : Nat} (ft : Fits W Rs k) (hi : i < Γ.length) (h : RX W E Γ Rs t f) : RS W E Γ (Γ.set i k) Γl (tAsg t (gName i)) (setS i f) := by
  intro B ρ s σ Hf H D V p
  unfold setS at p
  rw [post_bind] at p
  exact h B ρ s σ Hf H _ V (p.imp (fun d s1 p1 v Hf1 H1 x1 r1 => p1 _ _ _ (V.put x1 ft r1 hi)) fun _ _ _ z => z)
theorem js_set {Rs : Wd → Res} {k : Own} (i : Nat) {x : Str} {p' : Pos} (ft : ∀ W, Fits W (Rs W) k) (he : JX c Rs Γ e f) (hN : c.N[i]? = some x) (hx : Loc c.sc x) (hi : i < Γ.length := by decide)
    (hs : ∀ X, Is c X → swapsWith e (some (.Name x p')) pos.line X.env = pure false := by intro _ _; rfl) (hf : c.fnf x = true ∨ c.sc.names.lookup x = some .local := by first | exact .inl rfl | exact .inr rfl) : JS c Γ (Γ.set i k) Γl (.Assign [.Name x p'] e pos) (setS i f) := by
  obtain ⟨t, h1, h2⟩ := he
  exact ⟨tAsg t (gName i), fun X hX => ps_set hX.nd (by rw [hX.N]; exact hN) (by rw [hX.sc]; exact hx) (h1 X hX) (hs X hX) (by rw [hX.fn, hX.sc]; exact hf), rs_set (ft _) hi h2⟩
theorem kv_of_lists : ∀ {qs : List (Key × Addr)} {ds : List (Key × List D)}, Paired (fun (q : Key × Addr) (z : Key × List D) => q.1 = z.1 ∧ ∃ xs, Hf q.2 = some (.lst xs) ∧ xs.length ≤ sizeLine ∧ AtAll W Hf xs z.2) qs ds → AtKv W Hf (qs.map fun z => (z.1, .ref z.2)) (ds.map fun z => (z.1, .lst z.2))
  | _, _, .nil => .nil
  | (k, q) :: qs, (k', d) :: ds, .cons ⟨e, xs, h1, h2, h3⟩ r => by
    have e : k = k' := e
    subst e
    exact .cons (.lst h1 h2 h3) (kv_of_lists r)
theorem all_of_lists : ∀ {qs : List Addr} {ds : List (List D)}, Paired (fun (q : Addr) (z : List D) => ∃ xs, Hf q = some (.lst xs) ∧ xs.length ≤ sizeLine ∧ AtAll W Hf xs z) qs ds → AtAll W Hf (qs.map .ref) (ds.map .lst)
  | _, _, .nil => .nil
  | q :: qs, d :: ds, .cons ⟨xs, h1, h2, h3⟩ r => .cons (.lst h1 h2 h3) (all_of_lists r)
theorem EnvAt.freeze {B : Hp × Hp} {ρ : Rho} {s : Pot} {σ : L2.St} (V : EnvAt W B Γ ρ s σ Hf H) (i : Nat) : ∃ Hf', EnvAt W B (Γ.set i .sh) ρ s σ Hf' H ∧ Same Hf Hf' := by
  obtain ⟨ow, h1, h2⟩ := V.own
  have hsame : Same Hf (fun b => if ow b = some i then H b else Hf b) := fun b o e => by
    have : ow b ≠ some i := fun z => by have := (h2 b i z).1; rw [this] at e; cases e
    simp only [if_neg this]; exact e
  have hfr : ∀ {q : Addr} {o : HO}, ow q = some i → H q = some o → (fun b => if ow b = some i then H b else Hf b) q = some o := fun hq ho => by simp only [if_pos hq]; exact ho
  refine ⟨fun b => if ow b = some i then H b else Hf b, ⟨⟨V.ext.ff.trans hsame, fun b o e => ?_, ?_, V.ext.pot, V.ext.old0, V.ext.tab, V.ext.tabs, fun b o e n => ?_⟩, V.len, fun q => if ow q = some i then none else ow q, fun j d e => ?_, fun q j e => ?_⟩, hsame⟩
  · by_cases hb : ow b = some i
    · simp only [if_pos hb] at e; exact e
    · simp only [if_neg hb] at e; exact V.ext.fh _ _ e
  · have : ow W.P ≠ some i := fun z => (h2 _ i z).2.1 rfl
    simp only [if_neg this]; exact V.ext.potF
  · have : ow b ≠ some i := fun z => by have := (h2 b i z).2.2.1; rw [this] at e; cases e
    simp only [if_neg this]; exact V.ext.unf _ _ e n
  · obtain ⟨v, e1, z⟩ := h1 j d e
    refine ⟨v, e1, ?_⟩
    by_cases hj : j = i
    · subst hj
      have hk : (Γ.set j .sh).getD j .sh = .sh := by
        by_cases hl : j < Γ.length
        · exact getD_set_self hl
        · rw [List.getD_eq_getElem?_getD, List.getElem?_eq_none (by simp; omega)]; rfl
      rw [hk]
      cases q : Γ.getD j .sh with
      | sh => rw [q] at z; exact At.mono hsame z
      | ol =>
        rw [q] at z
        obtain ⟨p, xs, ds, a1, a2, a3, a4, a5, a6⟩ := z
        subst a1; subst a2
        exact .lst (hfr a3 a4) a5 (a6.mono hsame)
      | od =>
        rw [q] at z
        obtain ⟨p, xs, ds, a1, a2, a3, a4, a5, a6⟩ := z
        subst a1; subst a2
        exact .dct (.inl (hfr a3 a4)) a5 (a6.mono hsame)
      | odl =>
        rw [q] at z
        obtain ⟨p, qs, ds, a1, a2, a3, a4, a5, _, a7⟩ := z
        subst a1; subst a2
        refine .dct (.inl (hfr a3 a4)) (by rw [List.length_map]; exact a5) (kv_of_lists (Paired.mapP a7 fun a b ⟨z1, z2, xs, z3, z4, z5⟩ => ⟨z1, xs, hfr z2 z3, z4, z5.mono hsame⟩))
      | lk =>
        rw [q] at z
        obtain ⟨p, od, ks, ds, a1, a2, a3, a4, a5⟩ := z
        subst a1; subst a2
        exact .dct (.inr ⟨_, hsame _ _ a3⟩) a4 (a5.mono hsame)
      | ot =>
        rw [q] at z
        obtain ⟨p, xs, ds, a1, a2, a3, a4, a5, a6⟩ := z
        subst a1; subst a2
        exact .dtt (.inl (hfr a3 a4)) a5 a6.1 (a6.2.mono hsame)
      | oll =>
        rw [q] at z
        obtain ⟨p, qs, ds, a1, a2, a3, a4, a5, _, a7⟩ := z
        subst a1; subst a2
        exact .lst (hfr a3 a4) (by rw [List.length_map]; exact a5) (all_of_lists (Paired.mapP a7 fun a b ⟨z2, xs, z3, z4, z5⟩ => ⟨xs, hfr z2 z3, z4, z5.mono hsame⟩))
      | lt =>
        rw [q] at z
        obtain ⟨p, od, ks, ds, a1, a2, a3, a4, a5⟩ := z
        subst a1; subst a2
        exact .dtt (.inr ⟨_, hsame _ _ a3⟩) a4 a5.1 (a5.2.mono hsame)
    · rw [getD_set_ne hj]
      have z' := OwnAt.other (ow' := fun q => if ow q = some i then none else ow q) z fun q hq => by
        have : ow q ≠ some i := fun e => by rw [hq] at e; cases e; exact hj rfl
        simp only [if_neg this]; exact hq
      cases q : Γ.getD j .sh with
      | sh => rw [q] at z'; exact At.mono hsame z'
      | ol => rw [q] at z'; obtain ⟨p, xs, ds, a1, a2, a3, a4, a5, a6⟩ := z'; exact ⟨p, xs, ds, a1, a2, a3, a4, a5, a6.mono hsame⟩
      | od => rw [q] at z'; obtain ⟨p, xs, ds, a1, a2, a3, a4, a5, a6⟩ := z'; exact ⟨p, xs, ds, a1, a2, a3, a4, a5, a6.mono hsame⟩
      | odl =>
        rw [q] at z'
        obtain ⟨p, qs, ds, a1, a2, a3, a4, a5, a6, a7⟩ := z'
        exact ⟨p, qs, ds, a1, a2, a3, a4, a5, a6, Paired.mapP a7 fun a b ⟨z1, z2, xs, z3, z4, z5⟩ => ⟨z1, z2, xs, z3, z4, z5.mono hsame⟩⟩
      | lk => rw [q] at z'; obtain ⟨p, od, ks, ds, a1, a2, a3, a4, a5⟩ := z'; exact ⟨p, od, ks, ds, a1, a2, hsame _ _ a3, a4, a5.mono hsame⟩
      | ot => rw [q] at z'; obtain ⟨p, xs, ds, a1, a2, a3, a4, a5, a6⟩ := z'; exact ⟨p, xs, ds, a1, a2, a3, a4, a5, a6.mono hsame⟩
      | oll =>
        rw [q] at z'
        obtain ⟨p, qs, ds, a1, a2, a3, a4, a5, a6, a7⟩ := z'
        exact ⟨p, qs, ds, a1, a2, a3, a4, a5, a6, Paired.mapP a7 fun a b ⟨z2, xs, z3, z4, z5⟩ => ⟨z2, xs, z3, z4, z5.mono hsame⟩⟩
      | lt => rw [q] at z'; obtain ⟨p, od, ks, ds, a1, a2, a3, a4, a5⟩ := z'; exact ⟨p, od, ks, ds, a1, a2, hsame _ _ a3, a4, a5.mono hsame⟩
  · by_cases hq : ow q = some i
    · simp [hq] at e
    · simp only [if_neg hq] at e ⊢
      exact h2 q j e
theorem rs_freeze {t : TS} {f : Rho → M Fl} (i : Nat) (h : RS W E (Γ.set i .sh) Γ' Γl t f) : RS W E Γ Γ' Γl t f := by
  intro B ρ s σ Hf H D V p
  obtain ⟨Hf', V', _⟩ := V.freeze i
  exact h B ρ s σ Hf' H D V' p
theorem jss_freeze {f : Rho → M Fl} (i : Nat) (h : JSs c (Γ.set i .sh) Γ' Γl sts f) : JSs c Γ Γ' Γl sts f := by
  obtain ⟨t, h1, h2⟩ := h
  exact ⟨t, h1, rs_freeze i h2⟩
end
end VL
namespace VL
open PySem PySem.Spec PyProof.Rows L2
section
variable {c : Ctx} {W : Wd} {E : XK} {Γ Γ' Γ'' Γl : Gam} {e a b o : Expr} {f fa fb fo : Rho → M D} {pos : Pos} {Hf H : Hp} {st : Stmt} {sts rest : List Stmt}
def rebase (B : Hp × Hp) (Hf : Hp) : Hp × Hp := (Hf, fun b => match Hf b with | some o => some o | none => B.2 b)
theorem rebase_snd {B : Hp × Hp} {b : Addr} : (rebase B Hf).2 b = match Hf b with | some o => some o | none => B.2 b := rfl
theorem EnvAt.rebase {B : Hp × Hp} {ρ : Rho} {s : Pot} {σ : L2.St} (V : EnvAt W B Γ ρ s σ Hf H) : EnvAt W (rebase B Hf) Γ ρ s σ Hf H := by
  obtain ⟨ow, h1, h2⟩ := V.own
  refine ⟨⟨Same.refl _, V.ext.fh, V.ext.potF, V.ext.pot, fun b o hb e n => ?_, fun b ps e => ?_, V.ext.tabs, fun b o e n => n⟩, V.len, ow, h1, fun q i e => ?_⟩
  · rw [rebase_snd] at e
    cases q : Hf b with
    | some u => rw [q] at e; cases e; exact V.ext.fh _ _ q
    | none => rw [q] at e; exact V.ext.old0 _ _ hb e n
  · rw [rebase_snd] at e
    cases q : Hf b with
    | some u => rw [q] at e; cases e; exact ⟨ps, V.ext.fh _ _ q⟩
    | none => rw [q] at e; exact V.ext.tab _ _ e
  · obtain ⟨z1, z2, z3, z4⟩ := h2 q i e
    exact ⟨z1, z2, by rw [rebase_snd, z1]; exact z3, z4⟩
theorem Ext.unbase {B : Hp × Hp} {Hf1 H1 : Hp} {s s1 : Pot} (x : Ext W B.1 B.2 Hf H s) (y : Ext W (VL.rebase B Hf).1 (VL.rebase B Hf).2 Hf1 H1 s1) : Ext W B.1 B.2 Hf1 H1 s1 := by
  refine ⟨x.ff.trans y.ff, y.fh, y.potF, y.pot, fun b o hb e n => ?_, fun b ps e => ?_, y.tabs, fun b o e n => ?_⟩
  · refine y.old0 b o hb ?_ n
    rw [rebase_snd]
    cases q : Hf b with
    | some u =>
      have h1 := x.fh _ _ q
      have h2 := x.old0 _ _ hb e n
      rw [h1] at h2; exact h2
    | none => exact e
  · obtain ⟨qs, z⟩ := x.tab _ _ e
    cases q : Hf b with
    | some u =>
      have h1 := x.fh _ _ q
      rw [z] at h1; cases h1
      exact y.tab b qs (by rw [rebase_snd, q])
    | none => exact y.tab b ps (by rw [rebase_snd, q]; exact e)
  · have q := x.unf _ _ e n
    exact y.unf b o (by rw [rebase_snd, q]; exact e) q
theorem EnvAt.unbase {B : Hp × Hp} {ρ : Rho} {s s1 : Pot} {σ : L2.St} {Hf1 H1 : Hp} (x : Ext W B.1 B.2 Hf H s) (V : EnvAt W (VL.rebase B Hf) Γ ρ s1 σ Hf1 H1) : EnvAt W B Γ ρ s1 σ Hf1 H1 := by
  obtain ⟨ow, h1, h2⟩ := V.own
  refine ⟨x.unbase V.ext, V.len, ow, h1, fun q i e => ?_⟩
  obtain ⟨z1, z2, z3, z4⟩ := h2 q i e
  refine ⟨z1, z2, ?_, z4⟩
  rw [rebase_snd] at z3
  cases q' : Hf q with
  | some u => rw [q'] at z3; cases z3
  | none => rw [q'] at z3; exact z3
theorem ErrOk.rebase {B : Hp × Hp} {s s1 : Pot} {n : Nat} {v : D} (x : Ext W B.1 B.2 Hf H s) (h : ErrOk W B E n v s1) : ErrOk W (VL.rebase B Hf) E n v s1 := fun dx u Hf' H' y => h dx u Hf' H' (x.unbase y)
def forL (tg : D → Rho → Option Rho) (body : Rho → M Fl) : List D → Rho → M Fl
  | [], ρ => pure (.nx ρ)
  | d :: r, ρ => do
    let ρ1 ← opt (tg d ρ)
    let z ← body ρ1
    match z with
    | .nx ρ2 => forL tg body r ρ2
    | .ct ρ2 => forL tg body r ρ2
    | .bk ρ2 => pure (.nx ρ2)
    | .rt v => pure (.rt v)
def forS (fi : Rho → M (List D)) (tg : D → Rho → Option Rho) (body : Rho → M Fl) : Rho → M Fl := fun ρ => do
  let ds ← fi ρ
  forL tg body ds ρ
theorem js_for {is : List Nat} {tg iter : Expr} {body : List Stmt} {fi : Rho → M (List D)} {ft : D → Rho → Option Rho} {fbd : Rho → M Fl} (hi : JI c Γ tg iter fi) (hg : JG c Γ is tg ft) (hb : JSs c Γ Γ Γ body fbd)
    (hs : ∀ env x, foldedSetIterable iter env x = pure x := by intro _ _; rfl) : JS c Γ Γ Γl (.For tg iter body [] pos) (forS fi ft fbd) := by
  obtain ⟨wi, i1, i2⟩ := hi
  obtain ⟨g, g1, g2⟩ := hg
  obtain ⟨tb, b1, b2⟩ := hb
  refine ⟨tFor wi g tb, fun X hX => ps_for hX.own hX.calm (i1 X hX) (g1 X hX) (b1 X hX) (hs _), fun B ρ s σ Hf H D V p => ?_⟩
  unfold forS at p
  rw [post_bind] at p
  refine i2 B ρ s σ Hf H _ V (p.imp (fun ds s1 p1 J Hf1 H1 x1 hz it => ?_) fun _ _ _ z => z)
  have V1 := V.ext' x1
  refine ⟨fun i m σ2 H2 => ∃ Hf2 ρ2 s2, i ≤ ds.length ∧ m = ds.length - i ∧ EnvAt c.W (VL.rebase B Hf1) Γ ρ2 s2 σ2 Hf2 H2 ∧ Post (FlOk c.W B Γ Γl D) (ErrOk c.W B c.E) (forL ft fbd (ds.drop i) ρ2 s2), ?_, ?_⟩
  · exact ⟨ds.length - 0, Hf1, ρ, s1, Nat.zero_le _, rfl, V1.rebase, p1⟩
  · intro i m σ2 H2 ⟨Hf2, ρ2, s2, hi, hm, V2, p2⟩
    have hit := it i Hf2 H2 s2 V2.ext.ff V2.ext.refl
    by_cases hlt : i < ds.length
    · right
      have hd : ds[i]? = some ds[i] := List.getElem?_eq_getElem hlt
      obtain ⟨go, yl⟩ := hit.2 _ hd
      refine ⟨go, fun σ3 H3 => ∃ Hf3 ρ3 s3, EnvAt c.W (VL.rebase B Hf1) Γ ρ3 s3 σ3 Hf3 H3 ∧ Post (FlOk c.W B Γ Γl D) (ErrOk c.W B c.E) (forL ft fbd (ds.drop (i + 1)) ρ3 s3),
        fun σ3 H3 ⟨Hf3, ρ3, s3, q1, q2⟩ => ⟨ds.length - (i + 1), by omega, Hf3, ρ3, s3, hlt, rfl, q1, q2⟩, fun x H3 hy => ?_⟩
      obtain ⟨Hf3, x3, ax⟩ := yl x H3 hy
      have V3 := V2.ext' x3
      rw [List.drop_eq_getElem_cons hlt] at p2
      unfold forL at p2
      rw [post_bind, post_opt] at p2
      obtain ⟨ρ', eρ, p2⟩ := p2
      rw [post_bind] at p2
      refine g2 (VL.rebase B Hf1) ρ2 s2 σ2 Hf3 H3 x _ ρ' _ V3 ax eρ fun σ' V4 w4 => ?_
      refine b2 (VL.rebase B Hf1) ρ' s2 σ' Hf3 H3 _ V4 (p2.imp (fun z s3 p3 => ?_) fun _ _ _ z => z.rebase V1.ext)
      cases z with
      | nx ρ3 => exact fun σ3 Hf4 H4 V5 => ⟨Hf4, ρ3, s3, V5, p3⟩
      | ct ρ3 => exact fun σ3 Hf4 H4 V5 => ⟨Hf4, ρ3, s3, V5, p3⟩
      | bk ρ3 => exact fun σ3 Hf4 H4 V5 => p3 _ _ _ (V5.unbase V1.ext)
      | rt d => exact fun v Hf4 H4 y => p3 v _ _ (V1.ext.unbase y)
    · left
      have e : i = ds.length := by omega
      subst e
      refine ⟨hit.1 (Nat.le_refl _), ?_⟩
      rw [List.drop_length] at p2
      exact p2 _ _ _ (V2.unbase V1.ext)
theorem EnvAt.turn {B : Hp × Hp} {ρ : Rho} {s : Pot} {σ : L2.St} {i : Nat} {k : Own} {d : D} {v : V} {p : Addr} {o' : HO} {ow : Addr → Option Nat} (V : EnvAt W B Γ ρ s σ Hf H)
    (h1 : ∀ i d, ρ[i]? = some (some d) → ∃ v, σ[i]? = some (some v) ∧ OwnAt W Hf H ow i (Γ.getD i .sh) v d) (h2 : ∀ q i, ow q = some i → Hf q = none ∧ q ≠ W.P ∧ B.2 q = none ∧ ∃ o, H q = some o)
    (hσ : σ[i]? = some (some v)) (hk : Γ.getD i .sh = k) (hp : ow p = some i) (hn : OwnAt W Hf (upd H p o') ow i k v d) {u : HO} (hu : H p = some u) (n : NoT u) : EnvAt W B Γ (ρ.set i (some d)) s σ Hf (upd H p o') := by
  obtain ⟨pf, pP, pB, _⟩ := h2 p i hp
  refine ⟨V.ext.write pf pP pB hu n, by simp [V.len], ow, fun j d' e => ?_, fun q j e => ?_⟩
  · rcases set_get e with ⟨rfl, e1, _⟩ | ⟨hj, e1⟩
    · cases e1
      exact ⟨v, hσ, by rw [hk]; exact hn⟩
    · obtain ⟨v', e2, z⟩ := h1 j d' e1
      refine ⟨v', e2, ?_⟩
      have ne : ∀ q, ow q = some j → q ≠ p := fun q hq e => by rw [e, hp] at hq; cases hq; exact hj rfl
      cases hg : Γ.getD j .sh with
      | sh => rw [hg] at z; exact z
      | ol => rw [hg] at z; obtain ⟨q, xs, ds, a1, a2, a3, a4, r⟩ := z; exact ⟨q, xs, ds, a1, a2, a3, by rw [upd_ne (ne q a3)]; exact a4, r⟩
      | od => rw [hg] at z; obtain ⟨q, xs, ds, a1, a2, a3, a4, r⟩ := z; exact ⟨q, xs, ds, a1, a2, a3, by rw [upd_ne (ne q a3)]; exact a4, r⟩
      | odl =>
        rw [hg] at z
        obtain ⟨q, qs, ds, a1, a2, a3, a4, a5, a6, a7⟩ := z
        exact ⟨q, qs, ds, a1, a2, a3, by rw [upd_ne (ne q a3)]; exact a4, a5, a6, Paired.mapP a7 fun a b ⟨z1, z2, xs, z3, z4⟩ => ⟨z1, z2, xs, by rw [upd_ne (ne _ z2)]; exact z3, z4⟩⟩
      | lk => rw [hg] at z; exact z
      | ot => rw [hg] at z; obtain ⟨q, xs, ds, a1, a2, a3, a4, r⟩ := z; exact ⟨q, xs, ds, a1, a2, a3, by rw [upd_ne (ne q a3)]; exact a4, r⟩
      | lt => rw [hg] at z; exact z
      | oll =>
        rw [hg] at z
        obtain ⟨q, qs, ds, a1, a2, a3, a4, a5, a6, a7⟩ := z
        exact ⟨q, qs, ds, a1, a2, a3, by rw [upd_ne (ne q a3)]; exact a4, a5, a6, Paired.mapP a7 fun a b ⟨z2, xs, z3, z4⟩ => ⟨z2, xs, by rw [upd_ne (ne _ z2)]; exact z3, z4⟩⟩
  · obtain ⟨z1, z2, z3, o, z4⟩ := h2 q j e
    refine ⟨z1, z2, z3, ?_⟩
    by_cases hq : q = p
    · rw [hq]; exact ⟨_, upd_same⟩
    · exact ⟨o, by rw [upd_ne hq]; exact z4⟩
def asLst (d : D) : M (List D) := match d with
  | .lst l => pure l
  | _ => nope
theorem post_asLst {A : List D → Pot → Prop} {B : Nat → D → Pot → Prop} {d : D} {s : Pot} (h : Post A B (asLst d s)) : ∃ b, d = .lst b ∧ A b s := by
  cases d with
  | lst b => exact ⟨b, rfl, h⟩
  | _ => exact h.elim
theorem pe_bm1 {T id : String} {name : Str} {r : V → List V → Hp → VK → Prop} {to te : TE} {X : Cx} {apos cpos : Pos} (pa : PlainAttrs T) (slot : Slot T name id) (hty : typeOf (.builtin id) = pure (.type "method_descriptor")) (hm : MtR X id r) (ho : PE X o to) (ha : PE X e te)
    (hbase : ∀ env, attributeBase o name env (eval o env) = eval o env) (hst : ∀ env, starEach [e] env = [(false, eval e env)]) (hline : (apos.endLine == cpos.line) = true) : PE X (.Call (.Attribute o name apos) [e] [] cpos) (tBM X.K T r to (tCons te tNil)) := by
  refine pe_bm pa slot hty hm ho (pa_cons ha pa_nil (by rw [hst]; rfl)) (hbase _) ?_ hline (by rw [hst]; rfl) rfl
  rw [hst]; rfl
theorem EnvAt.look {B : Hp × Hp} {ρ : Rho} {s : Pot} {σ : L2.St} (V : EnvAt W B Γ ρ s σ Hf H) : ∃ ow : Addr → Option Nat, (∀ i d, ρ[i]? = some (some d) → ∃ v, σ[i]? = some (some v) ∧ OwnAt W Hf H ow i (Γ.getD i .sh) v d) ∧ (∀ q i, ow q = some i → Hf q = none ∧ q ≠ W.P ∧ B.2 q = none ∧ ∃ o, H q = some o) := V.own
def extS (i : Nat) (fe : Rho → M D) : Rho → M Fl := fun ρ => do
  let _ ← asLst (← slot i ρ)
  let d ← fe ρ
  let m ← asLst d
  let l ← asLst (← slot i ρ)
  if l.length + m.length ≤ sizeLine then pure (.nx (ρ.set i (some (.lst (l ++ m))))) else nope
theorem js_extend (i : Nat) {x : Str} {p1 p2 p3 : Pos} (he : JV c Γ e f) (hN : c.N[i]? = some x) (hv : Vis c.sc x) (hΓ : Γ.getD i .sh = .ol) (hline : (p2.endLine == p3.line) = true := by rfl) (hst : ∀ env, starEach [e] env = [(false, eval e env)] := by intro _; rfl) (hd : (x == ("__debug__" : Str)) = false := by decide) (hcd : (x == ("__classdict__" : Str)) = false := by decide) :
    JS c Γ Γ Γl (.Expr (.Call (.Attribute (.Name x p1) "extend" p2) [e] [] p3) pos) (extS i f) := by
  obtain ⟨t, h1, h2⟩ := he
  refine ⟨tDrop (tBM c.W.K "list" rExtend (tVar i) (tCons t tNil)), fun X hX => ?_, fun B ρ s σ Hf H D V p => ?_⟩
  · have q := pe_bm1 (X := X) (cpos := p3) (apos := p2) PySem.F.plainAttrs_list PySem.F.slot_list_extend PySem.F.type_list_extend (mt_extend (X := X)) (pe_var (i := i) (x := x) (pos := p1) (by rw [hX.N]; exact hN) (hX.vis hv) hd hcd) (h1 X hX) (fun _ => rfl) hst hline
    rw [hX.K] at q
    exact ps_expr q
  · unfold extS at p
    rw [post_bind] at p
    obtain ⟨d0, e0, p⟩ := post_slot p
    rw [post_bind] at p
    obtain ⟨l0, rfl, pp⟩ := post_asLst p
    rw [post_bind] at pp
    obtain ⟨ow, g1, g2⟩ := V.own
    obtain ⟨v, e1, z⟩ := g1 i _ e0
    have z0 := z
    rw [hΓ] at z
    obtain ⟨q, xs, ds, a1, a2, a3, a4, a5, a6⟩ := z
    subst a1
    cases a2
    refine ⟨.ref q, e1, .inl ⟨rfl, _, SqL.of a4⟩, h2 B ρ s σ Hf H _ V (pp.imp (fun d s1 p1 v1 Hf1 H1 x1 r1 => ?_) fun _ _ _ z => z)⟩
    have V1 := V.ext' x1
    rw [post_bind] at p1
    obtain ⟨m, rfl, p3⟩ := post_asLst p1
    rw [post_bind] at p3
    obtain ⟨d1, e2, p4⟩ := post_slot p3
    rw [e0] at e2
    cases e2
    rw [post_bind] at p4
    obtain ⟨l1, e3, p1⟩ := post_asLst p4
    cases e3
    have k1 : ∀ i d, ρ[i]? = some (some d) → ∃ v, σ[i]? = some (some v) ∧ OwnAt c.W Hf1 H1 ow i (Γ.getD i .sh) v d := fun i d e => by
      obtain ⟨v, e1, z⟩ := g1 i d e
      exact ⟨v, e1, z.ext x1 fun q j e => (g2 q j e).2.1⟩
    have k2 : ∀ q i, ow q = some i → Hf1 q = none ∧ q ≠ c.W.P ∧ B.2 q = none ∧ ∃ o, H1 q = some o := fun q i e => by
      obtain ⟨z1, z2, z3, o, z4⟩ := g2 q i e
      exact ⟨x1.unf _ _ z4 z1, z2, z3, x1.somes z2 z4⟩
    have hq1 : H1 q = some (.lst xs) := x1.old _ _ (g2 _ _ a3).2.1 a4
    by_cases hlt : l0.length + m.length ≤ sizeLine
    · rw [if_pos hlt] at p1
      obtain ⟨q2, zs, rfl, b1, b2, b3⟩ := r1.lst' x1.fh
      refine ⟨q, q2, xs, zs, rfl, rfl, hq1, b1, by rw [a6.len, b3.len]; exact hlt, ?_⟩
      exact p1 _ _ _ (V1.turn k1 k2 e1 hΓ a3 ⟨q, xs ++ zs, l0 ++ m, rfl, rfl, a3, upd_same, by rw [List.length_append, a6.len, b3.len]; exact hlt, (a6.mono x1.ff).append b3⟩ hq1 (noT_lst _))
    · rw [if_neg hlt] at p1; exact p1.elim
def asDct (d : D) : M (List (Key × D)) := match d with
  | .dct l => pure l
  | _ => nope
end
end VL
namespace VL
open PySem PySem.Spec PyProof.Rows L2
def envS (sc : Scope) : Env := { (default : Env) with scope := sc }
theorem swapped_env (ts : List Expr) (v : Expr) (env : Env) : swappedStores ts v env = swappedStores ts v (envS env.scope) := by
  unfold swappedStores envS Env.blockKind Env.kindOf
  rfl
section
variable {c : Ctx} {W : Wd} {E : XK} {Γ Γ' Γ'' Γl : Gam} {e a b d' o : Expr} {f fa fb fc fo : Rho → M D} {pos : Pos} {Hf H : Hp} {st : Stmt} {sts rest : List Stmt}
theorem Is.sws {X : Cx} (h : Is c X) {ts : List Expr} {v : Expr} {r : Sem (Option (List Str))} (q : swappedStores ts v (envS c.sc) = r) : swappedStores ts v X.env = r := by
  rw [swapped_env, h.sc]; exact q
def potAt (s : Pot) (k : Int) : Option Int := if k = 0 then some s.1 else if k = 1 then some s.2.1 else if k = 2 then some s.2.2 else none
def potR (k : Int) : M D := fun s => match potAt s k with
  | some z => .ok (.int z) s
  | none => .fail
def potGet (fa fb : Rho → M D) : Rho → M D := fun ρ => do
  let d ← fa ρ
  let e ← fb ρ
  match d, e with
  | .pot, .int k => potR k
  | _, _ => nope
theorem je_potGet (ha : JE c Γ a fa) (hb : JE c Γ b fb) (hs : PlainIx b := by exact fun _ _ => rfl) : JE c Γ (.Subscript a b pos) (potGet fa fb) := by
  obtain ⟨ta, a1, a2⟩ := ha
  obtain ⟨tb, b1, b2⟩ := hb
  refine ⟨tOp (rIx c.W.K) ta tb, fun X h => ?_, fun B ρ s σ Hf H Q V p => ?_⟩
  · have q := ix_seq (X := X)
    rw [h.K] at q
    exact pe_ix q (a1 X h) (b1 X h) hs
  · unfold potGet at p
    rw [post_bind] at p
    refine a2 B ρ s σ Hf H _ V (p.imp (fun d s1 p1 v Hf1 H1 x1 r1 => ?_) fun _ _ _ z => z)
    rw [post_bind] at p1
    refine b2 B ρ s1 σ Hf1 H1 _ (V.ext' x1) (p1.imp (fun e s2 p2 w Hf2 H2 x2 r2 => ?_) fun _ _ _ z => z)
    cases d with
    | pot =>
      cases e with
      | int k =>
        cases r1
        cases r2
        have p2 : Post _ _ (potR k s2) := p2
        unfold potR at p2
        cases q : potAt s2 k with
        | none => rw [q] at p2; exact p2.elim
        | some z =>
          rw [q] at p2
          refine .inl ⟨c.P, _, k, .int z, rfl, rfl, SqL.of x2.pot, ?_, p2 _ _ _ (x1.trans x2) (.int z)⟩
          unfold potAt at q
          split at q
          · rename_i hk; subst hk; cases q; rfl
          · split at q
            · rename_i hk; subst hk; cases q; rfl
            · split at q
              · rename_i hk; subst hk; cases q; rfl
              · cases q
      | _ => exact p2.elim
    | _ => exact p2.elim
def potPut (s : Pot) (k z : Int) : Option Pot := if k = 0 then some (z, s.2.1, s.2.2) else if k = 1 then some (s.1, z, s.2.2) else if k = 2 then some (s.1, s.2.1, z) else none
def potW (k z : Int) (ρ : Rho) : M Fl := fun s => match potPut s k z with
  | some s' => .ok (.nx ρ) s'
  | none => .fail
def potSet (fa fb fe : Rho → M D) : Rho → M Fl := fun ρ => do
  let x ← fe ρ
  let d ← fa ρ
  let e ← fb ρ
  match d, e, x with
  | .pot, .int k, .int z => potW k z ρ
  | _, _, _ => nope
theorem EnvAt.pot {B : Hp × Hp} {ρ : Rho} {s s' : Pot} {σ : L2.St} (V : EnvAt W B Γ ρ s σ Hf H) : EnvAt W B Γ ρ s' σ Hf (upd H W.P (potO s')) := by
  have x : Ext W Hf H Hf (upd H W.P (potO s')) s' := by
    refine ⟨Same.refl _, fun b o e => ?_, V.ext.potF, upd_same, fun b o hb e _ => ?_, fun b ps e => ⟨ps, ?_⟩, tabs_upd V.ext.tabs V.ext.pot (noT_lst _), fun b o e n => n⟩
    · rw [upd_ne (fun z => by rw [z, V.ext.potF] at e; cases e)]; exact V.ext.fh _ _ e
    · rw [upd_ne hb]; exact e
    · rw [upd_ne (fun z => by rw [z, V.ext.pot] at e; cases e)]; exact e
  exact V.ext' x
theorem js_potSet {p2 : Pos} (he : JE c Γ e f) (ha : JE c Γ a fa) (hb : JE c Γ b fb) (hs : ∀ env, swapsWithSole [.Subscript a b p2] e pos.line env = pure false := by intro _; rfl) (hw : swappedStores [.Subscript a b p2] e (envS c.sc) = pure none := by rfl) (h1 : ∀ env, (assignEach [.Subscript a b p2] env).map (·.2) = [assign (.Subscript a b p2) env] := by intro _; rfl)
    (hq : ∀ env v, assign (.Subscript a b p2) env v = (do
      let ov ← holding [v] (eval a env)
      let iv ← holding [v, ov] (eval b env)
      standAt p2
      holding [v, ov, iv] (setItem ov iv v)
      release [v, ov, iv] []) := by intro _ _; rfl) : JS c Γ Γ Γl (.Assign [.Subscript a b p2] e pos) (potSet fa fb f) := by
  obtain ⟨t, e1, e2⟩ := he
  obtain ⟨ta, a1, a2⟩ := ha
  obtain ⟨tb, b1, b2⟩ := hb
  refine ⟨tAsg t (gSub ta tb rSetL), fun X hX => ps_asg (e1 X hX) (pg_sub (a1 X hX) (b1 X hX) set_list (hq _)) (hs _) (hX.sws hw) (h1 _), fun B ρ s σ Hf H D V p => ?_⟩
  unfold potSet at p
  rw [post_bind] at p
  refine e2 B ρ s σ Hf H _ V (p.imp (fun x s0 p0 u Hf0 H0 x0 r0 => ?_) fun _ _ _ z => z)
  rw [post_bind] at p0
  refine a2 B ρ s0 σ Hf0 H0 _ (V.ext' x0) (p0.imp (fun d s1 p1 v Hf1 H1 x1 r1 => ?_) fun _ _ _ z => z)
  rw [post_bind] at p1
  refine b2 B ρ s1 σ Hf1 H1 _ ((V.ext' x0).ext' x1) (p1.imp (fun e s2 p2 w Hf2 H2 x2 r2 => ?_) fun _ _ _ z => z)
  cases d with
  | pot =>
    cases e with
    | int k =>
      cases x with
      | int z =>
        cases r0
        cases r1
        cases r2
        have p2 : Post _ _ (potW k z ρ s2) := p2
        unfold potW at p2
        cases q : potPut s2 k z with
        | none => rw [q] at p2; exact p2.elim
        | some s' =>
          rw [q] at p2
          have fin := p2 σ Hf2 _ (((V.ext' x0).ext' x1).ext' x2).pot
          unfold potPut at q
          split at q
          · rename_i hk; subst hk; cases q; exact ⟨c.P, _, 0, 0, rfl, rfl, x2.pot, rfl, fin⟩
          · split at q
            · rename_i hk; subst hk; cases q; exact ⟨c.P, _, 1, 1, rfl, rfl, x2.pot, rfl, fin⟩
            · split at q
              · rename_i hk; subst hk; cases q; exact ⟨c.P, _, 2, 2, rfl, rfl, x2.pot, rfl, fin⟩
              · cases q
      | _ => exact p2.elim
    | _ => exact p2.elim
  | _ => exact p2.elim
end
end VL
namespace VL
open PySem PySem.Spec PyProof.Rows L2
def spOf (K : PySem.W.Frag) (cls : Nat → Addr) (n : Nat) (F : List D → M D) : Sp := fun vs H Q E => vs.length = n ∧ ∃ (P : Addr) (Hf : Hp) (ds : List D) (s : Pot), Ext ⟨K, cls, P⟩ Hf H Hf H s ∧ AtAll ⟨K, cls, P⟩ Hf vs ds ∧
  Post (fun d s' => ∀ v Hf' H', Ext ⟨K, cls, P⟩ Hf H Hf' H' s' → At ⟨K, cls, P⟩ Hf' v d → Q v H') (ErrOk ⟨K, cls, P⟩ (Hf, H) E) (F ds s)
def endD (z : Fl) : M D := match z with
  | .rt d => pure d
  | .nx _ => pure .non
  | _ => nope
def rho0 (n : Nat) (ds : List D) : Rho := ds.map some ++ List.replicate (n - ds.length) none
def runD (n : Nat) (body : Rho → M Fl) : List D → M D := fun ds => do
  let z ← body (rho0 n ds)
  endD z
abbrev gam0 (n : Nat) : Gam := List.replicate n .sh
abbrev ctxB (g : Bool) (G : Glob) (N : List Str) (sc : Scope) (k : Nat) (P : Addr) (E : XK) : Ctx := ⟨G, N, sc, k, P, E, fun _ => true, g, none⟩
abbrev ctxOf (G : Glob) (N : List Str) (sc : Scope) (k : Nat) (P : Addr) (E : XK) : Ctx := ctxB false G N sc k P E
abbrev ctxG (G : Glob) (N : List Str) (sc : Scope) (k : Nat) (P : Addr) (E : XK) : Ctx := ctxB true G N sc k P E
theorem getD_rep {n i : Nat} : (gam0 n).getD i .sh = .sh := by
  rw [List.getD_eq_getElem?_getD]
  cases h : (gam0 n)[i]? with
  | none => rfl
  | some o =>
    have := List.mem_of_getElem? h
    rw [List.eq_of_mem_replicate this]; rfl
theorem is_defB {g : Bool} {G : Glob} {N ps : List Str} {qual : Str} {sc : Scope} {k : Nat} {P f : Addr} {cdv : Value} {A : Around} {outer : List Env} {s : Shared} {H : Hp} {E : XK} (S : FnScope N ps sc) (hr : Room k (A.deeper (envOfC qual sc s.heap.objs.size f cdv))) (hg : g = true → A.guards = some []) : Is (ctxB g G N sc k P E) (cxOf (L2.CX G.prog G.w) G.prog G.w G.K G.mg G.base N qual sc f cdv A outer s H E) where
  prog := rfl
  w := rfl
  K := rfl
  mg := rfl
  base := rfl
  N := rfl
  sc := rfl
  room := hr
  calm := rfl
  nd := S.nd
  fn := rfl
  pass := passes_call (takes_of rfl rfl rfl rfl) fun _ _ _ _ h => h
  take := takes_of rfl rfl rfl rfl
  own := passes_of rfl
  kind := S.kind
  gd := hg
  me := fun _ _ _ z => by cases z
theorem is_def {G : Glob} {N ps : List Str} {qual : Str} {sc : Scope} {k : Nat} {P f : Addr} {cdv : Value} {A : Around} {outer : List Env} {s : Shared} {H : Hp} {E : XK} (S : FnScope N ps sc) (hr : Room k (A.deeper (envOfC qual sc s.heap.objs.size f cdv))) : Is (ctxOf G N sc k P E) (cxOf (L2.CX G.prog G.w) G.prog G.w G.K G.mg G.base N qual sc f cdv A outer s H E) := is_defB S hr fun h => by cases h
theorem env_start {W : Wd} {Hf H : Hp} {s : Pot} {N : List Str} {vs : List V} {ds : List D} (x : Ext W Hf H Hf H s) (ha : AtAll W Hf vs ds) (hl : vs.length ≤ N.length) : EnvAt W (Hf, H) (gam0 N.length) (rho0 N.length ds) s (L2.start N vs) Hf H := by
  have e := ha.len
  refine ⟨x, by simp [L2.start, rho0, e], fun _ => none, fun i d h => ?_, fun q i h => by cases h⟩
  have hi : i < ds.length := by
    by_cases hi : i < ds.length
    · exact hi
    · rw [rho0, List.getElem?_append_right (by simpa using hi)] at h
      have := List.mem_of_getElem? h
      have := List.eq_of_mem_replicate this
      cases this
  rw [rho0, List.getElem?_append_left (by simpa using hi), List.getElem?_map] at h
  have h' : ds[i]? = some d := by
    cases q : ds[i]? with
    | none => rw [q] at h; cases h
    | some d' => rw [q] at h; simpa using h
  obtain ⟨v, hv, a⟩ := ha.get' h'
  refine ⟨v, ?_, ?_⟩
  · rw [L2.start, List.getElem?_append_left (by simp; omega), List.getElem?_map, hv]; rfl
  · rw [getD_rep]; exact a
structure FnI (G : Glob) (x : Str) (lvl n : Nat) (dd : List D) (F : List D → M D) : Prop where
  ex : ∃ (f : Addr) (fd : FuncData) (ps : List Str) (dvs : List V) (ds : List Value), G.mg x = some (.ref f) ∧ PySem.W.keepIn G.K (.ref f) = true ∧ ps.length = n ∧ FnOk G.prog G.w G.K G.mg G.base (L2.CX G.prog G.w) lvl f fd ps (spOf G.K G.cls n F) ∧ Binds G.K fd ps ds ∧ Vals dvs ds ∧ (∀ P H, AtAll ⟨G.K, G.cls, P⟩ H dvs dd)
section
variable {c : Ctx} {W : Wd} {E : XK} {Γ Γ' Γ'' Γl : Gam} {e a b d' o : Expr} {f fa fb fc fo : Rho → M D} {pos : Pos} {Hf H : Hp}
def callN (n : Nat) (F : List D → M D) (ds : List D) : M D := if ds.length = n then F ds else nope
def fnF (n : Nat) (F : List D → M D) (dd : List D) (fs : Rho → M (List D)) : Rho → M D := fun ρ => do
  let ds ← fs ρ
  callN n F (ds ++ dd)
theorem post_callN {n : Nat} {F : List D → M D} {ds : List D} {A : D → Pot → Prop} {B : Nat → D → Pot → Prop} {s : Pot} (h : Post A B (callN n F ds s)) : ds.length = n ∧ Post A B (F ds s) := by
  unfold callN at h
  split at h
  · exact ⟨by assumption, h⟩
  · exact h.elim
theorem ErrOk.back {B : Hp × Hp} {Hf1 H1 : Hp} {s1 s : Pot} {n : Nat} {v : D} (x : Ext W B.1 B.2 Hf1 H1 s1) (h : ErrOk W B E n v s) : ErrOk W (Hf1, H1) E n v s := fun dx u Hf' H' y => h dx u Hf' H' (x.trans y)
theorem je_call {x : Str} {lvl n : Nat} {dd : List D} {F : List D → M D} {es : List Expr} {fs : Rho → M (List D)} {p : Pos} (T : FnI c.G x lvl n dd F) (hl : lvl ≤ c.k) (ha : JA c Γ (e :: es) fs) (hg : c.sc.names.lookup x = some .globalImplicit)
    (he : ∀ env, starEach (e :: es) env = (false, eval e env) :: starEach es env := by intro _; rfl) (hpl : ∀ env, (backTo pos (starEach es env)).any (·.1) = false := by intro _; rfl) (hd : (x == ("__debug__" : Str)) = false := by decide) : JE c Γ (.Call (.Name x p) (e :: es) [] pos) (fnF n F dd fs) := by
  obtain ⟨f, fd, ps, dvs, ds, hm, hk, hps, hF, hb, hv, hat⟩ := T.ex
  obtain ⟨t, h1, h2⟩ := ha
  refine ⟨tCall (spOf c.G.K c.G.cls n F) dvs c.E t, fun X hX => ?_, fun B ρ s σ Hf H Q V p => ?_⟩
  · have hF' : FnOk X.prog X.w X.K X.mg X.base (L2.CX X.prog X.w) lvl f fd ps (spOf c.G.K c.G.cls n F) := by
      rw [hX.prog, hX.w, hX.K, hX.mg, hX.base]; exact hF
    exact pe_call hF' (hX.room.mono hl) (hX.gl hg) (by rw [hX.mg]; exact hm) (by rw [hX.K]; exact hk) (by rw [hX.K]; exact hb) hv hX.pass (h1 X hX) hd (he _) (hpl _)
  · unfold fnF at p
    rw [post_bind] at p
    refine h2 B ρ s σ Hf H _ V (p.imp (fun l s1 p1 vs Hf1 H1 x1 r1 => ?_) fun _ _ _ z => z)
    obtain ⟨hl, p2⟩ := post_callN p1
    have ra := r1.append (hat c.P Hf1)
    refine ⟨by rw [ra.len]; exact hl, c.P, Hf1, l ++ dd, s1, x1.refl, ra, ?_⟩
    exact p2.imp (fun d s2 k v Hf2 H2 x2 a2 => k v Hf2 H2 (x1.trans x2) a2) fun n v s2 z => z.back (V.ext.trans x1)
structure PropI (G : Glob) (ci : Nat) (m : Str) (lvl : Nat) (F : List D → M D) : Prop where
  sc : SlX.SCls G.K (G.cls ci)
  ex : ∃ p g, PySem.W.findIn G.K (.ref (G.cls ci)) m = some (some (.ref p)) ∧ PySem.W.specialIn G.K (.ref p) "__get__" = some (some (.builtin "property.__get__")) ∧ PySem.W.takesIn G.K (.ref p) = some true ∧ (∃ rest, PySem.W.recIn G.K p "property" = some (.ref g :: rest)) ∧
    FnR G.prog G.w G.K G.mg G.base (L2.CX G.prog G.w) lvl g (spOf G.K G.cls 1 F)
structure MethI (G : Glob) (ci : Nat) (m : Str) (lvl n : Nat) (dd : List D) (F : List D → M D) : Prop where
  sc : SlX.SCls G.K (G.cls ci)
  ex : ∃ g dvs, Meth G.K (G.cls ci) m g ∧ FnR G.prog G.w G.K G.mg G.base (L2.CX G.prog G.w) lvl g (fun vs H Q E => spOf G.K G.cls n F (vs ++ dvs) H Q E) ∧ (∀ P H, AtAll ⟨G.K, G.cls, P⟩ H dvs dd)
end
end VL
namespace VL
open PySem PySem.Spec PyProof.Rows L2
def tyD : D → Option String
  | .non => some "NoneType"
  | .bl _ => some "bool"
  | .int _ => some "int"
  | .str _ => some "str"
  | .tup _ => some "tuple"
  | .lst _ => some "list"
  | .dct _ => some "dict"
  | _ => none
def tyNames : List String := ["NoneType", "bool", "int", "str", "tuple", "list", "dict"]
section
variable {c : Ctx} {W : Wd} {E : XK} {Γ Γ' Γ'' Γl : Gam} {e a b d' o : Expr} {f fa fb fc fo : Rho → M D} {pos : Pos} {Hf H : Hp} {st : Stmt} {sts rest : List Stmt}
theorem tyX_of {K : PySem.W.Frag} {W : Wd} (hK : W.K = K) {v : V} {d : D} {t : String} (e : Same Hf H) (h : VAt W Hf H v d) (ht : tyD d = some t) : TyX K H v (.type t) := by
  subst hK
  cases h with
  | fr h =>
    cases h with
    | non => cases ht; exact .base .non
    | bl _ => cases ht; exact .base (.bl _)
    | int _ => cases ht; exact .base (.int _)
    | str _ => cases ht; exact .base (.str _)
    | tup g _ _ =>
      cases ht
      exact .base (.tup (e _ _ g))
    | lst g _ _ => cases ht; exact .base (.lst (e _ _ g))
    | dct g _ _ =>
      cases ht
      rcases Same.rd e g with g | ⟨o, g⟩
      · exact .base (.dK g)
      · exact .fDict g
    | obj _ _ => cases ht
    | exc _ _ _ => cases ht
    | pot => cases ht
    | tok _ => cases ht
    | vex _ => cases ht
    | dtt _ _ _ _ => cases ht
    | etu _ => cases ht
  | lst _ g _ _ => cases ht; exact .base (.lst g)
  | dct _ g _ _ => cases ht; exact .base (.dK g)
  | dtt _ g _ _ => cases ht
theorem tyD_mem {d : D} {t : String} (h : tyD d = some t) : t ∈ tyNames := by
  cases d <;> simp only [tyD, Option.some.injEq, reduceCtorEq] at h <;> subst h <;> decide
def rIsiA (K : PySem.W.Frag) (u : Value) : List V → Hp → VK → Prop := fun xs H Q => rIsi K xs H Q ∨ SlX.rIsiSl K u xs H Q
theorem cr_isi (u : Value) (X : Cx) (h : Is c X) : CallR X (.builtin "isinstance") (rIsiA c.W.K u) := by
  show CallR X _ (rIsiA c.G.K u)
  rw [← h.K]
  exact CallR.or call_isi (SlX.call_isiSl u)
def isiF (g : D → Option D) (f : Rho → M D) : Rho → M D := fun ρ => do opt (g (← f ρ))
end
end VL
namespace VL
open PySem PySem.Spec PyProof.Rows L2
def SqA (K : PySem.W.Frag) (tup : Bool) (H : Hp) (a : Addr) (xs : List V) : Prop := if tup = true then SqT K H a xs else SqL K H a xs
def Ite2 (K : PySem.W.Frag) (tup : Bool) (k0 : Int) (a : Addr) : It :=
  ⟨fun i H => ∃ (xs : List V) (x : V), SqA K tup H a xs ∧ xs[i]? = some x, fun i H v H' => ∃ T x, v = .ref T ∧ H T = none ∧ H' = upd H T (.tup [.int (k0 + (i : Nat)), x]) ∧ ∀ xs, SqA K tup H a xs → xs[i]? = some x, fun i H => ∃ xs : List V, SqA K tup H a xs ∧ xs.length ≤ i⟩
def HasIt (tup : Bool) (it a : Addr) (i : Nat) (h : Heap) : Prop := if tup = true then h.IsTupleIter it a i else h.IsListIter it a i
def HasSq (tup : Bool) (a : Addr) (its : Array Value) (h : Heap) : Prop := if tup = true then h.IsTuple a its else h.IsList a its
theorem HasIt.kept {tup : Bool} {it a : Addr} {i : Nat} {h h' : Heap} (x : HasIt tup it a i h) (k : ∀ o, h.get? it = some o → h'.get? it = some o) : HasIt tup it a i h' := by
  cases tup with
  | true => obtain ⟨o, ho, r⟩ := x; exact ⟨o, k o ho, r⟩
  | false => obtain ⟨o, ho, r⟩ := x; exact ⟨o, k o ho, r⟩
theorem HasIt.look {tup : Bool} {it a : Addr} {i : Nat} {h : Heap} (x : HasIt tup it a i h) : ∃ o, h.get? it = some o ∧ ∀ v, o.data ≠ .cell v := by
  cases tup with
  | true => obtain ⟨o, ho, hc, hd⟩ := x; exact ⟨o, ho, fun v q => by rw [hd] at q; cases q⟩
  | false => obtain ⟨o, ho, hc, hd⟩ := x; exact ⟨o, ho, fun v q => by rw [hd] at q; cases q⟩
theorem draws_sq {prog : Program} {w : World} {A : Around} (tup : Bool) (hh : A.handled = none) (it a : Addr) (hne : a ≠ it) (its : Array Value) :
    Draws prog w A it [it, a] its.size (fun i v => its[i]? = some v) (fun i h => HasIt tup it a i h ∧ HasSq tup a its h) := by
  cases tup with
  | true => exact Draws.tuple hh it a hne its
  | false => exact Draws.list hh it a hne its
theorem Inv.sq {X : Cx} {pins : List (Addr × Obj)} {σ : L2.St} {H : Hp} {s : Shared} {tup : Bool} {a : Addr} {xs : List V} (I : Inv X pins σ H s) (h : SqA X.K tup H a xs) : ∃ its : List Value, Vals xs its ∧ HasSq tup a its.toArray s.heap := by
  cases tup with
  | true => obtain ⟨its, rv, p, hz⟩ := I.tuple h; exact ⟨its, rv, p⟩
  | false => obtain ⟨its, rv, p, hz⟩ := I.list h; exact ⟨its, rv, p.isList⟩
theorem Inv.sq_inj {X : Cx} {pins : List (Addr × Obj)} {σ : L2.St} {H : Hp} {s : Shared} {tup : Bool} {a : Addr} {xs ys : List V} (I : Inv X pins σ H s) (h : SqA X.K tup H a xs) (h' : SqA X.K tup H a ys) : xs = ys := by
  cases tup with
  | true => exact I.tuple_inj h h'
  | false => exact I.list_inj h h'
theorem turn_enum2 {P : Program} {w : World} {K : PySem.W.Frag} {elts : List Expr} {kk : Nat} {tpos : Pos} (tup : Bool) (k0 : Int) (a e it : Addr) (hae : a ≠ e) (hai : a ≠ it) :
    Turn P w K (.Tuple elts kk tpos) (Ite2 K tup k0 a) [e, it] e (fun i h => (∃ old, IsEnum h e it (k0 + ((i : Nat) : Int)) old) ∧ HasIt tup it a i h ∧ e ≠ it) where
  mem := by simp
  obj := fun i h st b hb => by
    obtain ⟨⟨old, he⟩, hi, _⟩ := st
    have e' : b = e ∨ b = it := by simpa using hb
    rcases e' with z | z
    · rw [z]; exact ⟨_, he, fun v q => nomatch q⟩
    · rw [z]; exact hi.look
  keep := fun i h h' st k => let ⟨⟨old, he⟩, hi, hne⟩ := st; ⟨⟨old, k e (by simp) _ he⟩, hi.kept fun o q => k it (by simp) o q, hne⟩
  item := by
    intro X hP hw hK hc i pins s σ H E I hf st hg
    subst hP hw hK
    obtain ⟨⟨old, he⟩, hit, hne⟩ := st
    obtain ⟨xs, x, hq, hx⟩ := hg
    obtain ⟨its, rv, p⟩ := Inv.sq I hq
    obtain ⟨u, hu, ru⟩ := rv.get hx
    have hel : e < s.heap.objs.size := Heap.lt_size he
    have hil : it < s.heap.objs.size := by obtain ⟨_, q, _⟩ := hit.look; exact Heap.lt_size q
    have hi : i < its.toArray.size := by
      have := (List.getElem?_eq_some_iff.mp hu).1
      simpa using this
    refine wpAny_pyNext_enum_itemC (draws_sq (prog := X.prog) (w := X.w) (A := X.A.in1) tup (I.ok.hd hc) it a hai its.toArray) he ⟨hit, p⟩ hi hne (by simp; exact ⟨hne, fun z => hae z.symm⟩) fun y h' tk hy ho hst' hT hsz hk => ?_
    have e1 : y = u := by
      have hu' : its.toArray[i]? = some u := by simpa using hu
      rw [hu'] at hy
      cases hy; rfl
    subst e1
    refine ⟨_, rfl, wpAny_letOwnedTupleGo_enum (s := { s with heap := h', toks := tk + 1 }) ho fun h'' he' sb => ?_⟩
    have hT2 : h''.get? s.heap.objs.size = some { cls := .type "tuple", data := .seq #[.int (k0 + ((i : Nat) : Int)) tk, y] } := (sb.2 _ (Nat.ne_of_gt hel)).trans hT
    have new : ObjOk X.prog X.w (upd H s.heap.objs.size (.tup [.int (k0 + (i : Nat)), x])) h'' s.heap.objs.size (.tup [.int (k0 + (i : Nat)), x]) :=
      ⟨by show 2 ≤ sizeLine; decide, [.int (k0 + (i : Nat)) tk, y], .cons ⟨_, rfl⟩ (.cons ru .nil), ⟨_, hT2, rfl, _, rfl⟩⟩
    have I1 : Inv X pins σ (upd H s.heap.objs.size (.tup [.int (k0 + (i : Nat)), x])) { s with heap := h'', toks := tk + 1 } :=
      I.turnedNew (ch := [e, it]) (fun b ob hb q => (sb.2 b (fun z => hb (by simp [z]))).trans (hk b ob (fun z => hb (by simp [z])) (fun z => hb (by simp [z])) q)) hf (Nat.le_refl _) new
    refine ⟨.ref s.heap.objs.size, _, I1, rfl, ⟨_, x, rfl, I.hok.fresh (Nat.le_refl _), rfl, fun ys hy => by rw [Inv.sq_inj I hy hq]; exact hx⟩, ⟨⟨y, ?_⟩, hst'.1.kept fun o q => (sb.2 it (Ne.symm hne)).trans q, hne⟩, fun b hb => ?_⟩
    · have e1 : k0 + ((i + 1 : Nat) : Int) = k0 + (i : Int) + 1 := by omega
      rw [e1]; exact he'
    · have hb' : b < s.heap.objs.size := by
        have e' : b = e ∨ b = it := by simpa using hb
        rcases e' with z | z
        · rw [z]; exact hel
        · rw [z]; exact hil
      rw [upd_ne (Nat.ne_of_lt hb')]
      exact (hf b hb).1
  done := by
    intro X hP hw hK hc i pins s σ H E I hf st hg
    subst hP hw hK
    obtain ⟨⟨old, he⟩, hit, hne⟩ := st
    obtain ⟨xs, hq, hx⟩ := hg
    obtain ⟨its, rv, p⟩ := Inv.sq I hq
    obtain ⟨f0, f1, f2, f3, f4, f5⟩ := hf it (by simp)
    have hl := rv.length
    unfold pyNext
    have hT : s.TypeIs (.ref e) "enumerate" := ⟨_, he, rfl⟩
    refine wpAny_bind (wpAny_attempt (wpAny_callSpecial?_slot (name := Str.ofString "__next__") hT F.slot_enumerate_next
      (wpAny_call_entry F.slot_enumerate_next hT F.entry_enumerate_next ?_ (F.args_enumerate_next_1 _))))
    show wpAny _ _ (field (.ref e) 2 >>= _) _ _ _
    refine wpAny_bind (wpAny_field he rfl (x := .ref it) rfl ?_)
    cases tup with
    | true =>
      refine wpAny_bind (wpAny_nextOf_tuple_end (I.ok.hd hc) hit p (by simp; omega) fun h' x he' hx' => ?_)
      obtain ⟨o, ho, hcl⟩ := hx'
      refine wpAny_bind (wpAny_isInstance (T := "StopIteration") (b := true) ⟨o, ho, hcl⟩ isSubtype_stop ?_)
      exact wpAny_pure ⟨rfl, I.turned (t' := s.toks) (fun b o hb q => he' b o hb q) f0 f1 f3 f4 f5⟩
    | false =>
      refine wpAny_bind (wpAny_nextOf_list_end (I.ok.hd hc) hit p (by simp; omega) fun h' x he' hx' => ?_)
      obtain ⟨o, ho, hcl⟩ := hx'
      refine wpAny_bind (wpAny_isInstance (T := "StopIteration") (b := true) ⟨o, ho, hcl⟩ isSubtype_stop ?_)
      exact wpAny_pure ⟨rfl, I.turned (t' := s.toks) (fun b o hb q => he' b o hb q) f0 f1 f3 f4 f5⟩
  self := fun A i s Q E st h => let ⟨⟨_, he⟩, _⟩ := st; wpAny_pyIter_enum he h
def iEnum2 (K : PySem.W.Frag) (two : Bool) (ta : TA) : TI := fun σ H R => ta σ H fun vs H1 => ∃ tup k0 a xs, vs = (if two = true then [.ref a, .int k0] else [.ref a]) ∧ (two = false → k0 = 0) ∧ -(2 ^ 63) ≤ k0 ∧ k0 < 2 ^ 63 ∧ SqA K tup H1 a xs ∧ R (Ite2 K tup k0 a) H1
theorem meets_enumerate_newT (l : Addr) (items : Array Value) :
    Meets (Builtin.«enumerate.__new__» ⟨[.type "enumerate", .ref l], []⟩) (fun _ R s => s.heap.IsTuple l items ∧
      R (.ok (.ret (.ref (s.heap.push { cls := .type "tuple_iterator", data := .fields #[.ref l, .int 0 0] }).objs.size)))
        { s with heap := (s.heap.push { cls := .type "tuple_iterator", data := .fields #[.ref l, .int 0 0] }).push { cls := .type "enumerate", data := .fields #[.none, .bool false, .ref s.heap.objs.size, rawInt 0, .none, .none] } }) :=
  .of_wp fun prog w A R s h => by
    obtain ⟨hp, g, d, tk, os⟩ := s; obtain ⟨h1, h⟩ := h
    have hsub := sub_enumerate
    have q1 : ∀ {A' : Around} {E : Value → Shared → Prop} {Q : Value → Shared → Prop}, Q (.ref hp.objs.size) ⟨hp.push { cls := .type "tuple_iterator", data := .fields #[.ref l, .int 0 0] }, g, d, tk, os⟩ → wpAny (model prog w) A' (pyIter (.ref l)) Q E ⟨hp, g, d, tk, os⟩ :=
      fun q => wpAny_pyIter_tuple h1 q
    wp_walk using q1
    refine wpAny_stack_any fun st => wpAny_pure ?_
    split
    · rename_i c _ _ _ _ _
      cases (c == Value.type "enumerate")
      · wp_walk using q1
        exact ⟨_, rfl, h⟩
      · wp_walk using q1
        exact ⟨_, rfl, h⟩
    · wp_walk using q1
      exact ⟨_, rfl, h⟩
theorem call_enumerate_tuple {prog : Program} {w : World} {A : Around} {E : Value → Shared → Prop} {s : Shared} {l : Addr} {items : Array Value} {Q : Value → Shared → Prop} (hL : s.heap.IsTuple l items)
    (h : ∀ h', IsEnum h' (s.heap.objs.size + 1) s.heap.objs.size 0 .none → h'.IsTupleIter s.heap.objs.size l 0 → h'.objs.size = s.heap.objs.size + 2 →
      (∀ b o, s.heap.get? b = some o → h'.get? b = some o) → Q (.ref (s.heap.objs.size + 1)) { s with heap := h' }) :
    wpAny (model prog w) A (call (.type "enumerate") [.ref l]) Q E s := by
  refine callType_new F.called_enumerate (by decide) (F.typeCall_enumerate_1 _) (F.newCall_enumerate_1 _) (fun obj => F.args_object_init_2 obj _) F.entry_enumerate_new
    (meets_enumerate_newT l items) ⟨hL, ?_⟩
  have hz : (s.heap.push { cls := .type "tuple_iterator", data := .fields #[.ref l, .int 0 0] }).objs.size = s.heap.objs.size + 1 := Heap.size_push ..
  show _ ∧ _
  rw [hz]
  have he : IsEnum ((s.heap.push { cls := .type "tuple_iterator", data := .fields #[.ref l, .int 0 0] }).push
      { cls := .type "enumerate", data := .fields #[.none, .bool false, .ref s.heap.objs.size, rawInt 0, .none, .none] }) (s.heap.objs.size + 1) s.heap.objs.size 0 .none := by
    have := Heap.get?_push_size (s.heap.push { cls := .type "tuple_iterator", data := .fields #[.ref l, .int 0 0] })
      (o := { cls := .type "enumerate", data := .fields #[.none, .bool false, .ref s.heap.objs.size, rawInt 0, .none, .none] }) rfl
    rw [hz] at this; exact this
  refine ⟨⟨_, he, rfl⟩, h _ he ⟨_, Heap.get?_push_of_some _ (Heap.get?_push_size _ rfl), rfl, rfl⟩ (by rw [Heap.size_push, hz]) fun b o x => Heap.get?_push_of_some _ (Heap.get?_push_of_some _ x)⟩
theorem enum1_begins {prog : Program} {w : World} {A : Around} {E : Value → Shared → Prop} {s : Shared} {tup : Bool} {a : Addr} {its : Array Value} {Q : Value → Shared → Prop} (h1 : HasSq tup a its s.heap)
    (h : ∀ h', IsEnum h' (s.heap.objs.size + 1) s.heap.objs.size 0 .none → HasIt tup s.heap.objs.size a 0 h' →
      (∀ b o, s.heap.get? b = some o → h'.get? b = some o) → Q (.ref (s.heap.objs.size + 1)) { s with heap := h' }) :
    wpAny (model prog w) A (call (.type "enumerate") [.ref a]) Q E s := by
  cases tup with
  | false => exact call_enumerate_list h1 fun h' e1 e2 _ e3 => h h' e1 e2 e3
  | true => exact call_enumerate_tuple h1 fun h' e1 e2 _ e3 => h h' e1 e2 e3
theorem hasSq_lt {tup : Bool} {a : Addr} {its : Array Value} {h : Heap} (x : HasSq tup a its h) : a < h.objs.size := by
  cases tup with
  | false => obtain ⟨o, ho, _⟩ := x; exact Heap.lt_size ho
  | true => obtain ⟨o, ho, _⟩ := x; exact Heap.lt_size ho
theorem enum_pie {X : Cx} {pins : List (Addr × Obj)} {s1 : Shared} {σ : L2.St} {H1 : Hp} {R : It → Hp → Prop} {elts : List Expr} {kk : Nat} {tpos : Pos} {tup : Bool} {k0 : Int} {a : Addr} {xs : List V} {its : Array Value} {h' : Heap} (I1 : Inv X pins σ H1 s1) (hsq : HasSq tup a its s1.heap)
    (he : IsEnum h' (s1.heap.objs.size + 1) s1.heap.objs.size k0 .none) (hit : HasIt tup s1.heap.objs.size a 0 h') (hk : ∀ b o, s1.heap.get? b = some o → h'.get? b = some o) (q : R (Ite2 X.K tup k0 a) H1) :
    wpAny (model X.prog X.w) X.A (pyIter (.ref (s1.heap.objs.size + 1))) (PIE X pins σ (.Tuple elts kk tpos) R) X.xe { s1 with heap := h' } := by
  have hlt := hasSq_lt hsq
  have I2 : Inv X pins σ H1 { s1 with heap := h' } := I1.kept (t' := s1.toks) hk
  refine wpAny_pyIter_enum he ⟨s1.heap.objs.size + 1, [s1.heap.objs.size + 1, s1.heap.objs.size], _, _, H1, rfl, I2, turn_enum2 tup k0 a (s1.heap.objs.size + 1) s1.heap.objs.size (fun z => by rw [z] at hlt; exact absurd hlt (Nat.not_lt.mpr (Nat.le_succ _))) (Nat.ne_of_lt hlt), ⟨⟨.none, by simpa using he⟩, hit, Nat.succ_ne_self _⟩, fun b hb => ?_, q⟩
  have e' : b = s1.heap.objs.size + 1 ∨ b = s1.heap.objs.size := by simpa using hb
  have hle : s1.heap.objs.size ≤ b := by
    rcases e' with z | z
    · rw [z]; exact Nat.le_add_right _ _
    · rw [z]; exact Nat.le_refl _
  exact I1.fpOk hle (I1.hok.fresh hle)
theorem pi_enum1 {X : Cx} {e : Expr} {ta : TA} {p pos tpos : Pos} {elts : List Expr} {kk : Nat} (hg : Gl X "enumerate") (hm : X.mg "enumerate" = none) (ha : PA X [e] ta) (hs : starEach [e] X.env = [(false, eval e X.env)]) :
    PI X (.Tuple elts kk tpos) (.Call (.Name "enumerate" p) [e] [] pos) (iEnum2 X.K false ta) := by
  refine ⟨fun pins s σ H R I h => ?_⟩
  refine Call_ (ld_blt I hg hm boot_enumerate (PyProof.Rows.callWith_type1 (thn (ha.run pos pins s σ H _ I h) fun us s1 ⟨vs, H1, I1, r1, q1⟩ => ?_) hs rfl))
  obtain ⟨tup, k0, a, xs, ex, h0, _, _, hq, q⟩ := q1
  simp only [Bool.false_eq_true, if_false] at ex
  subst ex
  cases h0 rfl
  obtain ⟨u, rfl, r⟩ := r1.one
  cases r
  obtain ⟨its, rv, p'⟩ := Inv.sq I1 hq
  exact enum1_begins p' fun h' he hit hk => enum_pie (xs := xs) I1 p' he hit hk q
section
variable {c : Ctx} {W : Wd} {E : XK} {Γ Γ' Γ'' Γl : Gam} {e a b d' o : Expr} {f fa fb fc fo : Rho → M D} {pos : Pos} {Hf H : Hp} {st : Stmt} {sts rest : List Stmt}
def enumL (k0 : Int) : List D → List D
  | [] => []
  | d :: r => .tup [.int k0, d] :: enumL (k0 + 1) r
theorem enumL_len : ∀ (l : List D) (k0 : Int), (enumL k0 l).length = l.length
  | [], _ => rfl
  | _ :: r, k0 => by simp [enumL, enumL_len r]
theorem enumL_get : ∀ (l : List D) (k0 : Int) (i : Nat) (z : D), (enumL k0 l)[i]? = some z → ∃ d, l[i]? = some d ∧ z = .tup [.int (k0 + i), d]
  | [], _, i, z, h => by simp [enumL] at h
  | d :: r, k0, 0, z, h => by simp [enumL] at h; exact ⟨d, by simp, by rw [← h]; simp⟩
  | d :: r, k0, i + 1, z, h => by
    simp only [enumL, List.getElem?_cons_succ] at h
    obtain ⟨d', h1, h2⟩ := enumL_get r (k0 + 1) i z h
    refine ⟨d', by simpa using h1, ?_⟩
    rw [h2]
    have : k0 + 1 + (i : Int) = k0 + ((i + 1 : Nat) : Int) := by omega
    rw [this]
theorem ite2_okF {tup : Bool} {k0 : Int} {q : Addr} {xs : List V} {ds : List D} (K : ∀ Hf1 H1 s1, Same Hf Hf1 → Ext W Hf1 H1 Hf1 H1 s1 → SqA W.K tup H1 q xs) (ha : AtAll W Hf xs ds) : ItF W (Ite2 W.K tup k0 q) Hf (enumL k0 ds) := by
  intro i Hf1 H1 s1 hs x
  have hq := K Hf1 H1 s1 hs x
  refine ⟨fun h => ⟨xs, hq, by rw [ha.len]; rw [enumL_len] at h; exact h⟩, fun d hd => ?_⟩
  obtain ⟨d0, h1, rfl⟩ := enumL_get _ _ _ _ hd
  obtain ⟨y, e1, a1⟩ := ha.get' h1
  refine ⟨⟨xs, y, hq, e1⟩, fun z H2 ⟨T, x0, e2, e3, e4, h2⟩ => ?_⟩
  subst e2 e4
  have e5 := h2 xs hq
  rw [e1] at e5
  cases e5
  refine ⟨upd Hf1 T _, x.newF e3, .tup upd_same (by simp; decide) (.cons (.int _) (.cons (a1.mono (hs.trans ?_)) .nil))⟩
  exact (x.newF (o := .tup [.int (k0 + (i : Nat)), y]) e3).ff
end
end VL
namespace VL
open PySem PySem.Spec PyProof.Rows L2
section
variable {c : Ctx} {W : Wd} {E : XK} {Γ Γ' Γ'' Γl : Gam} {e a b d' o : Expr} {f fa fb fc fo : Rho → M D} {pos : Pos} {Hf H : Hp} {st : Stmt} {sts rest : List Stmt}
theorem seq_atF {v : V} {d : D} {l : List D} (h : At W Hf v d) (hl : seqOf d = some l) : ∃ tup q xs, v = .ref q ∧ SqA W.K tup Hf q xs ∧ xs.length ≤ sizeLine ∧ AtAll W Hf xs l ∧ (∀ Hf1 H1, Same Hf Hf1 → Same Hf1 H1 → SqA W.K tup H1 q xs) := by
  cases h with
  | lst g1 g2 g3 => cases hl; exact ⟨false, _, _, rfl, SqL.of g1, g2, g3, fun Hf1 H1 x y => SqL.of (y _ _ (x _ _ g1))⟩
  | tup g1 g2 g3 => have g1 := sq_of (K := W.K) g1; cases hl; exact ⟨true, _, _, rfl, g1, g2, g3, fun Hf1 H1 x y => Same.sqT y (Same.sqT x g1)⟩
  | _ => cases hl
theorem VAll.atAll1 {xs : List V} {d : D} (h : AtAll W Hf xs [d]) : ∃ x, xs = [x] ∧ At W Hf x d := by
  cases h with
  | cons a r => cases r; exact ⟨_, rfl, a⟩
theorem At.int' {v : V} {i : Int} (h : At W H v (.int i)) : v = .int i := by cases h; rfl
def enumD1 (ds : List D) : Option (List D) := match ds with
  | [d] => (seqOf d).map (enumL 0)
  | _ => none
theorem ji_enum1 {elts : List Expr} {kk : Nat} {tpos p : Pos} {fs : Rho → M (List D)} (ha : JA c Γ [a] fs) (hg : c.sc.names.lookup ("enumerate" : Str) = some .globalImplicit) (hm : c.G.mg "enumerate" = none) (hs : ∀ env, starEach [a] env = [(false, eval a env)] := by intro _; rfl) :
    JI c Γ (.Tuple elts kk tpos) (.Call (.Name "enumerate" p) [a] [] pos) (rngF enumD1 fs) := by
  obtain ⟨t, h1, h2⟩ := ha
  refine ⟨iEnum2 c.W.K false t, fun X hX => by have q := pi_enum1 (elts := elts) (kk := kk) (tpos := tpos) (p := p) (pos := pos) (hX.gl hg) (by rw [hX.mg]; exact hm) (h1 X hX) (hs _); rw [hX.K] at q; exact q, fun B ρ s σ Hf H R V p => ?_⟩
  unfold rngF at p
  rw [post_bind] at p
  refine h2 B ρ s σ Hf H _ V (p.imp (fun d s1 p1 v Hf1 H1 x1 r1 => ?_) fun _ _ _ z => z)
  rw [post_opt] at p1
  obtain ⟨l, hl, k⟩ := p1
  unfold enumD1 at hl
  split at hl
  · obtain ⟨m, hm, rfl⟩ := Option.map_eq_some_iff.mp hl
    obtain ⟨x, rfl, hx⟩ := VAll.atAll1 r1
    obtain ⟨tup, q, xs, rfl, e1, e2, e3, e4⟩ := seq_atF hx hm
    refine ⟨tup, 0, q, xs, rfl, fun _ => rfl, by decide, by decide, e4 _ _ (fun _ _ z => z) x1.fh, k _ _ _ x1 (by rw [enumL_len, ← e3.len]; exact e2) (ite2_okF (fun Hf2 H2 s2 z1 z2 => e4 _ _ z1 z2.fh) e3)⟩
  · cases hl
theorem AtAll.erase : ∀ {v : List V} {d : List D} (n : Nat), AtAll W H v d → AtAll W H (v.eraseIdx n) (d.eraseIdx n)
  | _, _, _, .nil => by simp; exact .nil
  | _, _, 0, .cons _ r => by simpa using r
  | _, _, n + 1, .cons h r => by simp only [List.eraseIdx_cons_succ]; exact .cons h (r.erase n)
end
end VL
namespace VL
open PySem PySem.Spec PyProof.Rows L2
section
variable {c : Ctx} {W : Wd} {E : XK} {Γ Γ' Γ'' Γl : Gam} {e a b d' o : Expr} {f fa fb fc fo : Rho → M D} {pos : Pos} {Hf H : Hp} {st : Stmt} {sts rest : List Stmt}
theorem jfd_empty : JFd c Γ (.Dict [] [] pos) (fun _ => pure (.dct [])) :=
  ⟨tDNewK, fun X hX => pe_dnewK, fun B ρ s σ Hf H Q V p D0 hD0 => by
    obtain ⟨y0, nf0, nP0⟩ := V.ext0.newU (o := .dK []) hD0
    exact p _ _ _ y0 ⟨D0, [], [], rfl, rfl, hD0, nf0, nP0, upd_same, Nat.zero_le _, .nil⟩⟩
end
end VL
namespace VL
open PySem PySem.Spec PyProof.Rows L2
def Le {α : Type} (m' m : M α) : Prop := ∀ s, match m' s with
  | .fail => True
  | r => m s = r
theorem Le.post {α : Type} {m' m : M α} (h : Le m' m) {A : α → Pot → Prop} {B : Nat → D → Pot → Prop} {s : Pot} (p : Post A B (m' s)) : Post A B (m s) := by
  have := h s
  cases e : m' s with
  | ok a s' => rw [e] at this p; dsimp only at this; rw [this]; exact p
  | err c v s' => rw [e] at this p; dsimp only at this; rw [this]; exact p
  | fail => rw [e] at p; exact p.elim
theorem Le.refl {α : Type} (m : M α) : Le m m := fun s => by cases m s <;> first | trivial | rfl
theorem Le.of_eq {α : Type} {m' m : M α} (h : m' = m) : Le m' m := h ▸ Le.refl _
theorem Le.nope {α : Type} {m : M α} : Le (nope : M α) m := fun s => True.intro
theorem spOf_imp {K : PySem.W.Frag} {cls : Nat → Addr} {n : Nat} {F F' : List D → M D} (h : ∀ ds, Le (F' ds) (F ds)) {vs : List V} {H : Hp} {Q : VK} {E : XK} (p : spOf K cls n F' vs H Q E) : spOf K cls n F vs H Q E := by
  obtain ⟨hl, P, Hf, ds, s, x, ha, q⟩ := p
  exact ⟨hl, P, Hf, ds, s, x, ha, (h ds).post q⟩
theorem FnI.imp {G : Glob} {x : Str} {lvl n : Nat} {dd : List D} {F F' : List D → M D} (T : FnI G x lvl n dd F) (h : ∀ ds, Le (F' ds) (F ds)) : FnI G x lvl n dd F' := by
  obtain ⟨f, fd, ps, dvs, ds, e1, e2, e3, e4, e5, e6, e7⟩ := T.ex
  exact ⟨f, fd, ps, dvs, ds, e1, e2, e3, e4.imp fun vs H Q E p => spOf_imp h p, e5, e6, e7⟩
theorem PropI.imp {G : Glob} {ci : Nat} {m : Str} {lvl : Nat} {F F' : List D → M D} (T : PropI G ci m lvl F) (h : ∀ ds, Le (F' ds) (F ds)) : PropI G ci m lvl F' := by
  obtain ⟨p, g, e1, e2, e3, e4, e5⟩ := T.ex
  exact ⟨T.sc, p, g, e1, e2, e3, e4, e5.imp fun vs H Q E p => spOf_imp h p⟩
theorem MethI.imp {G : Glob} {ci : Nat} {m : Str} {lvl n : Nat} {dd : List D} {F F' : List D → M D} (T : MethI G ci m lvl n dd F) (h : ∀ ds, Le (F' ds) (F ds)) : MethI G ci m lvl n dd F' := by
  obtain ⟨g, dvs, e1, e2, e3⟩ := T.ex
  exact ⟨T.sc, g, dvs, e1, e2.imp fun vs H Q E p => spOf_imp h p, e3⟩
end VL
namespace VL
open PySem PySem.Spec PyProof.Rows L2
inductive FldAt (W : Wd) (Hf : Hp) : List (Option V) → List (Option D) → Prop
  | nil : FldAt W Hf [] []
  | no {xs : List (Option V)} {fs : List (Option D)} (r : FldAt W Hf xs fs) : FldAt W Hf (Option.none :: xs) (Option.none :: fs)
  | ye {v : V} {d : D} {xs : List (Option V)} {fs : List (Option D)} (h : At W Hf v d) (r : FldAt W Hf xs fs) : FldAt W Hf (Option.some v :: xs) (Option.some d :: fs)
def putF (i : Nat) (d : D) (fs : List (Option D)) : List (Option D) := (fs ++ List.replicate (i + 1 - fs.length) Option.none).set i (some d)
section
variable {W : Wd} {Hf Hf' H H' : Hp}
theorem FldAt.mono (e : Same Hf Hf') : ∀ {xs : List (Option V)} {fs : List (Option D)}, FldAt W Hf xs fs → FldAt W Hf' xs fs
  | _, _, .nil => .nil
  | _, _, .no r => .no (r.mono e)
  | _, _, .ye h r => .ye (h.mono e) (r.mono e)
theorem FldAt.len : ∀ {xs : List (Option V)} {fs : List (Option D)}, FldAt W Hf xs fs → xs.length = fs.length
  | _, _, .nil => rfl
  | _, _, .no r => by simp [r.len]
  | _, _, .ye h r => by simp [r.len]
theorem FldAt.pad : ∀ {xs : List (Option V)} {fs : List (Option D)} (n : Nat), FldAt W Hf xs fs → FldAt W Hf (xs ++ List.replicate n Option.none) (fs ++ List.replicate n Option.none)
  | _, _, 0, .nil => .nil
  | _, _, n + 1, .nil => by
    have := FldAt.pad n (FldAt.nil (W := W) (Hf := Hf))
    exact .no this
  | _, _, n, .no r => .no (r.pad n)
  | _, _, n, .ye h r => .ye h (r.pad n)
theorem FldAt.set {v : V} {d : D} (h : At W Hf v d) : ∀ {xs : List (Option V)} {fs : List (Option D)} (i : Nat), FldAt W Hf xs fs → FldAt W Hf (xs.set i (some v)) (fs.set i (some d))
  | _, _, _, .nil => .nil
  | _, _, 0, .no r => .ye h r
  | _, _, 0, .ye _ r => .ye h r
  | _, _, i + 1, .no r => .no (r.set h i)
  | _, _, i + 1, .ye z r => .ye z (r.set h i)
theorem FldAt.put {v : V} {d : D} (h : At W Hf v d) {xs : List (Option V)} {fs : List (Option D)} (i : Nat) (r : FldAt W Hf xs fs) : FldAt W Hf (SlX.putS i v xs) (putF i d fs) := by
  unfold SlX.putS putF
  rw [r.len]
  exact (r.pad _).set h i
def allF : List (Option D) → Option (List D)
  | [] => some []
  | some d :: r => (allF r).map (d :: ·)
  | none :: _ => none
theorem FldAt.all : ∀ {xs : List (Option V)} {fs : List (Option D)} {ds : List D}, FldAt W Hf xs fs → allF fs = some ds → ∃ vs, xs = vs.map some ∧ AtAll W Hf vs ds
  | _, _, _, .nil, h => by cases h; exact ⟨[], rfl, .nil⟩
  | _, _, _, .no r, h => by cases h
  | _, _, _, .ye z r, h => by
    unfold allF at h
    obtain ⟨m, hm, rfl⟩ := Option.map_eq_some_iff.mp h
    obtain ⟨vs, e, k⟩ := r.all hm
    exact ⟨_ :: vs, by rw [e]; rfl, .cons z k⟩
end
structure InitAt (W : Wd) (B : Hp × Hp) (ci n : Nat) (ρ : Rho) (fs : List (Option D)) (s : Pot) (σ : L2.St) (Hf H : Hp) : Prop where
  ex : ∃ a dx xs, ρ[0]? = some (some (.tok a)) ∧ B.2 a = none ∧ B.2 dx = none ∧ a ≠ W.P ∧ dx ≠ W.P ∧ dx ≠ a ∧ Hf a = none ∧ Hf dx = none ∧ SlX.Slt H a (W.cls ci) dx xs ∧ FldAt W Hf xs fs ∧ (∃ o, H a = some o ∧ NoT o) ∧ (∃ o, H dx = some o ∧ NoT o)
  ext : Ext W B.1 B.2 Hf H s
  env : EnvAt W (Hf, H) (gam0 n) ρ s σ Hf H
section
variable {c : Ctx} {W : Wd} {E : XK} {Γ Γ' Γ'' Γl : Gam} {e a b d' o : Expr} {f fa fb fc fo : Rho → M D} {pos : Pos} {Hf H : Hp} {st : Stmt} {sts rest : List Stmt} {n ci : Nat}
theorem env_all {B : Hp × Hp} {ρ : Rho} {s : Pot} {σ : L2.St} (V : EnvAt W B (gam0 n) ρ s σ Hf H) : ∀ (i : Nat) (d : D), ρ[i]? = some (some d) → ∃ v, σ[i]? = some (some v) ∧ At W Hf v d := fun i d e => by
  obtain ⟨ow, g1, g2⟩ := V.own
  obtain ⟨v, e1, z⟩ := g1 i d e
  rw [getD_rep] at z
  exact ⟨v, e1, z⟩
theorem env_mk {ρ : Rho} {s : Pot} {σ : L2.St} (x : Ext W Hf H Hf H s) (hl : σ.length = ρ.length) (h : ∀ (i : Nat) (d : D), ρ[i]? = some (some d) → ∃ v, σ[i]? = some (some v) ∧ At W Hf v d) : EnvAt W (Hf, H) (gam0 n) ρ s σ Hf H :=
  ⟨x, hl, fun _ => none, fun i d e => by obtain ⟨v, e1, z⟩ := h i d e; exact ⟨v, e1, by rw [getD_rep]; exact z⟩, fun q i e => nomatch e⟩
end
end VL
namespace VL
open PySem PySem.Spec PyProof.Rows L2
def visB (sc : Scope) (x : Str) : Bool := match sc.names.lookup x with
  | some .local => true
  | some .cell => true
  | some .free => true
  | _ => false
theorem vis_of {sc : Scope} {x : Str} (h : visB sc x = true) : Vis sc x := by
  unfold visB at h
  unfold Vis
  split at h
  · rename_i e; exact .inl e
  · rename_i e; exact .inr (.inl e)
  · rename_i e; exact .inr (.inr e)
  · cases h
def locB (sc : Scope) (x : Str) : Bool := match sc.names.lookup x with
  | some .local => true
  | some .cell => true
  | _ => false
theorem loc_of {sc : Scope} {x : Str} (h : locB sc x = true) : L2.Loc sc x := by
  unfold locB at h
  unfold L2.Loc
  split at h
  · rename_i e; exact .inl e
  · rename_i e; exact .inr e
  · cases h
def blkB (N : List Str) (sc scope : Scope) (own : List (Str × Nat)) : Bool :=
  decide (scope.kind = .function) && scope.names.all (fun y => decide (scope.names.lookup y.1 = some y.2)) && own.all (fun p => decide (N[p.2]? = some p.1)) &&
  scope.names.all (fun y => decide (y.2 ≠ .free) || decide (sc.names.lookup y.1 = some .cell) || decide (sc.names.lookup y.1 = some .free)) &&
  scope.names.all (fun y => (decide (y.2 ≠ .local) && decide (y.2 ≠ .cell)) || decide (y.1 ∈ own.map (·.1)) || decide (y.1 ∉ N))
theorem blk_of {N : List Str} {sc scope : Scope} {own : List (Str × Nat)} (h : blkB N sc scope own = true) : BlkOk N sc scope own := by
  simp only [blkB, Bool.and_eq_true, List.all_eq_true, Bool.or_eq_true, decide_eq_true_eq] at h
  obtain ⟨⟨⟨⟨h1, h2⟩, h3⟩, h4⟩, h5⟩ := h
  refine ⟨h1, h2, h3, fun y hy hf => ?_, fun y hy hl => ?_⟩
  · rcases h4 y hy with (a | a) | a
    · exact absurd hf a
    · exact .inl a
    · exact .inr a
  · rcases h5 y hy with (⟨a, b⟩ | a) | a
    · rcases hl with hl | hl
      · exact absurd hl a
      · exact absurd hl b
    · exact .inl a
    · exact .inr a
section
variable {c : Ctx} {Γ : Gam} {e o : Expr} {f fo : Rho → M D} {pos : Pos} {n ci i : Nat}
end
end VL
namespace VL
open PySem PySem.Spec PyProof.Rows L2
theorem def_okD {G : Glob} {x qual : Str} {params : Arguments} {bdy : List Stmt} {scope : Scope} {dvs : List V} {kws : List (Str × V)} {f : Addr} {fd : FuncData} {N ps : List Str} {k n : Nat} {Γ' Γl : Gam} {body : Rho → M Fl} (F : FunD G.K x qual params bdy scope dvs kws f fd) (S : FnScope N ps scope) (hn : N.length = n) (h : ∀ P E, JSs (ctxOf G N scope k P E) (gam0 n) Γ' Γl bdy body) (hps : ps.length ≤ N.length) :
    FnOk G.prog G.w G.K G.mg G.base (L2.CX G.prog G.w) (k + 1) f fd ps (spOf G.K G.cls ps.length (runD n body)) := by
  subst hn
  refine F.ok (CX := L2.CX G.prog G.w) S (fun vs H Q E h => h.1) (fun cdv A outer s H vs Q E hr hsp => ?_)
  obtain ⟨hl, P, Hf, ds, s0, x, ha, p⟩ := hsp
  obtain ⟨t, h1, h2⟩ := h P E
  refine ⟨t, h1 _ (is_def S hr), h2 (Hf, H) (rho0 N.length ds) s0 (L2.start N vs) Hf H _ (env_start x ha (by omega)) ?_⟩
  unfold runD at p
  rw [post_bind] at p
  refine p.imp (fun z s1 k => ?_) fun _ _ _ z => z
  cases z with
  | nx ρ' => exact fun σ' Hf' H' V => k .non _ _ V.ext .non
  | rt d => exact fun v Hf' H' y a => k v _ _ y a
  | bk _ => exact k.elim
  | ct _ => exact k.elim
section
variable {G : Glob} {x : Str} {lvl n : Nat} {dd : List D} {F : List D → M D} {f g p : Addr} {fd : FuncData} {ps : List Str} {dvs : List V} {ds : List Value} {ci : Nat} {m : Str}
theorem fnI_mk (o : FnOk G.prog G.w G.K G.mg G.base (L2.CX G.prog G.w) lvl f fd ps (spOf G.K G.cls n F)) (hm : G.mg x = some (.ref f)) (kp : PySem.W.keepIn G.K (.ref f) = true) (hn : ps.length = n) (b : Binds G.K fd ps ds) (v : Vals dvs ds) (ha : ∀ P H, AtAll ⟨G.K, G.cls, P⟩ H dvs dd) : FnI G x lvl n dd F :=
  ⟨f, fd, ps, dvs, ds, hm, kp, hn, o, b, v, ha⟩
end
section
variable {P : Program} {w : World} {K : PySem.W.Frag} {mg : Str → Option Value} {base : Heap} {f : Addr} {fd : FuncData} {pa : Arguments} {bd : List Stmt} {sc : Scope} {dvs : List V} {kws : List (Str × V)}
theorem vis_par' {N ps : List Str} (S : FnScope N ps sc) {x : Str} (h : x ∈ ps) : Vis sc x := by
  rcases S.par x h with h | h
  · exact .inl h
  · exact .inr (.inl h)
abbrev cellsB (p1 p2 p3 p4 p5 p6 p7 p8 p9 p10 p11 p12 p13 p14 : Pos) (k0 : Nat) : List Stmt :=
  [.Return (some (.Call (.Name "list" p1) [.Call (.Name "range" p2) [.Call (.Name "max" p3) [.Constant (.int 1) k0 p4, .Call (.Name "min" p5) [.Name "_law_limit" p6, .Call (.Name "len" p7) [.Name "_law_script" p8] [] p9] [] p10] [] p11] [] p12] [] p13)) p14]
def cellsN (lim : Int) (n : Nat) : Int := let m := if (n : Int) < lim then (n : Int) else lim; if m > 1 then m else 1
def spCells (K : PySem.W.Frag) : Sp := fun vs H Q _ => ∃ (l : Addr) (ns : List Int) (lim : Int), vs = [.ref l, .int lim] ∧ SqL K H l (ns.map V.int) ∧ ns.length ≤ 63 ∧ lim ≤ 1000 ∧ ∀ q, H q = none → Q (.ref q) (upd H q (.lst (rgV 0 (cellsN lim ns.length))))
theorem ok_cells {p1 p2 p3 p4 p5 p6 p7 p8 p9 p10 p11 p12 p13 p14 : Pos} {k0 : Nat} {CX : CXT} (F : FunD K "_law_cells" "_law_cells" pa bd sc dvs kws f fd) (S : FnScope ["_law_script", "_law_limit"] ["_law_script", "_law_limit"] sc) (hb : bd = cellsB p1 p2 p3 p4 p5 p6 p7 p8 p9 p10 p11 p12 p13 p14 k0)
    (g1 : sc.names.lookup ("list" : Str) = some .globalImplicit) (g2 : sc.names.lookup ("range" : Str) = some .globalImplicit) (g3 : sc.names.lookup ("max" : Str) = some .globalImplicit) (g4 : sc.names.lookup ("min" : Str) = some .globalImplicit) (g5 : sc.names.lookup ("len" : Str) = some .globalImplicit)
    (m1 : mg "list" = none) (m2 : mg "range" = none) (m3 : mg "max" = none) (m4 : mg "min" = none) (m5 : mg "len" = none) : FnOk P w K mg base CX 1 f fd ["_law_script", "_law_limit"] (spCells K) := by
  subst hb
  refine F.ok (CX := CX) S (fun vs H Q E h => ?_) (fun cdv A outer s H vs Q E hr h => ?_)
  · obtain ⟨l, ns, lim, rfl, _⟩ := h; rfl
  · obtain ⟨l, ns, lim, rfl, hs, hl, hlim, q⟩ := h
    refine ⟨_, pss_one (ps_ret (pe_listRg rfl g1 m1 (prg_1 g2 m2 (pe_callB (call_max2 rfl) g3 m3 boot_max (pa_cons pe_int (pa_cons (pe_callB (call_min2 rfl) g4 m4 boot_min (pa_cons (pe_var (i := 1) rfl (vis_par' S (by simp))) (pa_cons (pe_callB call_len g5 m5 boot_len (pa_cons (pe_var (i := 0) rfl (vis_par' S (by simp))) pa_nil)) pa_nil))) pa_nil)))))), ?_⟩
    refine ⟨_, rfl, _, rfl, _, _, rfl, .inl ⟨_, hs, rfl⟩, _, _, rfl, _, _, rfl, _, rfl, ?_, fun z hz => ?_⟩
    · rw [List.length_map]
      refine RgOk.of_le (by decide) ?_ (by decide) ?_
      · split <;> split <;> omega
      · split <;> omega
    · have := q z hz
      rw [List.length_map]
      exact this
end
end VL
namespace VL
open PySem PySem.Spec PyProof.Rows L2
theorem op_powW {X : Cx} : OpR X (binaryOp .Pow) (rI (fun i j => 0 ≤ j ∧ (Builtin.Int.intBits i : Int) * j ≤ 2 ^ 27) fun i j => .int (i ^ j.toNat)) := opI fun _ _ _ _ _ _ _ hc q => pow_int hc.1 hc.2 q
section
variable {P : Program} {w : World} {K : PySem.W.Frag} {mg : Str → Option Value} {base : Heap} {f : Addr} {fd : FuncData} {pa : Arguments} {bd : List Stmt} {sc : Scope} {dvs : List V} {kws : List (Str × V)}
abbrev potB (p1 p2 p3 p4 p5 p6 p7 p8 p9 p10 p11 p12 p13 p14 p15 p16 p17 p18 p19 p20 p21 p22 p23 p24 p25 p26 p27 p28 p29 p30 p31 p32 p33 p34 p35 p36 p37 p38 p39 p40 p41 p42 p43 p44 p45 p46 p47 p48 p49 p50 p51 p52 p53 p54 p55 p56 p57 p58 p59 p60 p61 p62 p63 p64 p65 : Pos) (k1 k2 k3 k4 k5 k6 k7 k8 k9 k10 k11 k12 k13 : Nat) (c1 c2 c3 : Int) : List Stmt :=
  [.Assign [.Name "_law_cell" p1] (.IfExp (.Compare (.Name "_law_place" p2) [.Lt] [.Call (.Name "len" p3) [.Name "_law_script" p4] [] p5] p6) (.Subscript (.Name "_law_script" p7) (.Name "_law_place" p8) p9)
     (.BinOp (.BinOp (.Constant (.int c1) k1 p10) .Mult (.Name "_law_place" p11) p12) .Add (.Constant (.int c2) k2 p13) p14) p15) p16,
   .Assign [.Name "_law_own" p17] (.BinOp (.BinOp (.Call (.Name "int" p18) [.Call (.Name "abs" p19) [.Name "_law_cell" p20] [] p21] [] p22) .Mod
     (.BinOp (.BinOp (.Constant (.int 10) k3 p23) .Pow (.Constant (.int 60) k4 p24) p25) .Pow (.Constant (.int 5) k5 p26) p27) p28) .Mult
     (.Call (.Name "int" p29) [.Compare (.Call (.Name "abs" p30) [.Name "_law_cell" p31] [] p32) [.GtE] [.BinOp (.Constant (.int 10) k6 p33) .Pow (.Constant (.int 18) k7 p34) p35] p36] [] p37) p38) p39,
   .Assign [.Name "_law_small" p40] (.BinOp (.Call (.Name "int" p41) [.Name "_law_cell" p42] [] p43) .Mod (.Constant (.int 2305843009213693951) k8 p44) p45) p46,
   .Return (some (.List [.Name "_law_own" p47, .BinOp (.Call (.Name "int" p48) [.BinOp (.BinOp (.BinOp (.Name "_law_small" p49) .Mult (.Constant (.int c3) k9 p50) p51) .Add
     (.BinOp (.BinOp (.Constant (.int 7309) k10 p52) .Mult (.Name "_law_place" p53) p54) .Mult (.Name "_law_place" p55) p56) p57) .Add (.Constant (.int 163) k11 p58) p59] [] p60) .Mod (.Constant (.int 2305843009213693921) k12 p61) p62, .Constant (.int 0) k13 p63] p64)) p65]
def spPot (K : PySem.W.Frag) : Sp := fun vs H Q _ => ∃ (l : Addr) (ns : List Int) (j : Nat), vs = [.ref l, .int (j : Nat)] ∧ SqL K H l (ns.map V.int) ∧ ns.length ≤ 63 ∧ j < 1000 ∧ ∀ (q : Addr) (x y : Int), H q = none → 0 ≤ x → 0 ≤ y → y < 2305843009213693921 → Q (.ref q) (upd H q (potO (x, y, 0)))
theorem ok_pot {p1 p2 p3 p4 p5 p6 p7 p8 p9 p10 p11 p12 p13 p14 p15 p16 p17 p18 p19 p20 p21 p22 p23 p24 p25 p26 p27 p28 p29 p30 p31 p32 p33 p34 p35 p36 p37 p38 p39 p40 p41 p42 p43 p44 p45 p46 p47 p48 p49 p50 p51 p52 p53 p54 p55 p56 p57 p58 p59 p60 p61 p62 p63 p64 p65 : Pos} {k1 k2 k3 k4 k5 k6 k7 k8 k9 k10 k11 k12 k13 : Nat} {c1 c2 c3 : Int} {CX : CXT} (F : FunD K "_law_pot" "_law_pot" pa bd sc dvs kws f fd) (S : FnScope ["_law_script", "_law_place", "_law_cell", "_law_own", "_law_small"] ["_law_script", "_law_place"] sc) (hb : bd = potB p1 p2 p3 p4 p5 p6 p7 p8 p9 p10 p11 p12 p13 p14 p15 p16 p17 p18 p19 p20 p21 p22 p23 p24 p25 p26 p27 p28 p29 p30 p31 p32 p33 p34 p35 p36 p37 p38 p39 p40 p41 p42 p43 p44 p45 p46 p47 p48 p49 p50 p51 p52 p53 p54 p55 p56 p57 p58 p59 p60 p61 p62 p63 p64 p65 k1 k2 k3 k4 k5 k6 k7 k8 k9 k10 k11 k12 k13 c1 c2 c3)
    (h1 : 0 ≤ c1 ∧ c1 < 1000000) (h3 : 0 ≤ c3 ∧ c3 < 1000000)
    (l2 : sc.names.lookup ("_law_cell" : Str) = some .local) (l3 : sc.names.lookup ("_law_own" : Str) = some .local) (l4 : sc.names.lookup ("_law_small" : Str) = some .local)
    (g1 : sc.names.lookup ("int" : Str) = some .globalImplicit) (g2 : sc.names.lookup ("abs" : Str) = some .globalImplicit) (g5 : sc.names.lookup ("len" : Str) = some .globalImplicit)
    (m1 : mg "int" = none) (m2 : mg "abs" = none) (m5 : mg "len" = none) : FnOk P w K mg base CX 1 f fd ["_law_script", "_law_place"] (spPot K) := by
  subst hb
  refine F.ok (CX := CX) S (fun vs H Q E h => ?_) (fun cdv A outer s H vs Q E hr h => ?_)
  · obtain ⟨l, ns, j, rfl, _⟩ := h; rfl
  · obtain ⟨l, ns, j, rfl, hs, hl, hj, q⟩ := h
    have b1 : bootBuiltins "int" = some (.type "int") := by decide +kernel
    have b2 : bootBuiltins "abs" = some (.builtin "abs") := by decide +kernel
    have v0 : Vis sc "_law_script" := vis_par' S (by simp)
    have v1 : Vis sc "_law_place" := vis_par' S (by simp)
    refine ⟨_, pss_cons (ps_set (i := 2) S.nd rfl (.inl l2) (pe_ifExp (pt_cmp (pc_lt (pe_var (i := 1) rfl v1) (pe_callB call_len g5 m5 boot_len (pa_cons (pe_var (i := 0) rfl v0) pa_nil)))) (pe_ix ix_seq (pe_var (i := 0) rfl v0) (pe_var (i := 1) rfl v1) fun _ _ => rfl)
        (pe_op op_add (pe_op op_mul pe_int (pe_var (i := 1) rfl v1)) pe_int)))
      (pss_cons (ps_set (i := 3) S.nd rfl (.inl l3) (pe_op op_mul (pe_op op_modN (pe_callTy call_int1 g1 m1 b1 (pa_cons (pe_callB call_abs g2 m2 b2 (pa_cons (pe_var (i := 2) rfl (.inl l2)) pa_nil)) pa_nil)) (pe_op op_powW (pe_op op_pow pe_int pe_int) pe_int))
          (pe_callTy call_int1 g1 m1 b1 (pa_cons (pe_cmpR op_ge (pe_callB call_abs g2 m2 b2 (pa_cons (pe_var (i := 2) rfl (.inl l2)) pa_nil)) (pe_op op_pow pe_int pe_int) (by rfl)) pa_nil))))
      (pss_cons (ps_set (i := 4) S.nd rfl (.inl l4) (pe_op op_modN (pe_callTy call_int1 g1 m1 b1 (pa_cons (pe_var (i := 2) rfl (.inl l2)) pa_nil)) pe_int))
      (pss_one (ps_ret (pe_lst (pa_cons (pe_var (i := 3) rfl (.inl l3)) (pa_cons (pe_op op_modN (pe_callTy call_int1 g1 m1 b1 (pa_cons (pe_op op_add (pe_op op_add (pe_op op_mul (pe_var (i := 4) rfl (.inl l4)) pe_int) (pe_op op_mul (pe_op op_mul pe_int (pe_var (i := 1) rfl v1)) (pe_var (i := 1) rfl v1))) pe_int) pa_nil)) pe_int) (pa_cons pe_int pa_nil)))))))), ?_⟩
    refine ⟨_, rfl, _, rfl, .ref l, (ns.map V.int).length, rfl, .inl ⟨_, hs, rfl⟩, _, _, rfl, rfl, _, rfl, ?_⟩
    obtain ⟨v, hv⟩ : ∃ v : Int, ∀ K1 : VK, K1 (.int v) H → if decide (((j : Nat) : Int) < (((ns.map V.int).length : Nat) : Int)) = true then
        tOp (rIx K) (tVar 0) (tVar 1) (L2.start ["_law_script", "_law_place", "_law_cell", "_law_own", "_law_small"] [V.ref l, V.int (j : Nat)]) H K1
        else tOp (rI0 fun i j => .int (i + j)) (tOp (rI CMul fun i j => .int (i * j)) (tC (.int c1)) (tVar 1)) (tC (.int c2)) (L2.start ["_law_script", "_law_place", "_law_cell", "_law_own", "_law_small"] [V.ref l, V.int (j : Nat)]) H K1 := by
      by_cases hj' : j < ns.length
      · refine ⟨L2.cellOf ns j, fun K1 hk => ?_⟩
        rw [if_pos (decide_eq_true (by rw [List.length_map]; omega))]
        exact ⟨_, rfl, _, rfl, .inl ⟨l, _, _, _, rfl, rfl, hs, atI_cell hj', hk⟩⟩
      · refine ⟨c1 * (j : Nat) + c2, fun K1 hk => ?_⟩
        rw [if_neg (by rw [decide_eq_true_eq, List.length_map]; omega)]
        exact ⟨_, rfl, _, _, rfl, rfl, .inl (by omega), _, _, rfl, rfl, hk⟩
    refine hv _ ?_
    have ha : 0 ≤ (if v < 0 then -v else v) := by split <;> omega
    have hM : (0 : Int) < ((10 : Int) ^ (60 : Int).toNat) ^ (5 : Int).toNat := by decide +kernel
    have hmod : ∀ x m : Int, 0 < m → 0 ≤ x.fmod m ∧ x.fmod m < m := fun x m h => by
      rw [Int.fmod_eq_emod_of_nonneg x (by omega)]
      exact ⟨Int.emod_nonneg _ (by omega), Int.emod_lt_of_pos _ h⟩
    refine ⟨_, rfl, _, rfl, .inl ⟨_, rfl, _, _, rfl, rfl, ⟨by decide, by decide, by decide⟩, _, _, rfl, rfl, ⟨by decide, by decide +kernel⟩, _, _, rfl, rfl, Int.ne_of_gt hM, _, rfl, _, rfl, _, _, rfl, rfl, ⟨by decide, by decide, by decide⟩, _, _, rfl, rfl, .inr ⟨_, rfl, _, _, rfl, rfl, .inr ?_, ?_⟩⟩⟩
    · constructor <;> (split <;> split <;> decide)
    · refine ⟨_, rfl, .inl ⟨_, rfl, _, _, rfl, rfl, (show (2305843009213693951 : Int) ≠ 0 by decide), ?_⟩⟩
      have hsm := hmod v 2305843009213693951 (by decide)
      refine ⟨_, rfl, _, rfl, _, _, rfl, rfl, .inl (by omega), _, rfl, _, _, rfl, rfl, .inl (by decide), _, rfl, _, _, rfl, rfl, .inr (by omega), _, _, rfl, rfl, _, _, rfl, rfl, .inl ⟨_, rfl, _, _, rfl, rfl, (show (2305843009213693921 : Int) ≠ 0 by decide), ?_⟩⟩
      refine ⟨(show 3 ≤ sizeLine by decide), fun q0 hq0 => q q0 _ _ hq0 ?_ (hmod _ _ (by decide)).1 (hmod _ _ (by decide)).2⟩
      exact Int.mul_nonneg (hmod _ _ hM).1 (by split <;> (split <;> decide))
end
end VL
namespace VL
open PySem PySem.Spec PyProof.Rows L2
def Pk (b : Int) (s : Pot) : Prop := 0 ≤ s.1 ∧ 0 ≤ s.2.1 ∧ s.2.1 < 2305843009213693921 ∧ 0 ≤ s.2.2 ∧ s.2.2 ≤ b
theorem pk0 {x y : Int} (h : 0 ≤ x) (h1 : 0 ≤ y) (h2 : y < 2305843009213693921) : Pk 0 (x, y, 0) := ⟨h, h1, h2, Int.le_refl _, Int.le_refl _⟩
def hfOf (P : Addr) (H : Hp) : Hp := fun b => if b = P then none else H b
theorem ext_pot {K : PySem.W.Frag} {cls : Nat → Addr} {P : Addr} {H : Hp} {s : Pot} (h : H P = some (potO s)) (tb : LamX.Tabs (tabsOf cls) H) : Ext ⟨K, cls, P⟩ (hfOf P H) H (hfOf P H) H s where
  ff := fun _ _ e => e
  fh := fun b o e => by
    unfold hfOf at e
    split at e
    · cases e
    · exact e
  potF := by show hfOf P H P = none; unfold hfOf; rw [if_pos rfl]
  pot := h
  old0 := fun _ _ _ e _ => e
  tab := fun _ ps e => ⟨ps, e⟩
  tabs := tb
  unf := fun _ _ _ e => e
def spLaw (K : PySem.W.Frag) : Sp := fun vs H Q _ => ∃ (a : Addr) (ns : List Int), vs = [.ref a] ∧ SqL K H a (ns.map V.int) ∧ ns.length ≤ 63 ∧ ∀ H', Q (.bl true) H'
def spLawT (K : PySem.W.Frag) (cls : Nat → Addr) : Sp := fun vs H Q _ => ∃ (a : Addr) (ns : List Int), vs = [.ref a] ∧ SqL K H a (ns.map V.int) ∧ ns.length ≤ 63 ∧ LamX.Tabs (tabsOf cls) H ∧ ∀ H', Q (.bl true) H'
theorem spLaw_T {K : PySem.W.Frag} {cls : Nat → Addr} (h0 : cls 1000 = 0) {vs : List V} {H : Hp} {Q : VK} {E : XK} (h : spLaw K vs H Q E) : spLawT K cls vs H Q E := by
  obtain ⟨a, ns, h1, h2, h3, h4⟩ := h
  refine ⟨a, ns, h1, h2, h3, fun p hp => ?_, h4⟩
  unfold tabsOf at hp
  rw [h0] at hp
  cases hp
theorem seq_keep {K : PySem.W.Frag} {H H' : Hp} {a : Addr} {xs : List V} (h : SqL K H a xs) (e : ∀ b o, H b = some o → (∀ ps, o ≠ .tbl ps) → H' b = some o) : SqL K H' a xs :=
  h.elim (fun h => .inl (h.elim (fun h => .inl (e _ _ h (by intro _ z; cases z))) fun ⟨o, h⟩ => .inr ⟨o, e _ _ h (by intro _ z; cases z)⟩)) fun h => .inr h
section
variable {G : Glob} {f fC fP : Addr} {fd fdC fdP : FuncData} {pa : Arguments} {bd : List Stmt} {sc : Scope} {dvs : List V} {kws : List (Str × V)}
theorem cellsN_le {lim : Int} {n : Nat} (hn : n ≤ 63) (hl : lim ≤ 1000) : cellsN lim n ≤ 1000 := by
  unfold cellsN
  dsimp only
  split <;> split <;> omega
end
end VL
namespace VL
open PySem PySem.Spec PyProof.Rows L2
def HSim (H H' : Hp) : Prop := ∀ a o, H a = some o → H' a = some o ∨ ∃ ks, (o = .dK ks ∨ ∃ od, o = .frz od (.dK ks)) ∧ Rd H' a (.dK ks)
section
variable {W : Wd} {H H' : Hp}
theorem HSim.get (h : HSim H H') {a : Addr} {o : HO} (e : H a = some o) (n1 : ∀ ks, o ≠ .dK ks) (n2 : ∀ od ks, o ≠ .frz od (.dK ks)) : H' a = some o := by
  rcases h a o e with q | ⟨ks, q | ⟨od, q⟩, _⟩
  · exact q
  · exact absurd q (n1 ks)
  · exact absurd q (n2 od ks)
theorem HSim.rdT (h : HSim H H') {a : Addr} {xs : List V} (r : Rd H a (.tup xs)) : Rd H' a (.tup xs) := by
  rcases r with q | ⟨od, q⟩
  · exact .inl (h.get q (fun _ z => by cases z) (fun _ _ z => by cases z))
  · exact .inr ⟨od, h.get q (fun _ z => by cases z) (fun _ _ z => by cases z)⟩
theorem HSim.sqT {K : PySem.W.Frag} {a : Addr} {xs : List V} (h : HSim H H') : SqT K H a xs → SqT K H' a xs
  | .inl r => .inl (h.rdT r)
  | .inr r => .inr r
theorem HSim.slt {a C dx : Addr} {vs : List (Option V)} (h : HSim H H') : SlX.Slt H a C dx vs → SlX.Slt H' a C dx vs
  | .inl ⟨q, z⟩ => .inl ⟨h.get q (fun _ z => by cases z) (fun _ _ z => by cases z), z⟩
  | .inr ⟨q, z⟩ => .inr ⟨h.get q (fun _ z => by unfold SlX.SlO at z; cases z) (fun _ _ z => by unfold SlX.SlO at z; cases z), h.get z (fun _ z => by cases z) (fun _ _ z => by cases z)⟩
end
section
variable {c : Ctx} {W : Wd} {E : XK} {Γ Γ' Γl : Gam} {e a : Expr} {f : Rho → M Fl} {pos : Pos} {Hf H : Hp} {st : Stmt}
theorem AtKv.get' : ∀ {ks : List (Key × V)} {ds : List (Key × D)} {j : Nat} {z : Key × D}, AtKv W H ks ds → ds[j]? = some z → ∃ v, ks[j]? = some (z.1, v) ∧ At W H v z.2
  | _, _, _, _, .nil, e => by simp at e
  | _, _, 0, _, .cons h _, e => by simp at e; subst e; exact ⟨_, rfl, h⟩
  | _, _, j + 1, z, .cons _ r, e => by
    obtain ⟨v, e1, h⟩ := r.get' (j := j) (z := z) (by simpa using e)
    exact ⟨v, by simpa using e1, h⟩
end
end VL
namespace VL
open PySem PySem.Spec PyProof.Rows L2
section
variable {c : Ctx} {W : Wd} {E : XK} {Γ : Gam} {e a b o : Expr} {f fa fb fo : Rho → M D} {pos : Pos} {Hf H : Hp}
theorem AtAll.two {xs : List V} {d e : D} (h : AtAll W Hf xs [d, e]) : ∃ x y, xs = [x, y] ∧ At W Hf x d ∧ At W Hf y e := by
  cases h with
  | cons h r => cases r with
    | cons h' r => cases r; exact ⟨_, _, rfl, h, h'⟩
end
end VL
namespace VL
open PySem PySem.Spec PyProof.Rows L2
section
variable {c : Ctx} {Γ : Gam} {pos : Pos} {Hf H : Hp}
def FreshL (W : Wd) (H0 Hf H : Hp) (qs : List (Key × Addr)) (ds : List (Key × List D)) : Prop :=
  Paired (fun (q : Key × Addr) (z : Key × List D) => q.1 = z.1 ∧ H0 q.2 = none ∧ Hf q.2 = none ∧ q.2 ≠ W.P ∧ ∃ xs, H q.2 = some (.lst xs) ∧ xs.length ≤ sizeLine ∧ AtAll W Hf xs z.2) qs ds
theorem FreshL.ext {W : Wd} {H0 Hf H Hf' H' : Hp} {s : Pot} {qs : List (Key × Addr)} {ds : List (Key × List D)} (h : FreshL W H0 Hf H qs ds) (x : Ext W Hf H Hf' H' s) : FreshL W H0 Hf' H' qs ds :=
  Paired.mapP h fun _ _ ⟨a1, a2, a3, a4, xs, a5, a6, a7⟩ => ⟨a1, a2, x.unf _ _ a5 a3, a4, xs, x.old _ _ a4 a5, a6, a7.mono x.ff⟩
theorem FreshL.upd {W : Wd} {H0 Hf H : Hp} {p : Addr} {o : HO} {qs : List (Key × Addr)} {ds : List (Key × List D)} (h : FreshL W H0 Hf H qs ds) (n : p ∉ qs.map (·.2)) : FreshL W H0 Hf (upd H p o) qs ds :=
  Paired.both h fun q _ m ⟨a1, a2, a3, a4, xs, a5, a6, a7⟩ => ⟨a1, a2, a3, a4, xs, by rw [upd_ne (fun z => n (List.mem_map.mpr ⟨q, m, z⟩))]; exact a5, a6, a7⟩
theorem FreshL.any {W : Wd} {H0 Hf H : Hp} {k : Key} : ∀ {qs : List (Key × Addr)} {ds : List (Key × List D)}, FreshL W H0 Hf H qs ds → ((qs.map fun z => (z.1, V.ref z.2)).any fun kv => decide (kv.1 = k)) = (ds.any fun z => decide (z.1 = k))
  | _, _, .nil => rfl
  | _, _, .cons a r => by
    simp only [List.map_cons, List.any_cons]
    rw [FreshL.any r, a.1]
theorem FreshL.len {W : Wd} {H0 Hf H : Hp} {qs : List (Key × Addr)} {ds : List (Key × List D)} (h : FreshL W H0 Hf H qs ds) : qs.length = ds.length := Paired.length h
end
end VL
namespace VL
open PySem PySem.Spec PyProof.Rows L2
structure FnG (P : Program) (w : World) (K : PySem.W.Frag) (mg : Str → Option Value) (base : Heap) (k : Nat) (f : Addr) (fd : FuncData) (ps : List Str) (sp : Sp) : Prop where
  argn : ∀ vs H Q E, sp vs H Q E → vs.length = ps.length
  goes : ∀ (A : Around) (fr : List Env) (s : Shared) (H : Hp) (ar : Args) (us : List Value) (vs : List V) (Q : VK) (E : XK), A.guards = some [] → Room k A → Env0 P w K mg base A fr s H → BindsTo s fd ar (ps.zip us) → Vals vs us → sp vs H Q E →
    codeAny (model P w) A (.call (.ref f) ar) (CR (L2.CX P w) fr P w H s Q E) s
section
variable {P : Program} {w : World} {K : PySem.W.Frag} {mg : Str → Option Value} {base : Heap}
theorem FnG.of {k : Nat} {f : Addr} {fd : FuncData} {ps : List Str} {sp : Sp} (F : FnOk P w K mg base (L2.CX P w) k f fd ps sp) : FnG P w K mg base k f fd ps sp :=
  ⟨F.len, fun A fr s H ar us vs Q E _ h1 h2 h3 h4 h5 => F.run A fr s H ar us vs Q E h1 h2 h3 h4 h5⟩
theorem FnG.imp {k : Nat} {f : Addr} {fd : FuncData} {ps : List Str} {sp sp' : Sp} (F : FnG P w K mg base k f fd ps sp) (h : ∀ vs H Q E, sp' vs H Q E → sp vs H Q E) : FnG P w K mg base k f fd ps sp' :=
  ⟨fun vs H Q E q => F.argn vs H Q E (h _ _ _ _ q), fun A fr s H ar us vs Q E g h1 h2 h3 h4 h5 => F.goes A fr s H ar us vs Q E g h1 h2 h3 h4 (h _ _ _ _ h5)⟩
theorem fnG_of {x qual : Str} {pa : Arguments} {bd : List Stmt} {sc : Scope} {dV kV doc pm cdv ct oc : Value} {an od : Option Addr} {osl : Array (Option Value)} {f : Addr} {N ps : List Str} {k : Nat} {sp : Sp}
    (lk : K.lookup f = some ⟨oc, od, .func (PySem.W.fnOf x qual pa bd sc dV kV doc pm an cdv ct), osl⟩) (hcd : PySem.W.codeIn K cdv qual = true) (S : FnScope N ps sc) (hl : ∀ vs H Q E, sp vs H Q E → vs.length = ps.length)
    (hb : ∀ (A : Around) (fr : List Env) (s : Shared) (H : Hp) (vs : List V) (Q : VK) (E : XK), A.guards = some [] → Room k (A.deeper (envOfC qual sc s.heap.objs.size f cdv)) → sp vs H Q E →
      ∃ t, PSs (cxOf (L2.CX P w) P w K mg base N qual sc f cdv A fr s H E) bd t ∧ t { nx := fun _ H' => Q .non H', rt := Q } (start N vs) H) : FnG P w K mg base (k + 1) f (PySem.W.fnOf x qual pa bd sc dV kV doc pm an cdv ct) ps sp := by
  refine ⟨hl, fun A fr s H ar us vs Q E hg hr e0 hbd r hsp => ?_⟩
  have old := fun b o e => (e0.bs b o e).1
  have KI : K.In s.heap := e0.mod.kin.keeps old
  have hkd : ∀ y ∈ ps.zip us, sc.names.lookup y.1 = some .local ∨ (sc.names.lookup y.1 = some .cell ∧ ((cellsFrom (s.heap.objs.size + 1) sc.names []).lookup y.1).isSome = true) := by
    rintro ⟨n, v⟩ hy
    cases S.par n (List.of_mem_zip hy).1 with
    | inl q => exact .inl q
    | inr q => exact .inr ⟨q, PySem.W.cellsFrom_some _ _ _ (.inl q)⟩
  refine codeAny_call_function hr.depth (KI _ _ lk) rfl S.co S.gen rfl (PySem.W.codeRec_of KI hcd) (hbd _ _ _ _ (wpAny_newFunctionEnv_cells S.kind hkd fun en he s1 y => ?_))
  subst he
  obtain ⟨t, ht, hq⟩ := hb A fr s H vs Q E hg (hr.deeper _) hsp
  have J : Inv (cxOf (L2.CX P w) P w K mg base N qual sc f cdv A fr s H E) [] (start N vs) H s1 := inv_start S hr.hd e0 (hl _ _ _ _ hsp) r y
  refine ⟨(e0.mod.nolimit.keeps old).keeps y.toInCall.keep, codeAny_func (wpAny_mono (ht.run [] s1 (start N vs) H _ J hq) (fun z s' hz => ?_) fun e s' hz => hz)⟩
  have ends : ∀ {τ : L2.St} {H' : Hp} {v : V} {u : Value}, Inv (cxOf (L2.CX P w) P w K mg base N qual sc f cdv A fr s H E) [] τ H' s' → RelV v u → Q v H' → CE fr P w H s Q u s' := fun {τ H' v u} j rv q => ⟨v, H', j.os, j.bare, j.base, j.hok, rv, q⟩
  cases z with
  | ret u =>
    obtain ⟨v, τ, H', j, rv, q⟩ := hz
    exact ends j rv q
  | next =>
    obtain ⟨τ, H', j, q⟩ := hz
    exact ends (v := .non) (u := Value.none) j rfl q
  | brk => obtain ⟨_, _, _, q⟩ := hz; exact q.elim
  | cont => obtain ⟨_, _, _, q⟩ := hz; exact q.elim
end
section
variable {X : Cx} {k : Nat} {f : Addr} {fd : FuncData} {ps : List Str} {sp : Sp} {dvs : List V} {ds : List Value} {E : XK} {x : Str} {p pos : Pos} {e : Expr} {es : List Expr} {t : TA}
theorem goes_in {pins : List (Addr × Obj)} {σ : L2.St} {H : Hp} {s : Shared} {Q : VK} {us : List Value} {vs : List V} (F : FnG X.prog X.w X.K X.mg X.base k f fd ps sp) (hg : X.A.guards = some []) (hr : Room k X.A) (hb : Binds X.K fd ps ds) (hd : Vals dvs ds) (hx : Passes (L2.CX X.prog X.w) X E)
    (I : Inv X pins σ H s) (r : Vals vs us) (h : sp (vs ++ dvs) H Q E) : wpAny (model X.prog X.w) X.A (call (.ref f) us) (EP X pins σ Q) X.xe s := by
  have r' := r.append hd
  have n : (us ++ ds).length = ps.length := r'.length.symm.trans (F.argn _ _ _ _ h)
  refine wpAny_call (codeAny_mono (F.goes X.A X.stack s H ⟨us, []⟩ (us ++ ds) (vs ++ dvs) Q E hg hr I.env0 (hb s us I.kIn n) r' h) fun z s' hz => ?_)
  cases z with
  | error e => exact hx pins σ H s e s' I hz
  | ok z =>
    cases z with
    | ret u => exact I.after hz
    | _ => exact hz.elim
theorem pe_callG (F : FnG X.prog X.w X.K X.mg X.base k f fd ps sp) (hgd : X.A.guards = some []) (hr : Room k X.A) (hg : Gl X x) (hm : X.mg x = some (.ref f)) (hk : PySem.W.keepIn X.K (.ref f) = true) (hb : Binds X.K fd ps ds) (hd : Vals dvs ds) (hx : Passes (L2.CX X.prog X.w) X E)
    (ha : PA X (e :: es) t) (hdb : (x == ("__debug__" : Str)) = false) (he : starEach (e :: es) X.env = (false, eval e X.env) :: starEach es X.env) (hpl : (backTo pos (starEach es X.env)).any (·.1) = false) : PE X (.Call (.Name x p) (e :: es) [] pos) (tCall sp dvs E t) :=
  ⟨fun pins s σ H Q I h => wpAny_Call_Name_kw (ld_glob I hg hm (PySem.W.callWith_K (h₀ := X.base) I.ok.mod.kin hk (thn (ha.run pos pins s σ H _ I h) fun us s1 ⟨vs, H1, J, r, q⟩ => ⟨J.kIn, goes_in F hgd hr hb hd hx J r q⟩) he hpl) hdb)⟩
end
end VL
namespace VL
open PySem PySem.Spec PyProof.Rows L2
def reprOf (p : PyData) : Option D := if p.showable = true ∧ p.depth ≤ 60 ∧ p.shown.length ≤ sizeLine then some (.str p.shown) else none
def reprD : List D → Option D
  | [d] => match toPy d with
    | some p => reprOf p
    | none => none
  | _ => none
def rRepr (K : PySem.W.Frag) : List V → Hp → VK → Prop := fun xs H Q => ∃ v p, xs = [v] ∧ Dp K H v p ∧ p.showable = true ∧ p.depth ≤ 60 ∧ p.shown.length ≤ sizeLine ∧ Q (.str p.shown) H
section
variable {c : Ctx} {W : Wd} {Γ : Gam} {e : Expr} {pos : Pos}
theorem Dp.flat {K : PySem.W.Frag} {H : Hp} : ∀ (p : PyData) (v : V), Dp K H v p → p.hasDict = false
  | .none, _, _ => rfl
  | .bool _, _, _ => rfl
  | .int _, _, _ => rfl
  | .str _, _, _ => rfl
  | .list ds, _, h => by
    cases h with
    | lst hs ha => simp only [PyData.hasDict]; exact all ds _ ha
  | .tuple ds, _, h => by
    cases h with
    | tup hs ha => simp only [PyData.hasDict]; exact all ds _ ha
  | .dict _, _, h => by cases h
where all : ∀ (ds : List PyData) (vs : List V), DpAll K H vs ds → PyData.hasDictAll ds = false
  | [], _, _ => rfl
  | d :: ds, _, h => by
    cases h with
    | cons h1 h2 => simp only [PyData.hasDictAll, Dp.flat d _ h1, all ds _ h2, Bool.or_self]
theorem call_reprG {X : Cx} (hg : X.A.guards = some []) (hr : Room 0 X.A) : CallR X (.builtin "repr") (rRepr X.K) := by
  intro pins s σ H xs us Q I r h
  obtain ⟨v, p, rfl, hd, h1, h2, h3, q⟩ := h
  obtain ⟨u, rfl, ru⟩ := vals1 r
  have un := hr.units
  cases hd with
  | non => cases ru; exact PySem.P.repr_of_none ⟨.str _, H, I.tok _, ⟨_, rfl⟩, q⟩
  | bl b =>
    cases ru
    refine PySem.P.repr_of_bool ⟨.str _, H, I.tok _, ⟨_, rfl⟩, ?_⟩
    have e : (PyData.bool b).shown = (if b then "True" else "False" : Str) := by cases b <;> rfl
    rw [← e]; exact q
  | int i => obtain ⟨t, rfl⟩ := ru; exact PySem.P.repr_of_int (by simpa [PyData.showable] using h1) ⟨.str _, H, I.tok _, ⟨_, rfl⟩, q⟩
  | str x => obtain ⟨t, rfl⟩ := ru; exact PySem.P.repr_of_str ⟨.str _, H, I.tok _, ⟨_, rfl⟩, q⟩ h3
  | lst hs ha =>
    cases ru
    obtain ⟨as, rd⟩ := Dp.reads I _ _ _ (.lst hs ha) rfl
    exact PySem.repr_of_reads' rd h1 (fun z => by rw [Dp.flat _ _ (.lst hs ha)] at z; cases z) hg (by omega) (fun _ _ e => e) (fun h' u tk hk => ⟨.str _, H, I.kept hk, ⟨_, rfl⟩, q⟩) h3
  | tup hs ha =>
    cases ru
    obtain ⟨as, rd⟩ := Dp.reads I _ _ _ (.tup hs ha) rfl
    exact PySem.repr_of_reads' rd h1 (fun z => by rw [Dp.flat _ _ (.tup hs ha)] at z; cases z) hg (by omega) (fun _ _ e => e) (fun h' u tk hk => ⟨.str _, H, I.kept hk, ⟨_, rfl⟩, q⟩) h3
theorem cd_repr : CallD W (rAt W) (rRepr W.K) reprD := by
  intro Hf H s xs ds z Q x0 hxs hg k
  unfold reprD at hg
  split at hg
  · cases hp : toPy _ with
    | none => rw [hp] at hg; cases hg
    | some p =>
      rw [hp] at hg
      simp only [reprOf] at hg
      split at hg
      · rename_i h
        cases hg
        obtain ⟨x, rfl, hx⟩ := hxs.one
        exact ⟨x, p, rfl, hx.dp x0.fh hp, h.1, h.2.1, h.2.2, k _ _ _ x0 (.str _)⟩
      · cases hg
  · cases hg
end
end VL
namespace VL
open PySem PySem.Spec PyProof.Rows L2
section
variable {G : Glob} {x qual : Str} {pa : Arguments} {bd : List Stmt} {sc : Scope} {dvs : List V} {kws : List (Str × V)} {f : Addr} {fd : FuncData} {N ps : List Str} {k n : Nat} {Γ' Γl : Gam} {body : Rho → M Fl}
theorem def_okG (F : FunD G.K x qual pa bd sc dvs kws f fd) (S : FnScope N ps sc) (hn : N.length = n) (h : ∀ P E, JSs (ctxG G N sc k P E) (gam0 n) Γ' Γl bd body) (hps : ps.length ≤ N.length) :
    FnG G.prog G.w G.K G.mg G.base (k + 1) f fd ps (spOf G.K G.cls ps.length (runD n body)) := by
  subst hn
  obtain ⟨oc, od, dV, kV, doc, pm, an, cdv, ct, osl, rfl, lk, hcd, _, _⟩ := F.ex
  refine fnG_of lk hcd S (fun vs H Q E h => h.1) fun A fr s H vs Q E hg hr hsp => ?_
  obtain ⟨hl, P, Hf, ds, s0, x, ha, p⟩ := hsp
  obtain ⟨t, h1, h2⟩ := h P E
  refine ⟨t, h1 _ (is_defB S hr fun _ => hg), h2 (Hf, H) (rho0 N.length ds) s0 (L2.start N vs) Hf H _ (env_start x ha (by omega)) ?_⟩
  unfold runD at p
  rw [post_bind] at p
  refine p.imp (fun z s1 k => ?_) fun _ _ _ z => z
  cases z with
  | nx ρ' => exact fun σ' Hf' H' V => k .non _ _ V.ext .non
  | rt d => exact fun v Hf' H' y a => k v _ _ y a
  | bk _ => exact k.elim
  | ct _ => exact k.elim
structure FnIG (G : Glob) (x : Str) (lvl n : Nat) (dd : List D) (F : List D → M D) : Prop where
  ex : ∃ (f : Addr) (fd : FuncData) (ps : List Str) (dvs : List V) (ds : List Value), G.mg x = some (.ref f) ∧ PySem.W.keepIn G.K (.ref f) = true ∧ ps.length = n ∧ FnG G.prog G.w G.K G.mg G.base lvl f fd ps (spOf G.K G.cls n F) ∧ Binds G.K fd ps ds ∧ Vals dvs ds ∧ (∀ P H, AtAll ⟨G.K, G.cls, P⟩ H dvs dd)
theorem fnIG_mk {dd : List D} {F : List D → M D} {lvl : Nat} {ds : List Value} (o : FnG G.prog G.w G.K G.mg G.base lvl f fd ps (spOf G.K G.cls n F)) (hm : G.mg x = some (.ref f)) (kp : PySem.W.keepIn G.K (.ref f) = true) (hn : ps.length = n) (b : Binds G.K fd ps ds) (v : Vals dvs ds) (ha : ∀ P H, AtAll ⟨G.K, G.cls, P⟩ H dvs dd) : FnIG G x lvl n dd F :=
  ⟨f, fd, ps, dvs, ds, hm, kp, hn, o, b, v, ha⟩
theorem FnIG.imp {dd : List D} {F F' : List D → M D} {lvl : Nat} (T : FnIG G x lvl n dd F) (h : ∀ ds, Le (F' ds) (F ds)) : FnIG G x lvl n dd F' := by
  obtain ⟨f, fd, ps, dvs, ds, e1, e2, e3, e4, e5, e6, e7⟩ := T.ex
  refine ⟨f, fd, ps, dvs, ds, e1, e2, e3, e4.imp fun vs H Q E q => ?_, e5, e6, e7⟩
  obtain ⟨q1, P, Hf, ds, s, q2, q3, q4⟩ := q
  exact ⟨q1, P, Hf, ds, s, q2, q3, (h ds).post q4⟩
end
section
variable {c : Ctx} {Γ : Gam} {e : Expr} {pos : Pos} {x : Str} {lvl n : Nat} {dd : List D} {F : List D → M D}
end
section
variable {G : Glob} {f fC fP : Addr} {fd fdC fdP : FuncData} {pa : Arguments} {bd : List Stmt} {sc : Scope} {dvs : List V} {kws : List (Str × V)}
end
end VL
namespace VL
open PySem PySem.Spec PyProof.Rows L2
theorem callerA_free : callerA.guards = some [] := rfl
abbrev Top (s t : Shared) (r : Except Value Flow) : Prop := r = .ok (.ret (.bool true)) ∧ OldK s.heap t.heap ∧ t.os = s.os ∧ AllBare t.gens
section
variable {P : Program} {w : World} {K : PySem.W.Frag} {mg mb : Str → Option Value} {k : Nat} {fa a : Addr} {fd : FuncData} {x : Str} {st : Shared} {us : List Value} {ns : List Int}
theorem top_core {T : Hp} (KX : K.In st.heap) (hns : st.heap.Ns mainGlobals mg) (hmb : st.heap.Ns builtinsNs mb) (hboot : ∀ x : Str, x ≠ "__name__" → mb x = bootBuiltins x) (hnl : st.heap.NoLimit) (hgen : st.gens = #[])
    (hobj : st.heap.get? a = some { cls := .type "list", data := .seq us.toArray }) (h63 : ns.length ≤ 63) (hr : Room k callerA)
    (F : ∀ base : Heap, K.In base → base.Ns mainGlobals mg → FnG P w K mg base k fa fd [x] (spLaw K)) (hbind : ∀ (s : Shared) (u : Value), BindsTo s fd ⟨[u], []⟩ [(x, u)])
    (only : Only T) (hS : SqL K T a (ns.map V.int)) (hok : HOk P w T st.heap) (hat : ∀ b, T b ≠ none → b = a) (hfr : T a ≠ none → K.lookup a = none) :
    codeAny (model P w) callerA (.call (.ref fa) ⟨[.ref a], []⟩) (fun r t => Top st t r) st := by
  have free : ∀ b o es ep, st.heap.get? b = some o → o.data = .dict es ep → T b = none := by
    intro b o es ep e d
    rcases h : T b with _ | u
    · rfl
    · obtain rfl : b = a := hat b (by simp [h])
      rw [hobj] at e
      obtain rfl := Option.some.inj e
      cases (show Data.seq us.toArray _ = Data.dict es ep from d)
  have names : ∀ b m, st.heap.Ns b m → (hidT st.heap T).Ns b m := by
    rintro b m ⟨o, es, ep, e, d, r⟩
    exact ⟨o, es, ep, hidT_get e (free b o es ep e d), d, r⟩
  have inK : K.In (hidT st.heap T) := by
    intro b o e
    refine hidT_get (KX b o e) ?_
    rcases h : T b with _ | u
    · rfl
    · have hb := hat b (by simp [h])
      rw [hb] at e h
      rw [hfr (by simp [h])] at e
      cases e
  obtain ⟨mc, c1, c2⟩ := hnl
  have md : Mod K mg (hidT st.heap T) := ⟨inK, names _ _ hns, ⟨mb, names _ _ hmb, hboot⟩, mc, names _ _ c1, c2⟩
  have env : Env0 P w K mg (hidT st.heap T) callerA [] st T := ⟨rfl, md, fun b o e => of_hidT e, Nat.le_of_eq (hidT_size _ _), trivial, fun b hb => (List.not_mem_nil hb).elim, hok, .of_eq hgen⟩
  have run := (F _ inK (names _ _ hns)).goes callerA [] st T ⟨[.ref a], []⟩ [.ref a] [.ref a] (fun v _ => v = .bl true) (fun _ _ _ => False) callerA_free hr env (hbind st (.ref a)) (.cons rfl .nil) ⟨a, ns, rfl, hS, h63, fun _ => rfl⟩
  refine codeAny_mono run fun r t h => ?_
  match r, h with
  | .error e, ⟨_, _, _, _, _, _, _, _, _, _, _, _, z⟩ => exact z.elim
  | .ok .next, h => exact h.elim
  | .ok .brk, h => exact h.elim
  | .ok .cont, h => exact h.elim
  | .ok (.ret u), ⟨v, T', os, bare, un, hok', rv, q⟩ =>
    obtain rfl : v = .bl true := q
    obtain rfl : u = Value.bool true := rv
    refine ⟨rfl, OldK.of_keep ?_, os, bare⟩
    intro b o e
    rcases h : T b with _ | u
    · exact un.keep b o e h List.not_mem_nil List.not_mem_nil
    · rcases only b with z | ⟨ob, xs, z⟩
      · rw [h] at z; cases z
      · have e1 := (hok b _ z).1
        have e2 := (hok' b _ (un.frzs b ob _ z)).1
        rw [e] at e1
        rw [Option.some.inj e1]
        exact e2
theorem top_call (KX : K.In st.heap) (hns : st.heap.Ns mainGlobals mg) (hmb : st.heap.Ns builtinsNs mb) (hboot : ∀ x : Str, x ≠ "__name__" → mb x = bootBuiltins x) (hnl : st.heap.NoLimit) (hgen : st.gens = #[])
    (hobj : st.heap.get? a = some { cls := .type "list", data := .seq us.toArray }) (hi : IntsAre us ns) (h63 : ns.length ≤ 63) (hr : Room k callerA)
    (F : ∀ base : Heap, K.In base → base.Ns mainGlobals mg → FnG P w K mg base k fa fd [x] (spLaw K)) (hbind : ∀ (s : Shared) (u : Value), BindsTo s fd ⟨[u], []⟩ [(x, u)]) :
    codeAny (model P w) callerA (.call (.ref fa) ⟨[.ref a], []⟩) (fun r t => Top st t r) st := by
  have rel := vals_ints hi
  have len := hi.length
  have fits : ns.length ≤ sizeLine := Nat.le_trans h63 (by decide)
  rcases hk : K.lookup a with _ | o
  · have at1 : ∀ b u, upd (fun _ => none) a (.frz { cls := .type "list", data := .seq us.toArray } (.lst (ns.map V.int))) b = some u → b = a ∧ u = .frz { cls := .type "list", data := .seq us.toArray } (.lst (ns.map V.int)) := by
      intro b u z
      by_cases hb : b = a
      · subst hb
        rw [upd_same] at z
        exact ⟨rfl, (Option.some.inj z).symm⟩
      · rw [upd_ne hb] at z
        cases z
    refine top_core (T := upd (fun _ => none) a (.frz { cls := .type "list", data := .seq us.toArray } (.lst (ns.map V.int)))) KX hns hmb hboot hnl hgen hobj h63 hr F hbind (fun b => ?_) (.inl (.inr ⟨_, upd_same⟩)) (fun b u z => ?_) (fun b z => ?_) fun _ => hk
    · rcases h : upd (fun _ => none) a (.frz { cls := .type "list", data := .seq us.toArray } (.lst (ns.map V.int))) b with _ | u
      · exact .inl rfl
      · obtain ⟨rfl, rfl⟩ := at1 b u h
        exact .inr ⟨_, _, rfl⟩
    · obtain ⟨rfl, rfl⟩ := at1 b u z
      exact ⟨hobj, by rw [List.length_map]; exact fits, us, _, rel, hobj⟩
    · obtain ⟨u, hu⟩ := Option.ne_none_iff_exists'.mp z
      exact (at1 b u hu).1
  · have e := KX a o hk
    rw [hobj] at e
    obtain rfl := Option.some.inj e
    exact top_core (T := fun _ => none) KX hns hmb hboot hnl hgen hobj h63 hr F hbind (fun _ => .inl rfl) (.inr ⟨_, us.toArray, _, hk, rfl, rfl, rfl, by rw [List.size_toArray, len]; exact fits, by simpa using rel⟩) (fun b u z => by cases (show (none : Option HO) = some u from z)) (fun b z => (z rfl).elim) fun z => (z rfl).elim
theorem walkG {l : PySem.W.OpenLaw} {q : Program} {loose : List Str} {XP : (Str → Option Value) → Heap → Prop} {YP : World → Heap → Prop} {d : DefRec} {K : Params → PySem.W.Frag} {k : Nat} (hn : l.most = some 63) (hdf : d.params.defaults = []) (hr : Room k callerA)
    (hY : ∀ (w : World) (h : Heap), YP w h → (K w.params).In h)
    (F : ∀ (w : World) (mg : Str → Option Value) (fa : Addr) (h : Heap), (K w.params).In h → h.Ns mainGlobals mg → mg d.name = some (.ref fa) →
      ∃ fd : FuncData, (∀ (s : Shared) (u : Value), BindsTo s fd ⟨[u], []⟩ [("_law_script", u)]) ∧ ∀ base : Heap, (K w.params).In base → base.Ns mainGlobals mg → FnG l.prog w (K w.params) mg base k fa fd ["_law_script"] (spLaw (K w.params))) :
    PySem.W.WalkO q loose XP YP l.row.toRowW d [] (fun f vs => PySem.call f vs) := by
  refine Att.attach_call hn hdf ?_
  intro w s₀ st mg mb fa o pm cd doc a us ns X Y h1 h2 h3 hm hobj hi h63 hgen
  obtain ⟨fd, hb, hF⟩ := F w mg fa _ (hY w _ Y) X.T.g hm
  exact top_call (hY w _ Y) X.T.g X.T.b X.T.builtins X.T.nolimit hgen hobj hi h63 hr hF hb
end
end VL
namespace VL
open PySem PySem.Spec PyProof.Rows L2
structure RightI (g : Bool) (G : Glob) (lvl : Nat) (F : List D → M D) : Prop where
  f : g = false → FnI G "_law_right" lvl 1 [] F
  g : g = true → FnIG G "_law_right" lvl 1 [] F
theorem RightI.pe {g : Bool} {G : Glob} {lvl : Nat} {F : List D → M D} (T : RightI g G lvl F) : ∃ dvs : List V, dvs = [] ∧ ∀ {c : Ctx} {X : Cx} {e : Expr} {t : TA} {p pos : Pos}, Is c X → c.G = G → c.gd = g → lvl ≤ c.k → c.sc.names.lookup ("_law_right" : Str) = some .globalImplicit → PA X [e] t →
    starEach [e] X.env = (false, eval e X.env) :: starEach [] X.env → ((backTo pos (starEach [] X.env)).any (·.1)) = false → PE X (.Call (.Name "_law_right" p) [e] [] pos) (tCall (spOf G.K G.cls 1 F) dvs c.E t) := by
  cases g with
  | false =>
    obtain ⟨f, fd, ps, dvs, ds, hm, hk, hps, hF, hb, hv, hat⟩ := (T.f rfl).ex
    have h0 : dvs = [] := by
      have := (hat 0 (fun _ => none)).len
      exact List.eq_nil_of_length_eq_zero (by simpa using this)
    refine ⟨dvs, h0, fun {c X e t p pos} hX hG hgd hl hg ha he hpl => ?_⟩
    subst hG
    have hF' : FnOk X.prog X.w X.K X.mg X.base (L2.CX X.prog X.w) lvl f fd ps (spOf c.G.K c.G.cls 1 F) := by
      rw [hX.prog, hX.w, hX.K, hX.mg, hX.base]; exact hF
    exact pe_call hF' (hX.room.mono hl) (hX.gl hg) (by rw [hX.mg]; exact hm) (by rw [hX.K]; exact hk) (by rw [hX.K]; exact hb) hv hX.pass ha (by decide) he hpl
  | true =>
    obtain ⟨f, fd, ps, dvs, ds, hm, hk, hps, hF, hb, hv, hat⟩ := (T.g rfl).ex
    have h0 : dvs = [] := by
      have := (hat 0 (fun _ => none)).len
      exact List.eq_nil_of_length_eq_zero (by simpa using this)
    refine ⟨dvs, h0, fun {c X e t p pos} hX hG hgd hl hg ha he hpl => ?_⟩
    subst hG
    have hF' : FnG X.prog X.w X.K X.mg X.base lvl f fd ps (spOf c.G.K c.G.cls 1 F) := by
      rw [hX.prog, hX.w, hX.K, hX.mg, hX.base]; exact hF
    exact pe_callG hF' (hX.gd hgd) (hX.room.mono hl) (hX.gl hg) (by rw [hX.mg]; exact hm) (by rw [hX.K]; exact hk) (by rw [hX.K]; exact hb) hv hX.pass ha (by decide) he hpl
section
variable {G : Glob} {f fC fP : Addr} {fd fdC fdP : FuncData} {pa : Arguments} {bd : List Stmt} {sc scope : Scope} {dvs : List V} {kws : List (Str × V)} {F : List D → M D} {lvl : Nat}
abbrev LA : List Str := [("_law_script" : Str), ("_law_place" : Str)]
abbrev lawA (p1 p2 p3 p4 p5 p6 p7 p8 p9 p10 p11 p12 p13 p14 p15 : Pos) (k0 : Nat) (lim : Int) (scope : Scope) : List Stmt :=
  [.Return (some (.Call (.Name "all" p1) [.ListComp (.Call (.Name "_law_right" p2) [.Call (.Name "_law_pot" p3) [.Name "_law_script" p4, .Name "_law_place" p5] [] p6] [] p7) [⟨.Name "_law_place" p8, .Call (.Name "_law_cells" p9) [.Name "_law_script" p10, .Constant (.int lim) k0 p11] [] p12, [], 0⟩] scope p13] [] p14)) p15]
theorem lawA_body {g : Bool} {k : Nat} {p1 p2 p3 p4 p5 p6 p7 p8 p9 p10 p11 p12 p13 p14 p15 : Pos} {k0 : Nat} {lim : Int} (S : FnScope LA ["_law_script"] sc) (hb : bd = lawA p1 p2 p3 p4 p5 p6 p7 p8 p9 p10 p11 p12 p13 p14 p15 k0 lim scope)
    (ok : BlkOk LA sc scope [("_law_place", 1)]) (hlim : lim ≤ 1000) (hk : 1 ≤ k) (hl : lvl ≤ k)
    (g0 : sc.names.lookup ("all" : Str) = some .globalImplicit) (g1 : sc.names.lookup ("_law_cells" : Str) = some .globalImplicit) (g2 : (relabelS scope sc).names.lookup ("_law_pot" : Str) = some .globalImplicit) (g3 : (relabelS scope sc).names.lookup ("_law_right" : Str) = some .globalImplicit)
    (l1 : (relabelS scope sc).names.lookup ("_law_place" : Str) = some .local) (v1 : Vis (relabelS scope sc) "_law_script") (mA : G.mg "all" = none)
    (FC : FnOk G.prog G.w G.K G.mg G.base (L2.CX G.prog G.w) 1 fC fdC ["_law_script", "_law_limit"] (spCells G.K)) (mC : G.mg "_law_cells" = some (.ref fC)) (kC : PySem.W.keepIn G.K (.ref fC) = true) (bC : Binds G.K fdC ["_law_script", "_law_limit"] [])
    (FP : FnOk G.prog G.w G.K G.mg G.base (L2.CX G.prog G.w) 1 fP fdP ["_law_script", "_law_place"] (spPot G.K)) (mP : G.mg "_law_pot" = some (.ref fP)) (kP : PySem.W.keepIn G.K (.ref fP) = true) (bP : Binds G.K fdP ["_law_script", "_law_place"] [])
    (T : RightI g G lvl F)
    (hr : ∀ s : Pot, Pk 0 s → ∃ s', F [.pot] s = .ok (.bl true) s') (cdv : Value) (A : Around) (outer : List Env) (s : Shared) (H : Hp) (vs : List V) (Q : VK) (E : XK) (hro : Room k (A.deeper (envOfC "law" sc s.heap.objs.size f cdv))) (hgd : g = true → A.guards = some []) (h : spLawT G.K G.cls vs H Q E) :
    ∃ t, PSs (cxOf (L2.CX G.prog G.w) G.prog G.w G.K G.mg G.base LA "law" sc f cdv A outer s H E) bd t ∧ t { nx := fun _ H' => Q .non H', rt := Q } (start LA vs) H := by
  subst hb
  obtain ⟨l, ns, rfl, hs, hl63, htb, q⟩ := h
  obtain ⟨dv, rfl, pe⟩ := T.pe
  have v0 : Vis sc "_law_script" := vis_par' S (by simp)
  have hX : Is (ctxB g G LA sc k 0 E) (cxOf (L2.CX G.prog G.w) G.prog G.w G.K G.mg G.base LA "law" sc f cdv A outer s H E) := is_defB S hro hgd
  have hp := hX.pass
  have hr1 := hro.mono hk
  have hB := fun s H C cl fp => hX.blk (scope := scope) ok.kind s H C cl fp
  refine ⟨_, pss_one (ps_ret (pe_callB (cr_all rfl) g0 mA (by decide +kernel) (pa_cons (pe_lc rfl S.nd (pi_list (pe_call FC hr1 g1 mC kC bC .nil hp (pa_cons (pe_var (i := 0) rfl v0) (pa_cons pe_int pa_nil)))) ok
    (fun s' H' C cl fp => pg_name (i := 1) S.nd rfl (.inl l1) (hf := .inr l1)) (fun s' H' C cl fp => pts_nil)
    (fun s' H' C cl fp => pe (hB s' H' C cl fp) rfl rfl hl g3 (pa_cons (pe_call FP ((hB s' H' C cl fp).room.mono hk) g2 mP kP bP .nil (hB s' H' C cl fp).pass (pa_cons (pe_var (i := 0) rfl v1) (pa_cons (pe_var (i := 1) rfl (.inl l1)) pa_nil))) pa_nil) rfl rfl)) pa_nil))), ?_⟩
  have s0 : (L2.start LA [V.ref l])[0]? = some (some (V.ref l)) := rfl
  refine ⟨_, s0, l, ns, lim, rfl, hs, hl63, hlim, fun q0 hq0 => ?_⟩
  have hcl := cellsN_le (n := ns.length) hl63 hlim
  refine ⟨q0, rfl, ⟨_, SqL.of upd_same⟩, fun D hD => ?_⟩
  let H1 : Hp := upd H q0 (.lst (rgV 0 (cellsN lim ns.length)))
  have nq : q0 ≠ D := fun z => by rw [← z, upd_same] at hD; cases hD
  refine lc_list (K := G.K) (a := q0) (xs := rgV 0 (cellsN lim ns.length)) (fun i H2 => H2 D = some (.lst (List.replicate i (V.bl true))) ∧ (∀ b o, H1 b = some o → (∀ ps, o ≠ .tbl ps) → H2 b = some o) ∧ LamX.Tabs (tabsOf G.cls) H2) ?_ ?_ ?_ ?_
  · refine ⟨upd_same, fun b o e n => ?_, tabs_new (tabs_new htb hq0) hD⟩
    rw [upd_ne (fun z => by rw [z] at e; rw [show H1 D = none from hD] at e; cases e)]; exact e
  · exact fun i H2 _ z => SqL.of (z.2.1 _ _ upd_same (by intro _ w; cases w))
  · rintro i y H2 hi ⟨z1, z2, z3⟩
    have hil : i < (rgV 0 (cellsN lim ns.length)).length := (List.getElem?_eq_some_iff.mp hi).1
    rw [rgV_length] at hil
    have ey : y = V.int ((i : Nat) : Int) := by
      unfold rgV at hi
      rw [List.getElem?_map, List.getElem?_range hil] at hi
      simpa using hi.symm
    subst ey
    have hi1000 : i < 1000 := by omega
    have hs2 : SqL G.K H2 l (ns.map V.int) := seq_keep hs fun b o e n => z2 b o (by show upd H q0 _ b = some o; rw [upd_ne (ne_of_none e hq0)]; exact e) n
    refine ⟨rfl, ?_⟩
    refine ⟨_, rfl, _, rfl, l, ns, i, rfl, hs2, hl63, hi1000, fun q1 x y hq1 hx hy hy2 => ?_⟩
    have hpot : (upd H2 q1 (potO (x, y, 0))) q1 = some (potO (x, y, 0)) := upd_same
    obtain ⟨s', hrun⟩ := hr (x, y, 0) (pk0 hx hy hy2)
    have e0 := ext_pot (K := G.K) (cls := G.cls) hpot (tabs_new z3 hq1)
    refine ⟨rfl, q1, hfOf q1 (upd H2 q1 (potO (x, y, 0))), [.pot], (x, y, 0), e0, .cons .pot .nil, ?_⟩
    rw [hrun]
    intro v Hf' H' xx av
    have ev : v = V.bl true := At.bl' av
    subst ev
    have keep : ∀ b o, H2 b = some o → (∀ ps, o ≠ .tbl ps) → H' b = some o := fun b o e n => by
      have hne : b ≠ q1 := ne_of_none e hq1
      exact xx.old b o hne (by rw [upd_ne hne]; exact e) n
    refine ⟨_, keep _ _ z1 (by intro _ w; cases w), ?_, ?_, fun b o e n => ?_, ?_⟩
    · rw [List.length_replicate, sizeLine_eq]; omega
    · rw [upd_same, List.replicate_succ']
    · have nb : b ≠ D := fun z => by rw [z] at e; rw [show H1 D = none from hD] at e; cases e
      rw [upd_ne nb]; exact keep _ _ (z2 b o e n) n
    · exact tabs_upd xx.tabs (keep _ _ z1 (by intro _ w; cases w)) (noT_lst _)
  · rintro H2 ⟨z1, z2, z3⟩
    refine ⟨D, List.replicate (rgV 0 (cellsN lim ns.length)).length true, rfl, ?_, ?_⟩
    · rw [List.map_replicate]; exact SqL.of z1
    · have : (List.replicate (rgV 0 (cellsN lim ns.length)).length true).all id = true := by
        rw [List.all_eq_true]; intro b hb; exact List.eq_of_mem_replicate hb
      rw [this]; exact q H2
theorem ok_lawAG {k : Nat} {p1 p2 p3 p4 p5 p6 p7 p8 p9 p10 p11 p12 p13 p14 p15 : Pos} {k0 : Nat} {lim : Int} (F' : FunD G.K "law" "law" pa bd sc dvs kws f fd) (S : FnScope LA ["_law_script"] sc) (hb : bd = lawA p1 p2 p3 p4 p5 p6 p7 p8 p9 p10 p11 p12 p13 p14 p15 k0 lim scope)
    (ok : BlkOk LA sc scope [("_law_place", 1)]) (hlim : lim ≤ 1000) (hk : 1 ≤ k) (hl : lvl ≤ k)
    (g0 : sc.names.lookup ("all" : Str) = some .globalImplicit) (g1 : sc.names.lookup ("_law_cells" : Str) = some .globalImplicit) (g2 : (relabelS scope sc).names.lookup ("_law_pot" : Str) = some .globalImplicit) (g3 : (relabelS scope sc).names.lookup ("_law_right" : Str) = some .globalImplicit)
    (l1 : (relabelS scope sc).names.lookup ("_law_place" : Str) = some .local) (v1 : Vis (relabelS scope sc) "_law_script") (mA : G.mg "all" = none)
    (FC : FnOk G.prog G.w G.K G.mg G.base (L2.CX G.prog G.w) 1 fC fdC ["_law_script", "_law_limit"] (spCells G.K)) (mC : G.mg "_law_cells" = some (.ref fC)) (kC : PySem.W.keepIn G.K (.ref fC) = true) (bC : Binds G.K fdC ["_law_script", "_law_limit"] [])
    (FP : FnOk G.prog G.w G.K G.mg G.base (L2.CX G.prog G.w) 1 fP fdP ["_law_script", "_law_place"] (spPot G.K)) (mP : G.mg "_law_pot" = some (.ref fP)) (kP : PySem.W.keepIn G.K (.ref fP) = true) (bP : Binds G.K fdP ["_law_script", "_law_place"] [])
    (T : FnIG G "_law_right" lvl 1 [] F) (hr : ∀ s : Pot, Pk 0 s → ∃ s', F [.pot] s = .ok (.bl true) s') (h0 : G.cls 1000 = 0 := by rfl) : FnG G.prog G.w G.K G.mg G.base (k + 1) f fd ["_law_script"] (spLaw G.K) := by
  obtain ⟨oc, od, dV, kV, doc, pm, an, cdv, ct, osl, rfl, lk, hcd, _, _⟩ := F'.ex
  refine fnG_of lk hcd S (fun vs H Q E h => ?_) fun A fr s H vs Q E hg hro h => lawA_body (g := true) (f := f) S hb ok hlim hk hl g0 g1 g2 g3 l1 v1 mA FC mC kC bC FP mP kP bP ⟨(fun h => by cases h), fun _ => T⟩ hr cdv A fr s H vs Q E hro (fun _ => hg) (spLaw_T h0 h)
  obtain ⟨l, ns, rfl, _⟩ := h; rfl
end
end VL
namespace VL
open PySem PySem.Spec PyProof.Rows L2
def valT (l : List (List Key × D)) (k : List Key) : Option D := (l.find? fun kv => decide (kv.1 = k)).map (·.2)
def putT (l : List (List Key × D)) (k : List Key) (v : D) : List (List Key × D) := if (l.any fun kv => decide (kv.1 = k)) = true then l.map fun kv => if kv.1 = k then (kv.1, v) else kv else l ++ [(k, v)]
section
variable {c : Ctx} {W : Wd} {E : XK} {Γ Γ' Γ'' Γl : Gam} {e a b o : Expr} {f fa fb fo : Rho → M D} {pos : Pos} {Hf H : Hp}
theorem AtKt.nil : AtKt W H [] [] := ⟨rfl, .nil⟩
theorem AtKt.len {ks : List (List Key × V)} {ds : List (List Key × D)} (h : AtKt W H ks ds) : ks.length = ds.length := by
  have := congrArg List.length h.1
  simpa using this
theorem AtKt.inv {p : List Key × V} {ks : List (List Key × V)} {ds : List (List Key × D)} (h : AtKt W H (p :: ks) ds) : ∃ d ds', ds = (p.1, d) :: ds' ∧ At W H p.2 d ∧ AtKt W H ks ds' := by
  obtain ⟨h1, h2⟩ := h
  cases ds with
  | nil => simp at h1
  | cons q ds =>
    obtain ⟨k, d⟩ := q
    simp only [List.map_cons, List.cons.injEq] at h1
    simp only [List.map_cons] at h2
    cases h2 with
    | cons g1 g2 => exact ⟨d, ds, by rw [h1.1], g1, h1.2, g2⟩
theorem AtKt.cons {k : List Key} {v : V} {d : D} {ks : List (List Key × V)} {ds : List (List Key × D)} (h : At W H v d) (r : AtKt W H ks ds) : AtKt W H ((k, v) :: ks) ((k, d) :: ds) := ⟨by simp [r.1], .cons h r.2⟩
theorem AtKt.val : ∀ {ks : List (List Key × V)} {ds : List (List Key × D)} (k : List Key), AtKt W H ks ds → (∀ d, valT ds k = some d → ∃ v, valV ks k = some v ∧ At W H v d) ∧ (valT ds k = none → valV ks k = none)
  | [], ds, k, h => by
    have e : ds = [] := by have := h.len; exact List.length_eq_zero_iff.mp this.symm
    subst e
    exact ⟨fun d h => by simp [valT] at h, fun _ => rfl⟩
  | p :: ks, ds, k, h => by
    obtain ⟨d, ds', rfl, h1, h2⟩ := h.inv
    obtain ⟨i1, i2⟩ := AtKt.val k h2
    by_cases e : p.1 = k
    · have ed : valT ((p.1, d) :: ds') k = some d := by simp [valT, List.find?_cons, e]
      rw [ed, valV_pos e]
      exact ⟨fun d' q => by cases q; exact ⟨_, rfl, h1⟩, fun q => by cases q⟩
    · have ed : valT ((p.1, d) :: ds') k = valT ds' k := by simp [valT, List.find?_cons, e]
      rw [ed, valV_neg e]
      exact ⟨i1, i2⟩
theorem AtKt.any : ∀ {ks : List (List Key × V)} {ds : List (List Key × D)} (k : List Key), AtKt W H ks ds → (ks.any fun kv => decide (kv.1 = k)) = ds.any fun kv => decide (kv.1 = k)
  | [], ds, k, h => by
    have e : ds = [] := by have := h.len; exact List.length_eq_zero_iff.mp this.symm
    subst e; rfl
  | p :: ks, ds, k, h => by
    obtain ⟨d, ds', rfl, h1, h2⟩ := h.inv
    simp only [List.any_cons, AtKt.any k h2]
theorem AtKt.repl : ∀ {ks : List (List Key × V)} {ds : List (List Key × D)} {k : List Key} {v : V} {d : D}, At W H v d → AtKt W H ks ds → AtKt W H (ks.map fun kv => if kv.1 = k then (kv.1, v) else kv) (ds.map fun kv => if kv.1 = k then (kv.1, d) else kv)
  | [], ds, k, v, d, _, h => by
    have e : ds = [] := by have := h.len; exact List.length_eq_zero_iff.mp this.symm
    subst e; exact .nil
  | p :: ks, ds, k, v, d, g, h => by
    obtain ⟨d', ds', rfl, h1, h2⟩ := h.inv
    have ih := AtKt.repl (k := k) g h2
    simp only [List.map_cons]
    by_cases e : p.1 = k
    · rw [if_pos e, if_pos e]; exact .cons g ih
    · rw [if_neg e, if_neg e]; exact .cons (k := p.1) (v := p.2) h1 ih
theorem AtKt.put {ks : List (List Key × V)} {ds : List (List Key × D)} {k : List Key} {v : V} {d : D} (g : At W H v d) (h : AtKt W H ks ds) : AtKt W H (putK ks k v) (putT ds k d) := by
  unfold putK putT
  rw [h.any k]
  split
  · exact .repl g h
  · refine ⟨by simp [h.1], ?_⟩
    simp only [List.map_append, List.map_cons, List.map_nil]
    exact h.2.append (.cons g .nil)
end
end VL
namespace VL
open PySem PySem.Spec PyProof.Rows L2
section
variable {c : Ctx} {W : Wd} {E : XK} {Γ Γ' Γ'' Γl : Gam} {e a b o : Expr} {f fa fb fo : Rho → M D} {pos : Pos} {Hf H : Hp}
def FreshLL (W : Wd) (H0 Hf H : Hp) (qs : List Addr) (ds : List (List D)) : Prop :=
  Paired (fun (q : Addr) (z : List D) => H0 q = none ∧ Hf q = none ∧ q ≠ W.P ∧ ∃ xs, H q = some (.lst xs) ∧ xs.length ≤ sizeLine ∧ AtAll W Hf xs z) qs ds
theorem FreshLL.ext {W : Wd} {H0 Hf H Hf' H' : Hp} {s : Pot} {qs : List Addr} {ds : List (List D)} (h : FreshLL W H0 Hf H qs ds) (x : Ext W Hf H Hf' H' s) : FreshLL W H0 Hf' H' qs ds :=
  Paired.mapP h fun _ _ ⟨a2, a3, a4, xs, a5, a6, a7⟩ => ⟨a2, x.unf _ _ a5 a3, a4, xs, x.old _ _ a4 a5, a6, a7.mono x.ff⟩
theorem FreshLL.upd {W : Wd} {H0 Hf H : Hp} {p : Addr} {o : HO} {qs : List Addr} {ds : List (List D)} (h : FreshLL W H0 Hf H qs ds) (n : p ∉ qs) : FreshLL W H0 Hf (upd H p o) qs ds :=
  Paired.both h fun q _ m ⟨a2, a3, a4, xs, a5, a6, a7⟩ => ⟨a2, a3, a4, xs, by rw [upd_ne (fun z => n (by rw [← z]; exact m))]; exact a5, a6, a7⟩
end
end VL
namespace VL
open PySem PySem.Spec PyProof.Rows L2
def ZipO (h : Heap) (z TI TO : Addr) (f0 : Value) (f : Bool) : Prop := h.get? z = some { cls := .type "zip", dict := none, data := .fields #[f0, .bool f, .bool false, .ref TI, .ref TO], slots := #[] }
def LastP (f0 : Value) : Prop := f0 = .none ∨ ∃ T : Nat, f0 = rawInt T
section
variable {prog : Program} {w : World} {A : Around} {E : Value → Shared → Prop} {s : Shared} {z TI TO i1 i2 : Addr} {fp1 fp2 : List Addr} {n1 n2 i : Nat} {P1 P2 : Nat → Value → Prop} {St1 St2 : Nat → Heap → Prop} {a1 a2 : Value}
end
section
variable {prog : Program} {w : World} {A : Around} {E : Value → Shared → Prop} {s : Shared} {z TI TO i1 i2 : Addr} {fp1 fp2 : List Addr} {n1 n2 i : Nat} {P1 P2 : Nat → Value → Prop} {St1 St2 : Nat → Heap → Prop} {a1 a2 : Value}
end
def ZipSt (t1 t2 : Bool) (N a b : Addr) (i : Nat) (h : Heap) : Prop := (∃ f0 f, LastP f0 ∧ ZipO h (N + 4) (N + 2) (N + 3) f0 f) ∧ IsTupOf2 h (N + 2) (.ref N) (.ref (N + 1)) ∧ (∃ x y, IsTupOf2 h (N + 3) x y) ∧ HasIt t1 N a i h ∧ HasIt t2 (N + 1) b i h
theorem ZipSt.keep {t1 t2 : Bool} {N a b : Addr} {i : Nat} {h h' : Heap} (st : ZipSt t1 t2 N a b i h) (k : ∀ c, c = N + 4 ∨ c = N + 2 ∨ c = N + 3 ∨ c = N ∨ c = N + 1 → ∀ o, h.get? c = some o → h'.get? c = some o) : ZipSt t1 t2 N a b i h' := by
  obtain ⟨⟨f0, f, z1, z2⟩, z3, ⟨x, y, z4⟩, z5, z6⟩ := st
  exact ⟨⟨f0, f, z1, k _ (by simp) _ z2⟩, k _ (by simp) _ z3, ⟨x, y, k _ (by simp) _ z4⟩, z5.kept fun o q => k _ (by simp) o q, z6.kept fun o q => k _ (by simp) o q⟩
end VL
namespace VL
open PySem PySem.Spec PyProof.Rows L2
theorem SqA.mono {K : PySem.W.Frag} {tup : Bool} {H H' : Hp} {a : Addr} {xs : List V} (e : Same H H') (h : SqA K tup H a xs) : SqA K tup H' a xs := by
  cases tup with
  | true => exact Same.sqT e h
  | false =>
    rcases h with h | h
    · exact .inl (Same.rd e h)
    · exact .inr h
theorem SqA.at {K : PySem.W.Frag} {tup : Bool} {H H' : Hp} {a : Addr} {xs : List V} (e : H' a = H a) (h : SqA K tup H a xs) : SqA K tup H' a xs := by
  have rd : ∀ {u : HO}, Rd H a u → Rd H' a u := fun {u} z => by
    rcases z with z | ⟨o, z⟩
    · exact .inl (e.trans z)
    · exact .inr ⟨o, e.trans z⟩
  cases tup with
  | true =>
    rcases h with h | h
    · exact .inl (rd h)
    · exact .inr h
  | false =>
    rcases h with h | h
    · exact .inl (rd h)
    · exact .inr h
def ZipCells (N c : Nat) : Prop := c = N + 4 ∨ c = N + 2 ∨ c = N + 3 ∨ c = N ∨ c = N + 1
section
variable {X : Cx} {pins : List (Addr × Obj)} {σ : L2.St} {A : Around} {R : Result → Shared → Prop} {t1 t2 : Bool} {N a b S : Addr} {xs ys : List V} {M : Nat → List V → Hp → Prop}
end
section
variable {c : Ctx} {W : Wd} {E : XK} {Γ : Gam} {e a b o : Expr} {f fa fb fo : Rho → M D} {pos : Pos} {Hf H : Hp}
theorem VAt.sq {v : V} {d : D} {l : List D} (x0 : Same Hf H) (h : VAt W Hf H v d) (e : seqOf d = some l) : ∃ t a xs, v = .ref a ∧ SqA W.K t H a xs ∧ AtAll W Hf xs l ∧ xs.length ≤ sizeLine ∧ (a ≠ W.P ∨ SqA W.K t Hf a xs) ∧ (SqA W.K t Hf a xs ∨ H a = some (.lst xs)) := by
  cases h with
  | fr h =>
    cases h with
    | tup h1 h2 h3 =>
      have h1 := sq_of (K := W.K) h1
      cases e
      exact ⟨true, _, _, rfl, Same.sqT x0 h1, h3, h2, .inr h1, .inl h1⟩
    | lst h1 h2 h3 =>
      cases e
      exact ⟨false, _, _, rfl, SqL.of (x0 _ _ h1), h3, h2, .inr (SqL.of h1), .inl (SqL.of h1)⟩
    | _ => cases e
  | lst h0 h1 h2 h3 =>
    cases e
    exact ⟨false, _, _, rfl, SqL.of h1, h3, h2, .inl h0, .inr h1⟩
  | dct _ _ _ _ => cases e
  | dtt _ _ _ _ => cases e
end
end VL
namespace VL
open PySem PySem.Spec PyProof.Rows L2
def ZipS0 (t1 t2 : Bool) (N a b : Addr) (i : Nat) (h : Heap) : Prop := IsZip h (N + 4) (N + 2) (N + 3) .none ∧ IsTupOf2 h (N + 2) (.ref N) (.ref (N + 1)) ∧ (∃ x y, IsTupOf2 h (N + 3) x y) ∧ HasIt t1 N a i h ∧ HasIt t2 (N + 1) b i h
theorem ZipS0.keep {t1 t2 : Bool} {N a b : Addr} {i : Nat} {h h' : Heap} (st : ZipS0 t1 t2 N a b i h) (k : ∀ c, ZipCells N c → ∀ o, h.get? c = some o → h'.get? c = some o) : ZipS0 t1 t2 N a b i h' := by
  obtain ⟨z2, z3, ⟨x, y, z4⟩, z5, z6⟩ := st
  exact ⟨k _ (.inl rfl) _ z2, k _ (.inr (.inl rfl)) _ z3, ⟨x, y, k _ (.inr (.inr (.inl rfl))) _ z4⟩, z5.kept fun o q => k _ (.inr (.inr (.inr (.inl rfl)))) o q, z6.kept fun o q => k _ (.inr (.inr (.inr (.inr rfl)))) o q⟩
section
variable {c : Ctx} {W : Wd} {E : XK} {Γ : Gam} {e a b o : Expr} {f fa fb fo : Rho → M D} {pos : Pos} {Hf H : Hp}
theorem At.sq {v : V} {d : D} {l : List D} (h : At W Hf v d) (e : seqOf d = some l) : ∃ t a xs, v = .ref a ∧ SqA W.K t Hf a xs ∧ AtAll W Hf xs l ∧ xs.length ≤ sizeLine := by
  cases h with
  | tup h1 h2 h3 => have h1 := sq_of (K := W.K) h1; cases e; exact ⟨true, _, _, rfl, h1, h3, h2⟩
  | lst h1 h2 h3 => cases e; exact ⟨false, _, _, rfl, SqL.of h1, h3, h2⟩
  | _ => cases e
end
end VL
namespace VL
open PySem PySem.Spec PyProof.Rows L2
section
variable {prog : Program} {w : World} {A : Around} {E : Value → Shared → Prop} {s : Shared} {K : PySem.W.Frag} {x C f : Addr} {ox : Obj} {od : Option Obj}
end
section
variable {X : Cx} {CX : CXT} {pins : List (Addr × Obj)} {σ : L2.St} {H : Hp} {s : Shared} {C g : Addr} {n : Nat} {sp : Sp} {E : XK}
end
structure OpI (G : Glob) (ci : Nat) (m : Str) (lvl n : Nat) (F : List D → M D) : Prop where
  sf : PySem.W.selfFirst G.K (G.cls ci) = true
  nf : PySem.W.notFirst G.K (G.cls ci) (.ref (G.cls ci)) = true
  ex : ∃ g, PySem.W.findIn G.K (.ref (G.cls ci)) m = some (some (.ref g)) ∧ PySem.W.isFn G.K (.ref g) = true ∧ FnR G.prog G.w G.K G.mg G.base (L2.CX G.prog G.w) lvl g (spOf G.K G.cls n F)
theorem OpI.imp {G : Glob} {ci : Nat} {m : Str} {lvl n : Nat} {F F' : List D → M D} (T : OpI G ci m lvl n F) (h : ∀ ds, Le (F' ds) (F ds)) : OpI G ci m lvl n F' := by
  obtain ⟨g, h1, h2, h3⟩ := T.ex
  exact ⟨T.sf, T.nf, g, h1, h2, h3.imp fun _ _ _ _ z => spOf_imp h z⟩
section
variable {c : Ctx} {W : Wd} {E : XK} {Γ Γ' Γ'' Γl : Gam} {e a b d' o : Expr} {f fa fb fc fo : Rho → M D} {pos : Pos} {Hf H : Hp}
def CoreC (c : Ctx) (Γ : Gam) (op : CmpOp) (a b : Expr) (f : Rho → M D) : Prop := ∃ (ta tb : TE) (r : R2), (∀ X, Is c X → OpR X (compareOp op) r) ∧ (∀ X, Is c X → PE X a ta) ∧ (∀ X, Is c X → PE X b tb) ∧ RX c.W c.E Γ (rAt c.W) (tOp r ta tb) f
theorem CoreC.jt {op : CmpOp} (h : CoreC c Γ op a b f) (hbm : behindInMarks op b = false := by rfl) : JT c Γ (.Compare a [op] [b] pos) (tst f) := by
  obtain ⟨ta, tb, r, h1, h2, h3, h4⟩ := h
  refine ⟨tTest (tOp r ta tb), fun X hX => pt_cmpR (h1 X hX) (h2 X hX) (h3 X hX) hbm, rt_of ?_⟩
  intro B ρ s σ Hf H Q V p
  exact h4 B ρ s σ Hf H Q V (p.imp (fun d s' k v Hf' H' x r => k v Hf' H' x (.fr r)) fun _ _ _ z => z)
end
end VL
namespace VL
open PySem PySem.Spec PyProof.Rows L2
section
variable {c : Ctx} {W : Wd} {E : XK} {Γ : Gam} {a b : Expr} {fa fb : Rho → M D} {pos : Pos}
theorem AtAll.rep {Hf : Hp} {xs : List V} {ds : List D} (h : AtAll W Hf xs ds) : ∀ n, AtAll W Hf (List.replicate n xs).flatten (List.replicate n ds).flatten
  | 0 => .nil
  | n + 1 => by
    rw [List.replicate_succ, List.replicate_succ, List.flatten_cons, List.flatten_cons]
    exact h.append (AtAll.rep h n)
end
end VL
namespace VL
open PySem PySem.Spec PyProof.Rows L2
section
variable {c : Ctx} {W : Wd} {E : XK} {Γ Γ' Γ'' Γl : Gam} {e a b o : Expr} {f fa fb fo : Rho → M D} {pos : Pos} {Hf H : Hp}
theorem Paired.at {α β : Type} {F : α → β → Prop} : ∀ {l : List α} {m : List β} {k : Nat} {y : β}, Paired F l m → m[k]? = some y → ∃ x, l[k]? = some x ∧ F x y
  | _, _, _, _, .nil, e => by simp at e
  | _, _, 0, _, .cons h r, e => by simp at e; subst e; exact ⟨_, rfl, h⟩
  | _, _, k + 1, y, .cons h r, e => by
    obtain ⟨x, e1, h1⟩ := Paired.at r (k := k) (y := y) (by simpa using e)
    exact ⟨x, by simpa using e1, h1⟩
end
end VL
namespace VL
open PySem PySem.Spec PyProof.Rows L2
section
variable {α β γ : Type}
@[simp] theorem m_pure_bind (a : α) (f : α → M β) : ((pure a : M α) >>= f) = f a := by funext s; rfl
@[simp] theorem m_bind_pure (m : M α) : (m >>= fun a => (pure a : M α)) = m := by
  funext s
  show (match m s with | .ok a s' => (pure a : M α) s' | .err c v s' => .err c v s' | .fail => .fail) = m s
  cases m s <;> rfl
@[simp] theorem m_bind_assoc (m : M α) (f : α → M β) (g : β → M γ) : ((m >>= f) >>= g) = (m >>= fun a => f a >>= g) := by
  funext s
  show (match (match m s with | .ok a s' => f a s' | .err c v s' => .err c v s' | .fail => .fail : R β) with | .ok a s' => g a s' | .err c v s' => .err c v s' | .fail => .fail) = (match m s with | .ok a s' => (f a >>= g) s' | .err c v s' => .err c v s' | .fail => .fail)
  cases m s <;> rfl
@[simp] theorem m_nope_bind (f : α → M β) : ((nope : M α) >>= f) = nope := by funext s; rfl
@[simp] theorem noE_pure (a : α) : noE (pure a : M α) = pure a := by funext s; rfl
@[simp] theorem slot_zero (d : D) (ρ : Rho) : slot 0 (some d :: ρ) = pure d := by funext s; rfl
@[simp] theorem slot_succ (i : Nat) (x : Option D) (ρ : Rho) : slot (i + 1) (x :: ρ) = slot i ρ := by
  unfold slot; simp
@[simp] theorem asBl_bl (b : Bool) : asBl (.bl b) = pure b := by funext s; rfl
@[simp] theorem asInt_int (i : Int) : asInt (.int i) = pure i := by funext s; rfl
@[simp] theorem asLst_lst (l : List D) : asLst (.lst l) = pure l := by funext s; rfl
@[simp] theorem asDct_dct (l : List (Key × D)) : asDct (.dct l) = pure l := by funext s; rfl
def Tk (k : Nat) (m : M α) (P : α → Prop) : Prop := ∀ (b : Int) (s : Pot), Pk b s → b + k ≤ 100000 → ∃ a s', m s = .ok a s' ∧ Pk (b + k) s' ∧ P a
theorem Pk.mono {b b' : Int} {s : Pot} (h : Pk b s) (hb : b ≤ b') : Pk b' s := ⟨h.1, h.2.1, h.2.2.1, h.2.2.2.1, Int.le_trans h.2.2.2.2 hb⟩
theorem Tk.ret {P : α → Prop} {a : α} (h : P a) : Tk 0 (pure a : M α) P := fun b s hp _ => ⟨a, s, rfl, by simpa using hp, h⟩
theorem Tk.bind {P : α → Prop} {Q : β → Prop} {k1 k2 : Nat} {m : M α} {f : α → M β} (h : Tk k1 m P) (g : ∀ a, P a → Tk k2 (f a) Q) : Tk (k1 + k2) (m >>= f) Q := by
  intro b s hp hb
  obtain ⟨a, s1, e1, p1, q1⟩ := h b s hp (by omega)
  obtain ⟨a2, s2, e2, p2, q2⟩ := g a q1 (b + k1) s1 p1 (by omega)
  refine ⟨a2, s2, ?_, ?_, q2⟩
  · rw [bind_run, e1]; exact e2
  · have : b + ((k1 + k2 : Nat) : Int) = b + k1 + k2 := by omega
    rw [this]; exact p2
theorem Tk.mono {P Q : α → Prop} {k k' : Nat} {m : M α} (h : Tk k m P) (hk : k ≤ k') (hq : ∀ a, P a → Q a) : Tk k' m Q := by
  intro b s hp hb
  obtain ⟨a, s1, e1, p1, q1⟩ := h b s hp (by omega)
  exact ⟨a, s1, e1, p1.mono (by omega), hq a q1⟩
theorem Tk.imp {P Q : α → Prop} {k : Nat} {m : M α} (h : Tk k m P) (hq : ∀ a, P a → Q a) : Tk k m Q := h.mono (Nat.le_refl _) hq
end
def okD : Nat → D → Bool
  | _, .str x => x.cps.all (· < 0x110000)
  | _, .non => true
  | _, .int _ => true
  | _, .bl _ => true
  | n + 1, .tup l => l.all (okD n)
  | n + 1, .lst l => l.all (okD n)
  | _, _ => false
mutual
def eqB : D → D → Bool
  | .non, .non => true
  | .bl a, .bl b => a == b
  | .bl a, .int j => (if a then 1 else 0) == j
  | .int i, .bl b => i == (if b then 1 else 0)
  | .int i, .int j => i == j
  | .str x, .str y => x == y
  | .tup l, .tup m => eqBL l m
  | .lst l, .lst m => eqBL l m
  | _, _ => false
def eqBL : List D → List D → Bool
  | [], [] => true
  | x :: l, y :: m => eqB x y && eqBL l m
  | _, _ => false
end
theorem okD_py : ∀ (n : Nat) (d : D), okD n d = true → ∃ p, toPy d = some p ∧ p.canLay0 = true ∧ p.depth ≤ n
  | 0, .str x, h => ⟨_, rfl, h, by simp [PyData.depth]⟩
  | n + 1, .str x, h => ⟨_, rfl, h, by simp [PyData.depth]⟩
  | 0, .non, h => ⟨_, rfl, rfl, by simp [PyData.depth]⟩
  | n + 1, .non, h => ⟨_, rfl, rfl, by simp [PyData.depth]⟩
  | 0, .int i, h => ⟨_, rfl, rfl, by simp [PyData.depth]⟩
  | n + 1, .int i, h => ⟨_, rfl, rfl, by simp [PyData.depth]⟩
  | 0, .bl i, h => ⟨_, rfl, rfl, by simp [PyData.depth]⟩
  | n + 1, .bl i, h => ⟨_, rfl, rfl, by simp [PyData.depth]⟩
  | n + 1, .tup l, h => by
    have key : ∀ m : List D, (∀ x ∈ m, okD n x = true) → ∃ ps, toPyL m = some ps ∧ PyData.canLayAll0 ps = true ∧ PyData.depthAll ps ≤ n := by
      intro m
      induction m with
      | nil => intro _; exact ⟨[], rfl, rfl, by simp [PyData.depthAll]⟩
      | cons x m ih =>
        intro hm
        obtain ⟨p, e1, e2, e3⟩ := okD_py n x (hm x (by simp))
        obtain ⟨ps, f1, f2, f3⟩ := ih fun y hy => hm y (by simp [hy])
        exact ⟨p :: ps, by simp [toPyL, e1, f1], by simp [PyData.canLayAll0, e2, f2], by simp [PyData.depthAll]; omega⟩
    obtain ⟨ps, f1, f2, f3⟩ := key l (by simpa [okD] using h)
    exact ⟨.tuple ps, by simp [toPy, f1], by simpa [PyData.canLay0] using f2, by simp [PyData.depth]; omega⟩
  | n + 1, .lst l, h => by
    have key : ∀ m : List D, (∀ x ∈ m, okD n x = true) → ∃ ps, toPyL m = some ps ∧ PyData.canLayAll0 ps = true ∧ PyData.depthAll ps ≤ n := by
      intro m
      induction m with
      | nil => intro _; exact ⟨[], rfl, rfl, by simp [PyData.depthAll]⟩
      | cons x m ih =>
        intro hm
        obtain ⟨p, e1, e2, e3⟩ := okD_py n x (hm x (by simp))
        obtain ⟨ps, f1, f2, f3⟩ := ih fun y hy => hm y (by simp [hy])
        exact ⟨p :: ps, by simp [toPyL, e1, f1], by simp [PyData.canLayAll0, e2, f2], by simp [PyData.depthAll]; omega⟩
    obtain ⟨ps, f1, f2, f3⟩ := key l (by simpa [okD] using h)
    exact ⟨.list ps, by simp [toPy, f1], by simpa [PyData.canLay0] using f2, by simp [PyData.depth]; omega⟩
theorem py_okD {n : Nat} {d : D} (h : okD n d = true) (hn : n ≤ 64) : ∃ p, py d = some p ∧ toPy d = some p := by
  obtain ⟨p, e1, e2, e3⟩ := okD_py n d h
  refine ⟨p, ?_, e1⟩
  unfold py
  rw [e1]
  have : SeqAt.shaped p = true := by
    unfold SeqAt.shaped
    rw [e2]
    simp
    omega
  simp [this]
mutual
theorem eqv_eqB : ∀ (d e : D) (p q : PyData), toPy d = some p → toPy e = some q → PyData.eqv p q = eqB d e
  | .non, e, p, q, h1, h2 => by
    simp [toPy] at h1; subst h1
    cases e <;> simp [toPy] at h2 <;> (try subst h2) <;> (try (obtain ⟨a, _, rfl⟩ := h2)) <;> simp [PyData.eqv, eqB]
  | .bl b, e, p, q, h1, h2 => by
    simp [toPy] at h1; subst h1
    cases e <;> simp [toPy] at h2 <;> (try subst h2) <;> (try (obtain ⟨a, _, rfl⟩ := h2)) <;> simp [PyData.eqv, eqB]
  | .int b, e, p, q, h1, h2 => by
    simp [toPy] at h1; subst h1
    cases e <;> simp [toPy] at h2 <;> (try subst h2) <;> (try (obtain ⟨a, _, rfl⟩ := h2)) <;> simp [PyData.eqv, eqB]
  | .str b, e, p, q, h1, h2 => by
    simp [toPy] at h1; subst h1
    cases e <;> simp [toPy] at h2 <;> (try subst h2) <;> (try (obtain ⟨a, _, rfl⟩ := h2)) <;> simp [PyData.eqv, eqB]
  | .tup l, e, p, q, h1, h2 => by
    simp [toPy] at h1
    obtain ⟨ps, e1, rfl⟩ := h1
    cases e with
    | tup m =>
      simp [toPy] at h2
      obtain ⟨qs, e2, rfl⟩ := h2
      simp only [PyData.eqv, eqB]
      exact eqvAll_eqBL l m ps qs e1 e2
    | lst m => simp [toPy] at h2; obtain ⟨qs, e2, rfl⟩ := h2; simp [PyData.eqv, eqB]
    | _ => simp [toPy] at h2 <;> (try subst h2) <;> simp [PyData.eqv, eqB]
  | .lst l, e, p, q, h1, h2 => by
    simp [toPy] at h1
    obtain ⟨ps, e1, rfl⟩ := h1
    cases e with
    | lst m =>
      simp [toPy] at h2
      obtain ⟨qs, e2, rfl⟩ := h2
      simp only [PyData.eqv, eqB]
      exact eqvAll_eqBL l m ps qs e1 e2
    | tup m => simp [toPy] at h2; obtain ⟨qs, e2, rfl⟩ := h2; simp [PyData.eqv, eqB]
    | _ => simp [toPy] at h2 <;> (try subst h2) <;> simp [PyData.eqv, eqB]
  | .dct _, _, _, _, h1, _ => by simp [toPy] at h1
  | .obj _ _, _, _, _, h1, _ => by simp [toPy] at h1
  | .exc _ _, _, _, _, h1, _ => by simp [toPy] at h1
  | .clo _ _, _, _, _, h1, _ => by simp [toPy] at h1
  | .pot, _, _, _, h1, _ => by simp [toPy] at h1
  | .tok _, _, _, _, h1, _ => by simp [toPy] at h1
  | .vex, _, _, _, h1, _ => by simp [toPy] at h1
theorem eqvAll_eqBL : ∀ (l m : List D) (ps qs : List PyData), toPyL l = some ps → toPyL m = some qs → PyData.eqvAll ps qs = eqBL l m
  | [], [], ps, qs, h1, h2 => by cases h1; cases h2; rfl
  | [], y :: m, ps, qs, h1, h2 => by
    cases h1
    simp only [toPyL] at h2
    split at h2
    · cases h2; rfl
    · cases h2
  | x :: l, [], ps, qs, h1, h2 => by
    cases h2
    simp only [toPyL] at h1
    split at h1
    · cases h1; rfl
    · cases h1
  | x :: l, y :: m, ps, qs, h1, h2 => by
    simp only [toPyL] at h1 h2
    cases e1 : toPy x with
    | none => rw [e1] at h1; cases h1
    | some a =>
      cases e2 : toPyL l with
      | none => rw [e1, e2] at h1; cases h1
      | some as =>
        cases f1 : toPy y with
        | none => rw [f1] at h2; cases h2
        | some b =>
          cases f2 : toPyL m with
          | none => rw [f1, f2] at h2; cases h2
          | some bs =>
            rw [e1, e2] at h1
            rw [f1, f2] at h2
            cases h1
            cases h2
            simp only [PyData.eqvAll, eqBL]
            rw [eqv_eqB x y a b e1 f1, eqvAll_eqBL l m as bs e2 f2]
end
theorem eqD_ok {d e : D} (h1 : okD 64 d = true) (h2 : okD 64 e = true) : eqD d e = some (.bl (eqB d e)) := by
  obtain ⟨p, e1, f1⟩ := py_okD h1 (Nat.le_refl _)
  obtain ⟨q, e2, f2⟩ := py_okD h2 (Nat.le_refl _)
  unfold eqD
  rw [e1, e2]
  simp [eqv_eqB d e p q f1 f2]
theorem neD_ok {d e : D} (h1 : okD 64 d = true) (h2 : okD 64 e = true) : neD d e = some (.bl (!eqB d e)) := by
  obtain ⟨p, e1, f1⟩ := py_okD h1 (Nat.le_refl _)
  obtain ⟨q, e2, f2⟩ := py_okD h2 (Nat.le_refl _)
  unfold neD
  rw [e1, e2]
  simp [eqv_eqB d e p q f1 f2]
end VL
namespace VL
open PySem PySem.Spec PyProof.Rows L2
noncomputable def LB_l_take (c1 : Int) (c2 : Int) (c3 : Int) : Rho → M Fl := (seqS (ifS (tst (bin gtD (potGet (slot 0) (fun _ => pure (.int 0))) (fun _ => pure (.int 0)))) (seqS (setS 2 (bin modD (callF intD (consA (potGet (slot 0) (fun _ => pure (.int 0))) nilA)) (slot 1))) (seqS (potSet (slot 0) (fun _ => pure (.int 0)) (bin fdivD (potGet (slot 0) (fun _ => pure (.int 0))) (slot 1))) (retS (slot 2)))) skip) (seqS (potSet (slot 0) (fun _ => pure (.int 2)) (bin addD (potGet (slot 0) (fun _ => pure (.int 2))) (fun _ => pure (.int 1)))) (seqS (setS 3 (bin idxD (lstF (consA (fun _ => pure (.int 2147483647)) (consA (fun _ => pure (.int 2147483629)) (consA (fun _ => pure (.int 2147483587)) (consA (fun _ => pure (.int 2147483579)) (consA (fun _ => pure (.int 2147483563)) nilA)))))) (bin modD (callF intD (consA (potGet (slot 0) (fun _ => pure (.int 2))) nilA)) (fun _ => pure (.int 5))))) (seqS (setS 4 (bin modD (callF intD (consA (bin powD (callF intD (consA (bin addD (bin addD (potGet (slot 0) (fun _ => pure (.int 1))) (bin mulD (bin mulD (fun _ => pure (.int c1)) (potGet (slot 0) (fun _ => pure (.int 2)))) (potGet (slot 0) (fun _ => pure (.int 2))))) (fun _ => pure (.int c2))) nilA)) (fun _ => pure (.int 3))) nilA)) (slot 3))) (seqS (setS 4 (bin modD (callF intD (consA (bin mulD (slot 4) (bin addD (bin modD (callF intD (consA (slot 4) nilA)) (fun _ => pure (.int 10427))) (bin mulD (fun _ => pure (.int c3)) (potGet (slot 0) (fun _ => pure (.int 2)))))) nilA)) (fun _ => pure (.int 2305843009213693907)))) (retS (bin modD (callF intD (consA (bin fdivD (slot 4) (fun _ => pure (.int 137))) nilA)) (slot 1))))))))
noncomputable def LB_l_of (t_l_take : List D → M D) : Rho → M Fl := (retS (bin idxD (slot 1) (fnF 2 t_l_take [] (consA (slot 0) (consA (callF lenD (consA (slot 1) nilA)) nilA)))))
end VL
namespace VL
open PySem PySem.Spec PyProof.Rows L2
section
variable {c : Ctx} {W : Wd} {E : XK} {Γ Γ' Γl : Gam} {e a : Expr} {f fa fe fk : Rho → M D} {pos : Pos} {Hf H : Hp}
theorem Paired.len {α β : Type} {F : α → β → Prop} : ∀ {l : List α} {m : List β}, Paired F l m → l.length = m.length
  | _, _, .nil => rfl
  | _, _, .cons _ r => by simp [Paired.len r]
end
end VL
namespace VL
open PySem PySem.Spec PyProof.Rows L2
section
variable {c : Ctx} {W : Wd} {E : XK} {Γ Γ' Γl : Gam} {e e1 e2 : Expr} {f f1 f2 : Rho → M D} {pos : Pos} {Hf H : Hp} {st : Stmt} {sts : List Stmt} {n ci j : Nat}
structure OwnF (W : Wd) (B : Hp × Hp) (ci j : Nat) (a dx w : Addr) (xs : List (Option V)) (ws : List V) (wd : List D) (fs : List (Option D)) (Hf H : Hp) : Prop where
  b1 : B.2 a = none
  b2 : B.2 dx = none
  b3 : B.2 w = none
  p1 : a ≠ W.P
  p2 : dx ≠ W.P
  p3 : w ≠ W.P
  n1 : dx ≠ a
  n2 : w ≠ a
  n3 : w ≠ dx
  f1 : Hf a = none
  f2 : Hf dx = none
  f3 : Hf w = none
  sl : SlX.Slt H a (W.cls ci) dx xs
  oa : ∃ o, H a = some o ∧ NoT o
  od : ∃ o, H dx = some o ∧ NoT o
  xj : xs[j]? = some (some (.ref w))
  fj : fs[j]? = some (some (.lst wd))
  hw : H w = some (.lst ws)
  sz : ws.length ≤ sizeLine
  at_ : AtAll W Hf ws wd
  fld : FldAt W Hf (xs.set j Option.none) (fs.set j Option.none)
structure InitAtL (W : Wd) (B : Hp × Hp) (ci j n : Nat) (ρ : Rho) (fs : List (Option D)) (s : Pot) (σ : L2.St) (Hf H : Hp) : Prop where
  ex : ∃ a dx w xs ws wd, ρ[0]? = some (some (.tok a)) ∧ OwnF W B ci j a dx w xs ws wd fs Hf H
  ext : Ext W B.1 B.2 Hf H s
  env : EnvAt W (Hf, H) (gam0 n) ρ s σ Hf H
theorem slt_ext {s : Pot} {a dx C : Addr} {xs : List (Option V)} {Hf' H' : Hp} (h : SlX.Slt H a C dx xs) (x : Ext W Hf H Hf' H' s) (p1 : a ≠ W.P) (p2 : dx ≠ W.P) : SlX.Slt H' a C dx xs := by
  rcases h with ⟨z1, z2⟩ | ⟨z1, z2⟩
  · exact .inl ⟨x.old _ _ p1 z1, z2⟩
  · exact .inr ⟨x.old _ _ p1 z1 (noT_slO _ _ _ _).1, x.old _ _ p2 z2⟩
theorem OwnF.ext {B : Hp × Hp} {s : Pot} {a dx w : Addr} {xs : List (Option V)} {ws : List V} {wd : List D} {fs : List (Option D)} {Hf' H' : Hp} (h : OwnF W B ci j a dx w xs ws wd fs Hf H) (x : Ext W Hf H Hf' H' s) : OwnF W B ci j a dx w xs ws wd fs Hf' H' where
  b1 := h.b1
  b2 := h.b2
  b3 := h.b3
  p1 := h.p1
  p2 := h.p2
  p3 := h.p3
  n1 := h.n1
  n2 := h.n2
  n3 := h.n3
  f1 := by obtain ⟨o, q, _⟩ := h.oa; exact x.unf _ _ q h.f1
  f2 := by obtain ⟨o, q, _⟩ := h.od; exact x.unf _ _ q h.f2
  f3 := x.unf _ _ h.hw h.f3
  sl := slt_ext h.sl x h.p1 h.p2
  oa := by obtain ⟨o, q, t⟩ := h.oa; exact ⟨o, x.old _ _ h.p1 q t.1, t⟩
  od := by obtain ⟨o, q, t⟩ := h.od; exact ⟨o, x.old _ _ h.p2 q t.1, t⟩
  xj := h.xj
  fj := h.fj
  hw := x.old _ _ h.p3 h.hw
  sz := h.sz
  at_ := h.at_.mono x.ff
  fld := h.fld.mono x.ff
theorem Ext.rebase {B : Hp × Hp} {s : Pot} (x : Ext W B.1 B.2 Hf H s) : Ext W (VL.rebase B Hf).1 (VL.rebase B Hf).2 Hf H s :=
  (EnvAt.rebase (Γ := []) (ρ := []) (σ := []) ⟨x, rfl, fun _ => Option.none, fun i d e => (by simp at e), fun q i e => (nomatch e)⟩).ext
theorem base_none {B : Hp × Hp} {b : Addr} (h : (VL.rebase B Hf).2 b = Option.none) : B.2 b = Option.none := by
  rw [rebase_snd] at h
  cases q : Hf b with
  | some u => rw [q] at h; cases h
  | none => rw [q] at h; exact h
theorem none_base {B : Hp × Hp} {b : Addr} (h : B.2 b = Option.none) (hf : Hf b = Option.none) : (VL.rebase B Hf).2 b = Option.none := by
  rw [rebase_snd, hf]; exact h
theorem InitAtL.rebase {B : Hp × Hp} {ρ : Rho} {fs : List (Option D)} {s : Pot} {σ : L2.St} (V : InitAtL W B ci j n ρ fs s σ Hf H) : InitAtL W (VL.rebase B Hf) ci j n ρ fs s σ Hf H := by
  obtain ⟨a, dx, w, xs, ws, wd, e1, O⟩ := V.ex
  exact ⟨⟨a, dx, w, xs, ws, wd, e1, { O with b1 := none_base O.b1 O.f1, b2 := none_base O.b2 O.f2, b3 := none_base O.b3 O.f3 }⟩, V.ext.rebase, V.env⟩
theorem InitAtL.unbase {B : Hp × Hp} {ρ : Rho} {fs : List (Option D)} {s s1 : Pot} {σ : L2.St} {Hf1 H1 : Hp} (x : Ext W B.1 B.2 Hf H s) (V : InitAtL W (VL.rebase B Hf) ci j n ρ fs s1 σ Hf1 H1) : InitAtL W B ci j n ρ fs s1 σ Hf1 H1 := by
  obtain ⟨a, dx, w, xs, ws, wd, e1, O⟩ := V.ex
  exact ⟨⟨a, dx, w, xs, ws, wd, e1, { O with b1 := base_none O.b1, b2 := base_none O.b2, b3 := base_none O.b3 }⟩, x.unbase V.ext, V.env⟩
theorem InitAtL.done {B : Hp × Hp} {ρ : Rho} {fs : List (Option D)} {s : Pot} {σ : L2.St} (V : InitAtL W B ci j n ρ fs s σ Hf H) : ∃ Hf', InitAt W B ci n ρ fs s σ Hf' H := by
  obtain ⟨a, dx, w, xs, ws, wd, e1, O⟩ := V.ex
  have sm : Same Hf (upd Hf w (.lst ws)) := fun b u e => by
    rw [upd_ne (fun z => by rw [z, O.f3] at e; cases e)]; exact e
  have x := V.ext.freeze O.hw O.f3 O.p3 O.b3
  refine ⟨upd Hf w (.lst ws), ⟨a, dx, xs, e1, O.b1, O.b2, O.p1, O.p2, O.n1, by rw [upd_ne (Ne.symm O.n2)]; exact O.f1, by rw [upd_ne (Ne.symm O.n3)]; exact O.f2, O.sl, ?_, O.oa, O.od⟩, x, env_mk x.refl V.env.len fun i d e => by
    obtain ⟨v, q1, q2⟩ := env_all V.env i d e
    exact ⟨v, q1, q2.mono sm⟩⟩
  have aw : At W (upd Hf w (.lst ws)) (.ref w) (.lst wd) := .lst upd_same O.sz (O.at_.mono sm)
  have := (O.fld.mono sm).set aw j
  rw [List.set_set, List.set_set] at this
  have ex : xs.set j (some (.ref w)) = xs := List.ext_getElem? fun k => by
    by_cases q : k = j
    · subst q; rw [O.xj, List.getElem?_set_self (by have := List.getElem?_eq_some_iff.mp O.xj; exact this.1)]
    · rw [List.getElem?_set_ne (Ne.symm q)]
  have ef : fs.set j (some (.lst wd)) = fs := List.ext_getElem? fun k => by
    by_cases q : k = j
    · subst q; rw [O.fj, List.getElem?_set_self (by have := List.getElem?_eq_some_iff.mp O.fj; exact this.1)]
    · rw [List.getElem?_set_ne (Ne.symm q)]
  rw [ex, ef] at this
  exact this
end
end VL
namespace VL
open PySem PySem.Spec PyProof.Rows L2
def cxS (CX : CXT) (P : Program) (w : World) (K : PySem.W.Frag) (mg : Str → Option Value) (base : Heap) (N : List Str) (qual : Str) (scope : Scope) (f : Addr) (cd : Value) (cc : Addr) (A : Around) (outer : List Env) (s : Shared) (H : Hp) (E : XK) : Cx :=
  let en := PySem.W.ksEnv qual scope s.heap.objs.size f cd cc
  { prog := P, w := w, K := K, mg := mg, base := base, A := A.deeper en, N := N, s_0 := s, H_0 := H, env := en, outer := outer, stack := en :: outer, ex := [], calm := true, fn := fun _ => false, pn := [],
    xe := fun e s' => wpAny (model P w) (A.deeper en) (leaving en e) (fun _ s2 => CX outer H s E e s2) (fun e2 s2 => CX outer H s E e2 s2) s' }
structure SupSc (scope : Scope) : Prop where
  kind : scope.kind = .function
  co : scope.isCoroutine = false
  gen : scope.isGenerator = false
  self : scope.names.lookup ("self" : Str) = some .local
  value : scope.names.lookup ("value" : Str) = some .local
  sup : scope.names.lookup ("super" : Str) = some .globalImplicit
  cls : scope.names.lookup ("__class__" : Str) = some .free
  nocell : ∀ y ∈ scope.names, y.2 ≠ .cell
  free : ∀ y ∈ scope.names, y.2 = .free → y.1 = "__class__"
def supScB (scope : Scope) : Bool :=
  decide (scope.kind = .function) && !scope.isCoroutine && !scope.isGenerator && decide (scope.names.lookup ("self" : Str) = some .local) && decide (scope.names.lookup ("value" : Str) = some .local) && decide (scope.names.lookup ("super" : Str) = some .globalImplicit) && decide (scope.names.lookup ("__class__" : Str) = some .free) &&
    scope.names.all (fun y => !decide (y.2 = .cell)) && scope.names.all (fun y => !decide (y.2 = .free) || decide (y.1 = "__class__"))
theorem supSc_by {scope : Scope} (h : supScB scope = true) : SupSc scope := by
  unfold supScB at h
  simp only [Bool.and_eq_true, decide_eq_true_eq, Bool.not_eq_true', List.all_eq_true, decide_eq_false_iff_not, Bool.or_eq_true] at h
  obtain ⟨⟨⟨⟨⟨⟨⟨⟨h1, h2⟩, h3⟩, h4⟩, h5⟩, h6⟩, h7⟩, h8⟩, h9⟩ := h
  exact ⟨h1, h2, h3, h4, h5, h6, h7, h8, fun y hy e => (h9 y hy).resolve_left fun z => z e⟩
section
variable {P : Program} {w : World} {K : PySem.W.Frag} {mg : Str → Option Value} {base : Heap} {qual : Str} {scope : Scope} {f cc : Addr} {cd : Value} {A : Around} {outer : List Env} {s : Shared} {H : Hp} {E : XK} {CX : CXT}
theorem inv_sup {h1 : Heap} {tk : Nat} {a D : Addr} {v : V} {u : Value} {cl : Value} {cld : Option Addr} {csl : Array (Option Value)} (S : SupSc scope) (hd : A.handled = none) (e0 : Env0 P w K mg base A outer s H) (hcell : K.lookup cc = some ⟨cl, cld, .cell (some (.ref D)), csl⟩)
    (rv : RelV v u) (hns : h1.Ns s.heap.objs.size fun x => List.lookup x [(("value" : Str), u), (("self" : Str), Value.ref a)]) (hk : ∀ b o, s.heap.get? b = some o → h1.get? b = some o) :
    Inv (cxS CX P w K mg base ["self", "value"] qual scope f cd cc A outer s H E) [] [some (.ref a), some v] H { s with heap := h1, toks := tk } := by
  have hb := e0.mod.kin _ _ hcell
  have hc : s.heap.get? cc = some ⟨cl, cld, .cell (some (.ref D)), csl⟩ := (e0.bs _ _ hb).1
  have look : ∀ {y c}, (List.lookup y [(("__class__" : Str), cc)]) = some c → y = "__class__" ∧ c = cc := fun {y c} h => by
    have m := PySem.mem_of_lookup h
    simp only [List.mem_singleton, Prod.mk.injEq] at m
    exact m
  have noA : ∀ b : Addr, b ∉ ([] : List Addr) := fun b z => by cases z
  refine ⟨⟨e0.mod, S.kind, rfl, rfl, Nat.le_refl _, fun y z c q1 q2 => (look q1).1.trans (look q2).1.symm, fun y hy => ?_, fun y c z _ => (by cases z), fun _ => hd, Around.frames_deeper e0.frames, .inr ⟨rfl, rfl⟩, fun b z => absurd z (noA b), e0.bs, e0.bsz, fun b _ _ => noA b, fun b z => absurd z (noA b), e0.funs, e0.frf⟩,
    rfl, e0.bare, Un.kept hk, ⟨_, hns, fun i y v' q1 q2 q3 => ?_⟩, fun y c q => ?_, e0.hok.fresh (Nat.le_refl _), fun y c q => ?_, fun p hp => absurd (show p ∈ ([] : List (Addr × Obj)) from hp) (by simp), e0.hok.kept hk, rfl⟩
  · have hy : scope.names.lookup y = some .cell ∨ scope.names.lookup y = some .free := hy
    rcases hy with hy | hy
    · exact absurd rfl (S.nocell _ (PySem.mem_of_lookup hy))
    · have e := S.free _ (PySem.mem_of_lookup hy) rfl
      have e : y = "__class__" := e
      subst e
      exact ⟨cc, by show List.lookup ("__class__" : Str) [(("__class__" : Str), cc)] = some cc; simp [List.lookup]⟩
  · match i, q1, q2 with
    | 0, q1, q2 =>
      cases q1; cases q2
      exact ⟨.ref a, rfl, .inl ⟨S.self, by simp only [List.lookup]; rw [show (("self" : Str) == ("value" : Str)) = false by decide]; simp⟩⟩
    | 1, q1, q2 =>
      cases q1; cases q2
      exact ⟨u, rv, .inl ⟨S.value, by simp [List.lookup]⟩⟩
    | i + 2, q1, q2 => cases q1
  · obtain ⟨_, e⟩ := look q
    subst e
    exact ⟨_, _, hk _ _ hc, rfl⟩
  · obtain ⟨_, e⟩ := look q
    subst e
    exact (e0.bs _ _ hb).2
structure SupC (K : PySem.W.Frag) (D C : Addr) : Prop where
  ox : OexC K C
  sub : PySem.W.mroIn K C (.ref D) = some true
  sup : PySem.W.ks_superIn K C D "__init__" = some (some (.builtin "ValueError.__init__"))
  ve : PySem.W.subIn K (.ref C) (.type "ValueError") = some true
  no : PySem.W.findIn K (.ref C) "value" = some none
structure SupF (P : Program) (K : PySem.W.Frag) (mg : Str → Option Value) (f cc cda D : Addr) (fd : FuncData) : Prop where
  at_ : ∃ oc od osl, K.lookup f = some ⟨oc, od, .func fd, osl⟩
  par : ∃ ar, (fd.params.posonlyargs ++ fd.params.args).head? = some ar ∧ ar.arg = "self"
  code : ∃ ccl cdd vs ccs file tf, K.lookup cda = some ⟨ccl, cdd, .fields vs, ccs⟩ ∧ vs[2]? = some (.str file tf) ∧ ((P.main.file : Str) == file) = true
  cell : ∃ cl cld csl, K.lookup cc = some ⟨cl, cld, .cell (some (.ref D)), csl⟩
  own : ∃ cd, PySem.W.clsIn K D = some cd
  top : (P.main.scope.names.lookup ("super" : Str)).isSome = false
  sup : mg "super" = none
  any : PySem.W.nsIn K PySem.cStatics "thirdparty.any" = some none
theorem boot_super : bootBuiltins "super" = some (.type "super") := by decide +kernel
theorem sup_stmt {h1 : Heap} {g : Array GenState} {dr : Drawn} {tk : Nat} {os : OsState} {a D C cda : Addr} {v : V} {fd : FuncData} {body : List Stmt} {p0 p1 p2 p3 p4 : Pos} {E' : Value → Shared → Prop} (S : SupSc scope) (hsz : ("self" : Str) ≠ "value") (SF : SupF P K mg f cc cda D fd) (SC : SupC K D C)
    (I : Inv (cxS CX P w K mg base ["self", "value"] qual scope f (.ref cda) cc A outer s H E) [] [some (.ref a), some v] H ⟨h1, g, dr, tk, os⟩) (ha : H a = some (exo a C none)) {pl : Sem Bool}
    (he : eval (.Call (.Attribute (.Call (.Name "super" p0) [] [] p1) "__init__" p2) [.Name "value" p3] [] p4) (PySem.W.ksEnv qual scope s.heap.objs.size f (.ref cda) cc) = (do
      let ov ← attributeBase (.Call (.Name "super" p0) [] [] p1) "__init__" (PySem.W.ksEnv qual scope s.heap.objs.size f (.ref cda) cc) (eval (.Call (.Name "super" p0) [] [] p1) (PySem.W.ksEnv qual scope s.heap.objs.size f (.ref cda) cc))
      standAt p2.atName
      let (u, first) ← holding [ov] (getMethod ov "__init__" pl)
      callWith p4 u first (backTo p4 (starEach [.Name "value" p3] (PySem.W.ksEnv qual scope s.heap.objs.size f (.ref cda) cc))) [])) :
    PySem.wpAt (model P w) (A.deeper (PySem.W.ksEnv qual scope s.heap.objs.size f (.ref cda) cc)) (.func body (PySem.W.ksEnv qual scope s.heap.objs.size f (.ref cda) cc))
      (eval (.Call (.Attribute (.Call (.Name "super" p0) [] [] p1) "__init__" p2) [.Name "value" p3] [] p4) (PySem.W.ksEnv qual scope s.heap.objs.size f (.ref cda) cc))
      (fun _ s' => Inv (cxS CX P w K mg base ["self", "value"] qual scope f (.ref cda) cc A outer s H E) [] [some (.ref a), some v] H s') E' ⟨h1, g, dr, tk, os⟩ := by
  obtain ⟨oc, od, osl, lkf⟩ := SF.at_
  obtain ⟨ar, hpar, har⟩ := SF.par
  obtain ⟨ccl, cdd, vs, ccs, file, tf, lkc, hvs, hfile⟩ := SF.code
  obtain ⟨cl, cld, csl, lkcell⟩ := SF.cell
  obtain ⟨cdD, hD⟩ := SF.own
  obtain ⟨nm, q, N, bs, bm, sn, sub, ab, col, dd, k0, k1, k2, k3, k5, hC, hbm⟩ := SC.ox.cls
  have X : K.In h1 := I.kIn
  obtain ⟨oD, hD1, hD2⟩ : ∃ oD, h1.get? D = some oD ∧ oD.data = .cls cdD := by
    unfold PySem.W.clsIn at hD
    split at hD
    · rename_i c1 c2 c3 c4 ho
      cases hD
      exact ⟨_, X _ _ ho, rfl⟩
    · cases hD
  obtain ⟨t1, hx⟩ := exo_at I.hok ha
  obtain ⟨m, hns, hm⟩ := I.loc
  have mself : m "self" = some (.ref a) := by
    obtain ⟨u, r, l⟩ := hm 0 "self" (.ref a) rfl rfl (.inl S.self)
    obtain rfl : u = Value.ref a := r
    rcases l with ⟨_, z⟩ | ⟨z | z, _⟩
    · exact z
    · have z : scope.names.lookup ("self" : Str) = some .cell := z
      rw [S.self] at z; cases z
    · have z : scope.names.lookup ("self" : Str) = some .free := z
      rw [S.self] at z; cases z
  obtain ⟨uv, ruv, mvalue⟩ : ∃ uv, RelV v uv ∧ m "value" = some uv := by
    obtain ⟨u, r, l⟩ := hm 1 "value" v rfl rfl (.inl S.value)
    refine ⟨u, r, ?_⟩
    rcases l with ⟨_, z⟩ | ⟨z | z, _⟩
    · exact z
    · have z : scope.names.lookup ("value" : Str) = some .cell := z
      rw [S.value] at z; cases z
    · have z : scope.names.lookup ("value" : Str) = some .free := z
      rw [S.value] at z; cases z
  obtain ⟨mb, b1, b2⟩ := I.mod.blt
  have hcl : Heap.IsCell h1 cc (some (.ref D)) := ⟨_, X _ _ lkcell, rfl⟩
  have gl : ∀ {h2 : Heap}, (∀ b u, h1.get? b = some u → h2.get? b = some u) → Inv (cxS CX P w K mg base ["self", "value"] qual scope f (.ref cda) cc A outer s H E) [] [some (.ref a), some v] H ⟨h2, g, dr, tk, os⟩ := fun k => I.kept (t' := tk) k
  have ha1 : a ≠ C := fun z => by
    have q := X _ _ hC
    rw [← z, hx] at q
    have q := congrArg Obj.data (Option.some.inj q)
    exact absurd q (by intro y; cases y)
  refine ks_wpAt_MethodCall (pl := pl) (ks_wpAt_super_base (env := PySem.W.ksEnv qual scope s.heap.objs.size f (.ref cda) cc) S.sup S.cls (by decide) rfl (X _ _ lkf) rfl hpar rfl (X _ _ lkc) rfl hvs hfile SF.top ?_) he
  refine PySem.W.ks_loadName_global S.kind S.sup (Calls.loadGlobal_builtin (by exact I.mod.glob.keeps I.bk) SF.sup (by exact b1.keeps I.bk) ((b2 _ (by decide)).trans boot_super) ⟨rfl, ?_⟩)
  refine wpAny_loadName_free S.kind S.cls (by rfl) hcl ?_
  rw [har]
  refine wpAny_loadName_local S.kind S.self hns mself ?_
  refine ks_wpAny_isType_cls hD1 hD2 ⟨rfl, ?_⟩
  refine ks_wpAny_call_super hD1 hD2 hx rfl (by intro c z; cases z) (PySem.W.looks_mroIn X SC.sub) fun h2 e2 k2 => ?_
  have J2 := gl k2
  have X2 : K.In h2 := J2.kIn
  obtain ⟨cdC, hcC⟩ : ∃ cd, PySem.W.clsIn K C = some cd := by
    cases hc : PySem.W.clsIn K C with
    | none => have q := SC.sup; unfold PySem.W.ks_superIn at q; rw [hc] at q; cases q
    | some cd => exact ⟨cd, rfl⟩
  have hsup := SC.sup
  unfold PySem.W.ks_superIn at hsup
  rw [hcC] at hsup
  have hI : PySem.W.Looks (model P w) h2 (isInstance (.ref a) (.type "ValueError")) true := (PySem.W.InstAt.type (show PySem.W.InstAt h2 a _ C none from ⟨k2 _ _ hx, rfl, rfl, trivial⟩)).andThen (PySem.W.looks_subIn X2 SC.ve)
  refine PySem.W.kxs_getMethod PySem.W.kxs_ValueError e2 (PySem.W.looks_opaque X2 SF.any) (l₀ := cdC.mro) (fun A Q E s k q => wpAny_bind ((PySem.W.looks_clsIn X2 hcC) A _ E s k (wpAny_pure q))) rfl X2 hsup hI ha1 (by decide) ?_
  have k3 : ∀ b u, h2.get? b = some u → (h2.push (PySem.W.kxs_mw "ValueError.__init__" a)).get? b = some u := fun b u e => Heap.get?_push_of_some _ e
  have J3 : Inv (cxS CX P w K mg base ["self", "value"] qual scope f (.ref cda) cc A outer s H E) [] [some (.ref a), some v] H ⟨h2.push (PySem.W.kxs_mw "ValueError.__init__" a), g, dr, tk + 1, os⟩ := J2.kept (t' := tk + 1) k3
  have hu : (h2.push (PySem.W.kxs_mw "ValueError.__init__" a)).get? h2.objs.size = some (PySem.W.kxs_mw "ValueError.__init__" a) := Heap.get?_push_at rfl rfl
  refine PySem.W.kxs_callWith (i := "ValueError.__init__") (x := a) rfl (Calls.evalArgs_plain (Calls.spliced_cons ?_))
  obtain ⟨m3, hns3, hm3⟩ := J3.loc
  have mvalue3 : ∃ uv3, RelV v uv3 ∧ m3 "value" = some uv3 := by
    obtain ⟨u, r, l⟩ := hm3 1 "value" v rfl rfl (.inl S.value)
    refine ⟨u, r, ?_⟩
    rcases l with ⟨_, z⟩ | ⟨z | z, _⟩
    · exact z
    · have z : scope.names.lookup ("value" : Str) = some .cell := z
      rw [S.value] at z; cases z
    · have z : scope.names.lookup ("value" : Str) = some .free := z
      rw [S.value] at z; cases z
  obtain ⟨uv3, ruv3, mv3⟩ := mvalue3
  refine wpAny_Name (wpAny_loadName_local S.kind S.value hns3 mv3 ?_) (by decide)
  refine Calls.spliced_nil ⟨hu, ?_⟩
  -- the call of the method-wrapper
  have X3 := J3.kIn
  have hx3 := k3 _ _ (k2 _ _ hx)
  refine wpAny_call (codeAny_of_tree ?_)
  show wpAny _ _ (callAny (.ref h2.objs.size) ⟨[uv3], []⟩) _ _ _
  simp only [callAny]
  refine wpAny_bind (wpAny_load hu ?_)
  simp only [PySem.W.kxs_mw, show (Value.type "method-wrapper" == Value.type "method" || Value.type "method-wrapper" == Value.type "builtin_function_or_method" || Value.type "method-wrapper" == Value.type "method-wrapper") = true by decide, if_true]
  refine PySem.W.KFB.if_so (by decide) ?_
  refine wpAny_bind (PySem.W.check_bound_init F.excBase_ValueError.toExcCallFacts (X3 _ _ hC) hx3 rfl ?_)
  refine wpAny_bind (wpAny_pure (wpAny_pure ?_))
  refine ⟨plainId_quiet F.excBase_ValueError.init.plain _, codeAny_builtin F.excBase_ValueError.initEntry ?_⟩
  refine PySem.W.exc_init_tree (cls := .ref C) (t0 := t1) (dv := none) (c2 := .none) (c3 := .none) (b4 := .bool false) hx3 (show 1 ≤ sizeLine by rw [sizeLine_eq]; omega) fun h' k hx' _ => ?_
  have J := J3.write (t' := tk + 1) (x := a) (e := a) (o := exo a C none) (by rw [ha]; exact True.intro) (.inl rfl) k ⟨_, hx'⟩ (exo_ok hx')
  have eu : upd H a (exo a C none) = H := by
    funext b
    by_cases hb : b = a
    · rw [hb, upd_same, ha]
    · rw [upd_ne hb]
  rw [eu] at J
  exact J
end
end VL
namespace VL
open PySem PySem.Spec PyProof.Rows L2
def spPost (K : PySem.W.Frag) (D : Addr) : Sp := fun vs H Q _ => ∃ a v C, vs = [.ref a, v] ∧ SupC K D C ∧ H a = some (exo a C none) ∧ ∀ dx, H dx = none → dx ≠ a → Q .non (upd (upd H dx (exd dx [(("value" : Str), v)])) a (exo a C (some dx)))
theorem pl_eq {env : Env} {p0 p1 p2 p3 p4 : Pos} (hpl : (p2.endLine == p4.line) = true) : eval (.Call (.Attribute (.Call (.Name "super" p0) [] [] p1) "__init__" p2) [.Name "value" p3] [] p4) env = (do
      let ov ← attributeBase (.Call (.Name "super" p0) [] [] p1) "__init__" env (eval (.Call (.Name "super" p0) [] [] p1) env)
      standAt p2.atName
      let (u, first) ← holding [ov] (getMethod ov "__init__" (do return (← importBound (.Call (.Name "super" p0) [] [] p1) env).getD true))
      callWith p4 u first (backTo p4 (starEach [.Name "value" p3] env)) []) := by
  show (do
      let ov ← attributeBase (.Call (.Name "super" p0) [] [] p1) "__init__" env (eval (.Call (.Name "super" p0) [] [] p1) env)
      standAt p2.atName
      methodCall (.Call (.Name "super" p0) [] [] p1) "__init__" p2 p4 env ov 1 (backTo p4 (starEach [.Name "value" p3] env)) []) = _
  have e : methodCallPos true (.Call (.Name "super" p0) [] [] p1) env p2 p4 = pure p4 := by
    unfold methodCallPos
    rw [hpl]
    rfl
  have f : methodCallForm 1 (backTo p4 (starEach [.Name "value" p3] env)) [] = true := rfl
  refine congrArg _ (funext fun ov => congrArg _ (funext fun _ => ?_))
  unfold methodCall
  rw [f, e]
  rfl
section
variable {P : Program} {w : World} {K : PySem.W.Frag} {mg : Str → Option Value} {base : Heap} {CX : CXT}
theorem fn_post {k : Nat} {f cc cda D : Addr} {name qual : Str} {params : Arguments} {scope : Scope} {dV kV doc pm ct oc : Value} {an od : Option Addr} {osl : Array (Option Value)} {p0 p1 p2 p3 p4 p5 q0 q1 q2 q3 : Pos}
    (lk : K.lookup f = some ⟨oc, od, .func (PySem.W.ksFn name qual params [.Expr (.Call (.Attribute (.Call (.Name "super" p0) [] [] p1) "__init__" p2) [.Name "value" p3] [] p4) p5, .Assign [.Attribute (.Name "self" q0) "value" q1] (.Name "value" q2) q3] scope dV kV doc pm an (.ref cda) ct cc), osl⟩)
    (hcd : PySem.W.codeIn K (.ref cda) qual = true) (S : SupSc scope) (SF : SupF P K mg f cc cda D (PySem.W.ksFn name qual params [.Expr (.Call (.Attribute (.Call (.Name "super" p0) [] [] p1) "__init__" p2) [.Name "value" p3] [] p4) p5, .Assign [.Attribute (.Name "self" q0) "value" q1] (.Name "value" q2) q3] scope dV kV doc pm an (.ref cda) ct cc))
    (hpl : (p2.endLine == p4.line) = true) :
    FnOk P w K mg base CX (k + 1) f (PySem.W.ksFn name qual params [.Expr (.Call (.Attribute (.Call (.Name "super" p0) [] [] p1) "__init__" p2) [.Name "value" p3] [] p4) p5, .Assign [.Attribute (.Name "self" q0) "value" q1] (.Name "value" q2) q3] scope dV kV doc pm an (.ref cda) ct cc) ["self", "value"] (spPost K D) := by
  refine ⟨fun vs H Q E ⟨a, v, C, e, _⟩ => by rw [e]; rfl, fun A outer s H args us vs Q E hr e0 hb rv sp => ?_⟩
  obtain ⟨a, v, C, rfl, SC, ha, q⟩ := sp
  have KX : K.In s.heap := e0.mod.kin.keeps fun b o e => (e0.bs b o e).1
  have lim : s.heap.NoLimit := e0.mod.nolimit.keeps fun b o e => (e0.bs b o e).1
  obtain ⟨cl, cld, csl, lkcell⟩ := SF.cell
  cases rv with
  | @cons _ u0 _ ur ra rr =>
  obtain rfl : u0 = Value.ref a := ra
  cases rr with
  | @cons _ u1 _ ur rv rr =>
  cases rr
  refine ks_codeAny_call_defAt (binds := [(("self" : Str), Value.ref a), (("value" : Str), u1)]) hr.depth (KX _ _ lk) rfl lim (PySem.W.codeRec_of KX hcd) rfl hb S.nocell (fun y hy => ?_) (fun h1 hns hk => ?_) S.co S.gen S.kind
  · rcases List.mem_cons.mp hy with rfl | hy
    · exact S.self
    rcases List.mem_cons.mp hy with rfl | hy
    · exact S.value
    · cases hy
  · have I := inv_sup (CX := CX) (E := E) (f := f) (cd := .ref cda) (qual := qual) (tk := s.toks + 2) S hr.hd e0 lkcell rv hns hk
    refine ks_wpAt_execs_cons (ks_wpAt_Expr_any (PySem.wpAt_mono (sup_stmt (CX := CX) (E := E) (dr := s.drawn) (os := s.os) (g := s.gens) S (by decide) SF SC I ha (pl_eq hpl)) (fun _ s' J => ?_) fun _ _ z => z) I.quiet ?_)
    · let X : Cx := cxS CX P w K mg base ["self", "value"] qual scope f (.ref cda) cc A outer s H E
      have h1 : PE X (.Name "self" q0) _ := pe_var (X := X) (i := 0) rfl (.inl S.self)
      have h2 : PE X (.Name "value" q2) _ := pe_var (X := X) (i := 1) rfl (.inl S.value)
      have h3 := pss_one (ps_ost (X := X) (f := "value") (p' := q1) (pos := q3) h1 h2)
      refine wpAt_of_any (wpAny_mono (h3.run [] s' _ H { nx := fun _ H' => Q .non H', rt := fun _ _ => False } J ?_) (fun fl s2 hs => ?_) fun _ _ z => z)
      · exact ⟨v, rfl, .ref a, rfl, a, C, rfl, SC.ox, SC.no, .inl ⟨ha, fun dx n ne => q dx n ne⟩⟩
      · cases fl with
        | next =>
          obtain ⟨σ', H', J', q'⟩ := hs
          exact ⟨.non, H', J'.os, J'.bare, J'.base, J'.hok, rfl, q'⟩
        | ret u => obtain ⟨_, _, _, _, _, z⟩ := hs; exact z.elim
        | brk => obtain ⟨_, _, _, z⟩ := hs; exact False.elim z
        | cont => obtain ⟨_, _, _, z⟩ := hs; exact False.elim z
    · rfl
end
end VL
namespace VL
open PySem PySem.Spec PyProof.Rows L2
theorem vexO_ok {P : Program} {w : World} {H : Hp} {h : Heap} {a : Addr} {oe : Obj} {vs : Array Value} (e : h.get? a = some oe) (z : Zc (.type "ValueError") none oe) (d : oe.data = .fields vs) : ObjOk P w H h a (VexO a) :=
  ⟨⟨oe, vs, e, z, d⟩, ⟨oe, e⟩, fun h1 h2 ⟨o, v, q, r⟩ st => ⟨o, v, st _ q, r⟩⟩
theorem excO_ok {P : Program} {w : World} {H : Hp} {h : Heap} {a C dx : Addr} {oe : Obj} {vs : Array Value} (e : h.get? a = some oe) (z : Zc (.ref C) (some dx) oe) (d : oe.data = .fields vs) : ObjOk P w H h a (ExcO a C dx) :=
  ⟨⟨oe, vs, e, z, d⟩, ⟨oe, e⟩, fun h1 h2 ⟨o, v, q, r⟩ st => ⟨o, v, st _ q, r⟩⟩
def tMkV (t : L2.St → Hp → XK → Prop) : TE := fun σ H Q => t σ H fun cls d H' => ∀ a, H' a = none →
  (∃ C dx, cls = .ref C ∧ d = some dx ∧ Q (.ref a) (upd H' a (ExcO a C dx))) ∨ (cls = .type "ValueError" ∧ d = none ∧ Q (.ref a) (upd H' a (VexO a)))
theorem pe_mk {X : Cx} {e : Expr} {t : L2.St → Hp → XK → Prop} (he : PMk X e t) : PE X e (tMkV t) := by
  refine ⟨fun pins s σ H Q I h => wpAny_mono (he pins s σ H _ I h) (fun u s1 hu => ?_) fun _ _ z => z⟩
  obtain ⟨a, oe, vs, sI, H', cls, d, rfl, J, k, hne, ha, hz, hd, h1, na, os, ag, r, q⟩ := hu
  have go : ∀ o : HO, ObjOk X.prog X.w (upd H' a o) s1.heap a o → Inv X pins σ (upd H' a o) s1 := fun o new =>
    J.call' (ch := []) os (Un.laidN k hne na) (J.hok.laidN k na new) ag (fun b z => absurd z (by simp))
  rcases q a na with ⟨C, dx, rfl, rfl, q2⟩ | ⟨rfl, rfl, q2⟩
  · exact ⟨.ref a, _, go _ (excO_ok ha hz hd), rfl, q2⟩
  · exact ⟨.ref a, _, go _ (vexO_ok ha hz hd), rfl, q2⟩
structure XMk (c : Ctx) (x : Str) (ci : Nat) : Prop where
  hm : c.G.mg x = some (.ref (c.G.cls ci))
  make : ∃ (k : Nat) (fI D : Addr) (fd : FuncData), SupC c.G.K D (c.G.cls ci) ∧ PySem.W.findIn c.G.K (.ref (c.G.cls ci)) "__init__" = some (some (.ref fI)) ∧ PySem.W.typeIn c.G.K (.ref fI) = some (.type "function") ∧
    FnOk c.G.prog c.G.w c.G.K c.G.mg c.G.base (L2.CX c.G.prog c.G.w) k fI fd ["self", "value"] (spPost c.G.K D) ∧ k + 1 ≤ c.k ∧ Binds c.G.K fd ["self", "value"] []
section
variable {c : Ctx} {W : Wd} {E : XK} {Γ Γ' Γ'' Γl : Gam} {e a b d' o : Expr} {f fa fb fc fo : Rho → M D} {pos : Pos} {Hf H : Hp} {st : Stmt} {sts rest : List Stmt}
def tXm (W : Wd) (D : Addr) (ci : Nat) (t : TE) : L2.St → Hp → XK → Prop := tMkO (W.cls ci) (spPost W.K D) [] (tCons t tNil)
theorem pmk_x {x : Str} {ci : Nat} {p : Pos} {t : TE} (k : XMk c x ci) (hg : c.sc.names.lookup x = some .globalImplicit) (ha : ∀ X, Is c X → PE X a t)
    (hd : (x == ("__debug__" : Str)) = false := by decide) (he : ∀ env, starEach [a] env = (false, eval a env) :: starEach [] env := by intro _; rfl) :
    ∃ D, SupC c.G.K D (c.G.cls ci) ∧ ∀ X, Is c X → PMk X (.Call (.Name x p) [a] [] pos) (tXm c.W D ci t) := by
  obtain ⟨j, fI, D, fd, SC, iC, tI, F1, hk, hb⟩ := k.make
  refine ⟨D, SC, fun X h => ?_⟩
  have hpass : Passes (L2.CX X.prog X.w) X (fun _ _ _ => False) := fun pins σ H s e s' _ z => by
    obtain ⟨_, _, _, _, _, _, _, _, _, _, _, _, z⟩ := z
    exact z.elim
  have F2 : FnOk X.prog X.w X.K X.mg X.base (L2.CX X.prog X.w) j fI fd ["self", "value"] (spPost X.K D) := by rw [h.prog, h.w, h.K, h.mg, h.base]; exact F1
  have q := pmk_oex (X := X) (p := p) (pos := pos) (e := a) (es := []) (dvs := []) (by rw [h.K]; exact SC.ox) (by rw [h.K]; exact iC) (by rw [h.K]; exact tI) F2 (h.room.mono hk) (by rw [h.K]; exact hb) .nil hpass (h.gl hg) (by rw [h.mg]; exact k.hm) (pa_cons (ha X h) pa_nil (he _)) hd (he _) rfl
  rw [h.K] at q
  exact q
def xmF (ci : Nat) (f : Rho → M D) : Rho → M D := fun ρ => do let d ← f ρ; pure (.exc ci d)
theorem upd_del {H : Hp} {a dx : Addr} {o o2 o3 o4 : HO} (na : H a = none) (ne : dx ≠ a) : upd (del (upd (upd (upd H a o) dx o2) a o3) a) dx o4 = upd H dx o4 := by
  funext b
  by_cases hb : b = dx
  · rw [hb, upd_same, upd_same]
  · rw [upd_ne hb, upd_ne hb]
    by_cases ha : b = a
    · rw [ha, del_same, na]
    · rw [del_ne ha, upd_ne ha, upd_ne hb, upd_ne ha]
theorem xm_post {W : Wd} {D : Addr} {ci : Nat} {Hf1 H1 : Hp} {s1 : Pot} {x : V} {Q : XK} (SC : SupC W.K D (W.cls ci)) (x1 : Ext W Hf1 H1 Hf1 H1 s1)
    (q : ∀ dx, H1 dx = none → Q (.ref (W.cls ci)) (some dx) (upd H1 dx (.xd [(("value" : Str), x)]))) :
    tMkO (W.cls ci) (spPost W.K D) [] (fun _ H R => R [x] H) (σ : L2.St) H1 Q := by
  refine ⟨(show 1 ≤ 1000 by omega), fun a0 na0 => ⟨a0, x, _, rfl, SC, upd_same, fun dx n0 ne => ⟨rfl, dx, [(("value" : Str), x)], upd_same, ?_, ?_, ?_⟩⟩⟩
  · rw [upd_ne ne, upd_same]
  · rw [upd_ne ne] at n0; exact n0
  · rw [upd_ne ne] at n0
    rw [upd_del na0 ne]
    exact q dx n0
theorem je_xm {x : Str} {ci : Nat} {p : Pos} (k : XMk c x ci) (hg : c.sc.names.lookup x = some .globalImplicit) (ha : JE c Γ a fa)
    (hd : (x == ("__debug__" : Str)) = false := by decide) (he : ∀ env, starEach [a] env = (false, eval a env) :: starEach [] env := by intro _; rfl) :
    JE c Γ (.Call (.Name x p) [a] [] pos) (xmF ci fa) := by
  obtain ⟨t, h1, h2⟩ := ha
  obtain ⟨D, SC, hp⟩ := pmk_x (pos := pos) (p := p) k hg h1 hd he
  refine ⟨tMkV (tXm c.W D ci t), fun X h => pe_mk (hp X h), fun B ρ s σ Hf H Q V p => ?_⟩
  unfold xmF at p
  rw [post_bind] at p
  show t σ H _
  refine h2 B ρ s σ Hf H _ V (p.imp (fun d s1 p1 x Hf1 H1 x1 r1 => ?_) fun _ _ _ z => z)
  rw [post_pure] at p1
  refine xm_post (W := c.W) (σ := σ) (Q := fun cls d H' => ∀ a, H' a = none → (∃ C dx, cls = .ref C ∧ d = some dx ∧ Q (.ref a) (upd H' a (ExcO a C dx))) ∨ (cls = .type "ValueError" ∧ d = none ∧ Q (.ref a) (upd H' a (VexO a)))) SC x1.refl fun dx n0 a na => ?_
  refine .inl ⟨_, _, rfl, rfl, ?_⟩
  have y1 := x1.refl.newF (o := .xd [(("value" : Str), x)]) n0
  have y2 := y1.refl.newF (o := ExcO a (c.W.cls ci) dx) na
  have hda : dx ≠ a := fun z => by rw [← z, upd_same] at na; cases na
  refine p1 _ (upd (upd Hf1 dx (.xd [(("value" : Str), x)])) a (ExcO a (c.W.cls ci) dx)) _ (x1.trans (y1.trans y2)) ?_
  exact .exc upd_same (by rw [upd_ne hda, upd_same]) ((r1.mono y1.ff).mono y2.ff)
end
end VL
namespace VL
open PySem PySem.Spec PyProof.Rows L2
structure XcC (K : PySem.W.Frag) (C : Addr) : Prop where
  hcl : (PySem.W.clsIn K C).isSome = true
  ga : PySem.W.findIn K (.ref C) "__getattribute__" = some (some (.builtin "BaseException.__getattribute__"))
  gt : PySem.W.findIn K (.ref C) "__getattr__" = some none
  sub : PySem.W.subIn K (.ref C) (.type "BaseException") = some true
  ca : PySem.W.findIn K (.ref C) "__class__" = some (some (.builtin "object.__class__"))
  cn : PySem.W.specialIn K (.builtin "object.__class__") "__get__" = some (some (.builtin "getset_descriptor.__get__"))
  ct : PySem.W.takesIn K (.builtin "object.__class__") = some true
  cm : PySem.W.mroIn K C (.type "object") = some true
  hd : PySem.W.hasDictIn K C = true
  no : PySem.W.findIn K (.ref C) "value" = some none
def xcB (K : PySem.W.Frag) (C : Addr) : Bool :=
  (PySem.W.clsIn K C).isSome && (decide (PySem.W.findIn K (.ref C) "__getattribute__" = some (some (.builtin "BaseException.__getattribute__"))) && (decide (PySem.W.findIn K (.ref C) "__getattr__" = some none) && (decide (PySem.W.subIn K (.ref C) (.type "BaseException") = some true) &&
    (decide (PySem.W.findIn K (.ref C) "__class__" = some (some (.builtin "object.__class__"))) && (decide (PySem.W.specialIn K (.builtin "object.__class__") "__get__" = some (some (.builtin "getset_descriptor.__get__"))) && (decide (PySem.W.takesIn K (.builtin "object.__class__") = some true) &&
      (decide (PySem.W.mroIn K C (.type "object") = some true) && (PySem.W.hasDictIn K C && decide (PySem.W.findIn K (.ref C) "value" = some none)))))))))
theorem xcC_by {K : PySem.W.Frag} {C : Addr} (h : xcB K C = true) : XcC K C := by
  unfold xcB at h
  simp only [Bool.and_eq_true, decide_eq_true_eq] at h
  obtain ⟨h1, h2, h3, h4, h5, h6, h7, h8, h9, h10⟩ := h
  exact ⟨h1, h2, h3, h4, h5, h6, h7, h8, h9, h10⟩
section
variable {X : Cx} {pins : List (Addr × Obj)} {σ : L2.St} {H : Hp} {s : Shared}
theorem exc_inst {a C dx : Addr} {fs : List (Str × V)} (I : Inv X pins σ H s) (h : H a = some (ExcO a C dx)) (hx : H dx = some (.xd fs)) :
    ∃ oe od, PySem.W.InstAt s.heap a oe C (some od) ∧ ∃ mA : Str → Option Value, (∀ f, PySem.W.lookIn f od = some (mA f)) ∧ ∀ f, RelO (fs.lookup f) (mA f) := by
  obtain ⟨⟨oe, vs, ha, hz, hd⟩, _, _⟩ := I.hok a _ h
  have hx : ObjOk X.prog X.w H s.heap dx (.xd fs) := I.hok dx _ hx
  obtain ⟨mA, hns, hr⟩ := hx
  obtain ⟨od, ho, hl⟩ := lookIn_ns hns
  exact ⟨oe, od, ⟨ha, hz.1, by unfold PySem.W.notCls; rw [hd] <;> rfl, by rw [hz.2]; exact ho⟩, mA, hl, hr⟩
def rIsX (K : PySem.W.Frag) (u : Value) : List V → Hp → VK → Prop := fun xs H Q => ∃ (a : Addr) (c : V) (b : Bool), xs = [V.ref a, c] ∧ (∀ w, RelV c w → w = u) ∧ Q (.bl b) H ∧
  ((∃ C dx fs, H a = some (ExcO a C dx) ∧ H dx = some (.xd fs) ∧ XcC K C ∧ PySem.W.kitOne K (.ref C) u = some b) ∨ (H a = some (VexO a) ∧ PySem.W.kitOne K (.type "ValueError") u = some b))
theorem call_isX (u : Value) : CallR X (.builtin "isinstance") (rIsX X.K u) := by
  intro pins s σ H xs us Q I r h
  obtain ⟨a, c, b, rfl, one, q, h⟩ := h
  obtain ⟨u1, u2, rfl, r1, r2⟩ := r.two
  cases (show u1 = Value.ref a from r1)
  cases one _ r2
  rcases h with ⟨C, dx, fs, ha, hx, k, hk⟩ | ⟨ha, hk⟩
  · obtain ⟨oe, od, J, _⟩ := exc_inst I ha hx
    exact PySem.W.kia_one (PySem.W.kitx_exc k.hcl k.ga k.gt k.sub k.ca k.cn k.ct k.cm) I.kIn J hk (fun z => nomatch z) fun tk => ⟨.bl b, H, I.tok _, rfl, q⟩
  · obtain ⟨⟨oe, vs, he, hz, hd⟩, _, _⟩ := I.hok a _ ha
    refine PySem.W.kia_one (PySem.W.kitx_bexc (T := "ValueError") PySem.F.excAttr_ValueError ?_ ?_ ?_) I.kIn ⟨oe, he, hz.1⟩ hk (fun z => nomatch z) fun tk => ⟨.bl b, H, I.tok _, rfl, q⟩
    · rw [typeLookup_type, builtinLookup_eq_fast]; kernel_rfl
    · rw [isSubtype_type]; kernel_rfl
    · decide
end
structure IsiE (G : Glob) (u : Value) (cs : List Nat) (f : Nat → Bool) (vx : Bool) : Prop where
  ty : ∀ T ∈ tyNames, PySem.W.kitOne G.K (.type T) u = some false
  ob : ∀ i ∈ cs, XcC G.K (G.cls i) ∧ PySem.W.kitOne G.K (.ref (G.cls i)) u = some (f i)
  vx : PySem.W.kitOne G.K (.type "ValueError") u = some vx
def isExc (cs : List Nat) (f : Nat → Bool) (vx : Bool) (d : D) : Option D := match d with
  | .exc c _ => if c ∈ cs then some (.bl (f c)) else none
  | .vex => some (.bl vx)
  | d => (tyD d).map fun _ => .bl false
section
variable {c : Ctx} {W : Wd} {E : XK} {Γ Γ' Γ'' Γl : Gam} {e a b d' o : Expr} {f fa fb fc fo : Rho → M D} {pos : Pos} {Hf H : Hp} {st : Stmt} {sts rest : List Stmt}
theorem je_isE0 {es : Expr} {v : V} {u : Value} {cs : List Nat} {g : Nat → Bool} {vx : Bool} {p : Pos} (hv : ∀ X, Is c X → PE X es (tC v)) (cu : ClsV v u) (k : IsiE c.G u cs g vx)
    (ha : JV c Γ a fa) (hg : c.sc.names.lookup ("isinstance" : Str) = some .globalImplicit) (hm : c.G.mg "isinstance" = none)
    (he : ∀ env, starEach [a, es] env = (false, eval a env) :: starEach [es] env := by intro _; rfl) (he2 : ∀ env, starEach [es] env = (false, eval es env) :: starEach [] env := by intro _; rfl) (hpl : ∀ env, (backTo pos (starEach [es] env)).any (·.1) = false := by intro _; rfl) :
    JE c Γ (.Call (.Name "isinstance" p) [a, es] [] pos) (isiF (isExc cs g vx) fa) := by
  obtain ⟨t, h1, h2⟩ := ha
  have cr : ∀ X, Is c X → CallR X (.builtin "isinstance") (fun xs H Q => rIsiA c.G.K u xs H Q ∨ rIsX c.G.K u xs H Q) := fun X h => by
    have q1 := cr_isi u X h
    have q2 := call_isX (X := X) u
    rw [h.K] at q2
    exact CallR.or q1 q2
  refine ⟨tCB (fun xs H Q => rIsiA c.G.K u xs H Q ∨ rIsX c.G.K u xs H Q) (tCons t (tCons (tC v) tNil)), fun X h => pe_callB (cr X h) (h.gl hg) (by rw [h.mg]; exact hm) PyProof.Rows.boot_isinstance (pa_cons (h1 X h) (pa_cons (hv X h) pa_nil (he2 _)) (he _)) (he := he _) (hpl := hpl _), fun B ρ s σ Hf H Q V p => ?_⟩
  unfold isiF at p
  rw [post_bind] at p
  refine h2 B ρ s σ Hf H _ V (p.imp (fun d s1 p1 x Hf1 H1 x1 r1 => ?_) fun _ _ _ z => z)
  rw [post_opt] at p1
  obtain ⟨z, hz, p1⟩ := p1
  have hq : ∀ bb, z = .bl bb → Q (.bl bb) H1 := fun bb e => by subst e; exact p1 _ _ _ x1 (.bl _)
  show rIsiA c.G.K u [x, v] H1 Q ∨ rIsX c.G.K u [x, v] H1 Q
  have sm : Same Hf1 H1 := x1.fh
  cases ht : tyD d with
  | some T =>
    have e : isExc cs g vx d = (tyD d).map fun _ => .bl false := by cases d <;> first | rfl | cases ht
    rw [e, ht] at hz
    exact .inl (.inl ⟨x, v, .type T, u, false, rfl, cu, tyX_of rfl sm r1 ht, k.ty T (tyD_mem ht), hq _ (Option.some.inj hz).symm⟩)
  | none =>
    cases d with
    | exc ci w =>
      cases r1 with
      | fr r1 =>
        cases r1 with
        | exc g1 g2 r =>
          unfold isExc at hz
          dsimp only at hz
          split at hz
          · rename_i hc
            exact .inr ⟨_, v, g ci, rfl, fun w hw => cu.eq hw, hq _ (Option.some.inj hz).symm, .inl ⟨_, _, _, sm _ _ g1, sm _ _ g2, (k.ob ci hc).1, (k.ob ci hc).2⟩⟩
          · cases hz
    | vex =>
      cases r1 with
      | fr r1 =>
        cases r1 with
        | vex g1 => exact .inr ⟨_, v, vx, rfl, fun w hw => cu.eq hw, hq _ (Option.some.inj hz).symm, .inr ⟨sm _ _ g1, k.vx⟩⟩
    | _ => first | (cases hz; done) | (cases ht; done)
theorem je_isEC {cs : List Nat} {g : Nat → Bool} {vx : Bool} {j : Nat} {x : Str} {px p : Pos} (k : IsiE c.G (.ref (c.G.cls j)) cs g vx)
    (hx : c.sc.names.lookup x = some .globalImplicit) (hxm : c.G.mg x = some (.ref (c.G.cls j))) (ha : JV c Γ a fa)
    (hg : c.sc.names.lookup ("isinstance" : Str) = some .globalImplicit) (hm : c.G.mg "isinstance" = none) (hd : (x == ("__debug__" : Str)) = false := by decide)
    (he : ∀ env, starEach [a, .Name x px] env = (false, eval a env) :: starEach [.Name x px] env := by intro _; rfl) :
    JE c Γ (.Call (.Name "isinstance" p) [a, .Name x px] [] pos) (isiF (isExc cs g vx) fa) :=
  je_isE0 (v := .ref (c.G.cls j)) (u := .ref (c.G.cls j)) (fun X h => pe_glob (h.gl hx) (by rw [h.mg]; exact hxm) rfl hd) (.own _) k ha hg hm he
theorem je_isEB {cs : List Nat} {g : Nat → Bool} {vx : Bool} {T : String} {x : Str} {px p : Pos} (k : IsiE c.G (.type T) cs g vx)
    (hx : c.sc.names.lookup x = some .globalImplicit) (hxm : c.G.mg x = none) (hxb : bootBuiltins x = some (.type T)) (ha : JV c Γ a fa)
    (hg : c.sc.names.lookup ("isinstance" : Str) = some .globalImplicit) (hm : c.G.mg "isinstance" = none) (hn : x ≠ "__name__" := by decide) (hd : (x == ("__debug__" : Str)) = false := by decide)
    (he : ∀ env, starEach [a, .Name x px] env = (false, eval a env) :: starEach [.Name x px] env := by intro _; rfl) :
    JE c Γ (.Call (.Name "isinstance" p) [a, .Name x px] [] pos) (isiF (isExc cs g vx) fa) :=
  je_isE0 (v := .ty T) (u := .type T) (fun X h => pe_bltn (h.gl hx) (by rw [h.mg]; exact hxm) hxb rfl hn hd) (.ty T) k ha hg hm he
def tXv (K : PySem.W.Frag) (te : TE) : TE := fun σ H Q => te σ H fun x H1 => ∃ a C dx fs v, x = .ref a ∧ H1 a = some (ExcO a C dx) ∧ H1 dx = some (.xd fs) ∧ XcC K C ∧ fs.lookup ("value" : Str) = some v ∧ Q v H1
theorem pe_xv {X : Cx} {te : TE} (he : PE X e te) (hb : attributeBase e "value" X.env (eval e X.env) = eval e X.env := by rfl) : PE X (.Attribute e "value" pos) (tXv X.K te) := by
  refine ⟨fun pins s σ H Q I h => ?_⟩
  refine attr_of hb (thn (he.run pins s σ H _ I h) fun u s1 hh => ?_)
  obtain ⟨x, H1, I1, rx, a, C, dx, fs, v, ex, ha, hx, k, l, q⟩ := hh
  subst ex
  obtain rfl : u = Value.ref a := rx
  obtain ⟨oe, od, J, mA, hl, hr⟩ := exc_inst I1 ha hx
  obtain ⟨u, hu, ru⟩ := RelO.some_of (v := v) (o := mA "value") (by rw [← l]; exact hr "value")
  exact HandSPX.exc_get I1.kIn J k.ga k.gt k.sub (PySem.W.findObj_own k.hd k.no rfl (by rw [hl, hu])) (handed_of ru) ⟨v, H1, I1.tok _, ru, q⟩
def xvD (cs : List Nat) (d : D) : Option D := match d with
  | .exc c v => if c ∈ cs then some v else none
  | _ => none
def xvF (cs : List Nat) (f : Rho → M D) : Rho → M D := fun ρ => do opt (xvD cs (← f ρ))
def vexF (f : Rho → M D) : Rho → M D := fun ρ => do let _ ← f ρ; pure .vex
theorem btx_ValueError : bootBuiltins "ValueError" = some (.type "ValueError") := by decide +kernel
theorem je_xv {cs : List Nat} (k : ∀ i ∈ cs, XcC c.G.K (c.G.cls i)) (ha : JE c Γ a fa) (hb : ∀ env, attributeBase a "value" env (eval a env) = eval a env := by intro _; rfl) : JE c Γ (.Attribute a "value" pos) (xvF cs fa) := by
  obtain ⟨t, h1, h2⟩ := ha
  refine ⟨tXv c.G.K t, fun X h => by have q := pe_xv (pos := pos) (h1 X h) (hb _); rw [h.K] at q; exact q, fun B ρ s σ Hf H Q V p => ?_⟩
  unfold xvF at p
  rw [post_bind] at p
  refine h2 B ρ s σ Hf H _ V (p.imp (fun d s1 p1 x Hf1 H1 x1 r1 => ?_) fun _ _ _ z => z)
  rw [post_opt] at p1
  obtain ⟨z, hz, p1⟩ := p1
  cases d with
  | exc ci w =>
    cases r1 with
    | exc g1 g2 r =>
      unfold xvD at hz
      dsimp only at hz
      split at hz
      · rename_i hc
        cases hz
        exact ⟨_, _, _, _, _, rfl, x1.fh _ _ g1, x1.fh _ _ g2, k ci hc, by simp [List.lookup], p1 _ _ _ x1 r⟩
      · cases hz
  | _ => cases hz
theorem je_vex {x : Str} {p : Pos} (hx : c.sc.names.lookup x = some .globalImplicit) (hxm : c.G.mg x = none) (hxb : bootBuiltins x = some (.type "ValueError")) (ha : JE c Γ a fa) (hn : x ≠ "__name__" := by decide) (hd : (x == ("__debug__" : Str)) = false := by decide)
    (he : ∀ env, starEach [a] env = (false, eval a env) :: starEach [] env := by intro _; rfl) : JE c Γ (.Call (.Name x p) [a] [] pos) (vexF fa) := by
  obtain ⟨t, h1, h2⟩ := ha
  refine ⟨tMkV (fun σ H Q => tCons t tNil σ H fun vs H1 => vs.length ≤ sizeLine ∧ Q (.type "ValueError") none H1), fun X h => pe_mk (pmk_exb exb_ValueError (h.gl hx) (by rw [h.mg]; exact hxm) hxb (pa_cons (h1 X h) pa_nil (he _)) hn hd (he _) rfl), fun B ρ s σ Hf H Q V p => ?_⟩
  unfold vexF at p
  rw [post_bind] at p
  show t σ H _
  refine h2 B ρ s σ Hf H _ V (p.imp (fun d s1 p1 x Hf1 H1 x1 r1 => ?_) fun _ _ _ z => z)
  rw [post_pure] at p1
  refine ⟨(show 1 ≤ sizeLine by rw [sizeLine_eq]; omega), fun a na => .inr ⟨rfl, rfl, ?_⟩⟩
  have y1 := x1.refl.newF (o := VexO a) na
  exact p1 _ _ _ (x1.trans y1) (.vex upd_same)
end
end VL
namespace VL
open PySem PySem.Spec PyProof.Rows L2
def oexB (K : PySem.W.Frag) (C : Addr) : Bool := match K.lookup C with
  | some ⟨.type "type", _, .cls cd, sl⟩ => match cd.mro, sl.toList with
    | .ref c :: bm, [_, _, _, _, some (.builtin n), _] => c == C && (n == "ValueError.__new__" && (!cd.hasDel && (cd.hasDict && PySem.HandSPX.refsVE bm)))
    | _, _ => false
  | _ => false
theorem oexB_cls {K : PySem.W.Frag} {C : Addr} (q : oexB K C = true) : ∃ nm q N bs bm sn sub ab col dd k0 k1 k2 k3 k5, K.lookup C = some (excClassObj nm q C N bs bm true sn sub ab col dd k0 k1 k2 k3 k5 "ValueError.__new__") ∧ PySem.HandSPX.refsVE bm = true := by
  unfold oexB at q
  split at q
  · rename_i dd cd sl ho
    split at q
    · rename_i c bm k0 k1 k2 k3 n k5 hm hs
      have z := q
      simp only [Bool.and_eq_true, beq_iff_eq, Bool.not_eq_true'] at z
      obtain ⟨e1, e2, e3, e4, e5⟩ := z
      cases cd with
      | mk nm bs mro ns qn hd sn sub ab col del =>
        cases sl with
        | mk l =>
          dsimp only at hm hs e3 e4
          subst e1 e2 hm hs e3 e4
          exact ⟨nm, qn, ns, bs, bm, sn, sub, ab, col, dd, k0, k1, k2, k3, k5, ho, e5⟩
    · cases q
  · cases q
def xmB (K : PySem.W.Frag) (D fI C : Addr) : Bool :=
  oexB K C && (decide (PySem.W.findIn K (.ref C) "__setattr__" = some (some (.builtin "object.__setattr__"))) && (decide (PySem.W.subIn K (.ref C) (.type "BaseException") = some true) && (decide (PySem.W.typeIn K (.ref C) = some (.type "type")) && (PySem.W.keepIn K (.ref C) &&
    (decide (PySem.W.mroIn K C (.ref D) = some true) && (decide (PySem.W.ks_superIn K C D "__init__" = some (some (.builtin "ValueError.__init__"))) && (decide (PySem.W.subIn K (.ref C) (.type "ValueError") = some true) && (decide (PySem.W.findIn K (.ref C) "value" = some none) &&
      (decide (PySem.W.findIn K (.ref C) "__init__" = some (some (.ref fI))) && (decide (PySem.W.typeIn K (.ref fI) = some (.type "function")) && xcB K C))))))))))
structure XmFacts (K : PySem.W.Frag) (D fI C : Addr) : Prop where
  sup : SupC K D C
  init : PySem.W.findIn K (.ref C) "__init__" = some (some (.ref fI))
  ty : PySem.W.typeIn K (.ref fI) = some (.type "function")
  xc : XcC K C
theorem xmB_ok {K : PySem.W.Frag} {D fI C : Addr} (h : xmB K D fI C = true) : XmFacts K D fI C := by
  unfold xmB at h
  simp only [Bool.and_eq_true, decide_eq_true_eq] at h
  obtain ⟨h1, h2, h3, h4, h5, h6, h7, h8, h9, h10, h11, h12⟩ := h
  exact ⟨⟨⟨oexB_cls h1, h2, h3, h4, h5⟩, h6, h7, h8, h9⟩, h10, h11, xcC_by h12⟩
def isiB (K : PySem.W.Frag) (u : Value) (cs : List (Addr × Bool)) (vx : Bool) : Bool :=
  tyNames.all (fun T => decide (PySem.W.kitOne K (.type T) u = some false)) && (cs.all (fun p => decide (PySem.W.kitOne K (.ref p.1) u = some p.2)) && decide (PySem.W.kitOne K (.type "ValueError") u = some vx))
theorem isiB_ok {G : Glob} {u : Value} {cs : List Nat} {f : Nat → Bool} {vx : Bool} (h : isiB G.K u (cs.map fun i => (G.cls i, f i)) vx = true) (hx : ∀ i ∈ cs, XcC G.K (G.cls i)) : IsiE G u cs f vx := by
  unfold isiB at h
  simp only [Bool.and_eq_true, decide_eq_true_eq, List.all_eq_true] at h
  obtain ⟨h1, h2, h3⟩ := h
  exact ⟨h1, fun i hi => ⟨hx i hi, h2 _ (List.mem_map_of_mem (f := fun i => (G.cls i, f i)) hi)⟩, h3⟩
structure XmG (G : Glob) (x : Str) (ci : Nat) : Prop where
  hm : G.mg x = some (.ref (G.cls ci))
  make : ∃ (fI D : Addr) (fd : FuncData), XmFacts G.K D fI (G.cls ci) ∧ FnOk G.prog G.w G.K G.mg G.base (L2.CX G.prog G.w) 1 fI fd ["self", "value"] (spPost G.K D) ∧ Binds G.K fd ["self", "value"] []
theorem XmG.at_ {G : Glob} {x : Str} {ci : Nat} (h : XmG G x ci) {c : Ctx} (hc : c.G = G := by rfl) (hk : 2 ≤ c.k := by exact Nat.le_of_ble_eq_true rfl) : XMk c x ci := by
  subst hc
  obtain ⟨fI, D, fd, k, F, hb⟩ := h.make
  exact ⟨h.hm, 1, fI, D, fd, k.sup, k.init, k.ty, F, hk, hb⟩
theorem XmG.xc {G : Glob} {x : Str} {ci : Nat} (h : XmG G x ci) : XcC G.K (G.cls ci) := by
  obtain ⟨fI, D, fd, k, F, hb⟩ := h.make
  exact k.xc
end VL
namespace VL
open PySem PySem.Spec PyProof.Rows L2
@[simp] theorem potGet_k (k : Int) (ρ : Rho) : potGet (slot 0) (fun _ => pure (.int k)) (some .pot :: ρ) = potR k := by
  unfold potGet; simp
@[simp] theorem potR0 (s : Pot) : potR 0 s = .ok (.int s.1) s := rfl
@[simp] theorem potR1 (s : Pot) : potR 1 s = .ok (.int s.2.1) s := rfl
@[simp] theorem potR2 (s : Pot) : potR 2 s = .ok (.int s.2.2) s := rfl
theorem sz_of {n : Nat} (h : n ≤ 16000000) : n ≤ sizeLine := by rw [sizeLine_eq]; omega
theorem sz5 : 5 ≤ sizeLine := sz_of (by decide)
theorem seqS_run {f g : Rho → M Fl} {ρ ρ' : Rho} {s s' : Pot} (h : f ρ s = .ok (.nx ρ') s') : seqS f g ρ s = g ρ' s' := by unfold seqS; rw [bind_run, h]
theorem runD_rt {n : Nat} {body : Rho → M Fl} {ds : List D} {s s' : Pot} {d : D} (h : body (rho0 n ds) s = .ok (.rt d) s') : runD n body ds s = .ok d s' := by unfold runD; rw [bind_run, h]; rfl
theorem tk_y0 (s : Pot) (ρ : Rho) : potSet (slot 0) (fun _ => pure (.int 2)) (bin addD (potGet (slot 0) (fun _ => pure (.int 2))) (fun _ => pure (.int 1))) (some .pot :: ρ) s = .ok (.nx (some .pot :: ρ)) (s.1, s.2.1, s.2.2 + 1) := by
  simp [potSet, bin, addD, potW, potPut, opt]
theorem tk_y1 (s : Pot) (p : Int) (ρ : Rho) (hp : idxD (.lst [.int 2147483647, .int 2147483629, .int 2147483587, .int 2147483579, .int 2147483563]) (.int (s.2.2 % 5)) = some (.int p)) (sz5 : 5 ≤ sizeLine) :
    setS 3 (bin idxD (lstF (consA (fun _ => pure (.int 2147483647)) (consA (fun _ => pure (.int 2147483629)) (consA (fun _ => pure (.int 2147483587)) (consA (fun _ => pure (.int 2147483579)) (consA (fun _ => pure (.int 2147483563)) nilA)))))) (bin modD (callF intD (consA (potGet (slot 0) (fun _ => pure (.int 2))) nilA)) (fun _ => pure (.int 5)))) (some .pot :: ρ) s = .ok (.nx ((some .pot :: ρ).set 3 (some (.int p)))) s := by
  simp [setS, bin, lstF, consA, nilA, mkL, callF, intD, modD, intI, opt, hp, sz5]
theorem tk_y2 (s : Pot) (p c1 c2 u : Int) (hp0 : 0 < p) (k1 : mulD (.int c1) (.int s.2.2) = some (.int (c1 * s.2.2))) (k2 : mulD (.int (c1 * s.2.2)) (.int s.2.2) = some (.int (c1 * s.2.2 * s.2.2)))
    (hpw : powD (.int (s.2.1 + c1 * s.2.2 * s.2.2 + c2)) (.int 3) = some (.int ((s.2.1 + c1 * s.2.2 * s.2.2 + c2) ^ 3))) :
    setS 4 (bin modD (callF intD (consA (bin powD (callF intD (consA (bin addD (bin addD (potGet (slot 0) (fun _ => pure (.int 1))) (bin mulD (bin mulD (fun _ => pure (.int c1)) (potGet (slot 0) (fun _ => pure (.int 2)))) (potGet (slot 0) (fun _ => pure (.int 2))))) (fun _ => pure (.int c2))) nilA)) (fun _ => pure (.int 3))) nilA)) (slot 3)) [some .pot, some (.int u), none, some (.int p), none] s = .ok (.nx [some .pot, some (.int u), none, some (.int p), some (.int ((s.2.1 + c1 * s.2.2 * s.2.2 + c2) ^ 3 % p))]) s := by
  simp [setS, bin, lstF, consA, nilA, mkL, callF, intD, modD, intI, addD, opt, hp0, k1, k2, hpw]
theorem tk_y3 (s : Pot) (p c3 u B : Int) (k1 : mulD (.int c3) (.int s.2.2) = some (.int (c3 * s.2.2))) (k2 : mulD (.int B) (.int (B % 10427 + c3 * s.2.2)) = some (.int (B * (B % 10427 + c3 * s.2.2)))) :
    setS 4 (bin modD (callF intD (consA (bin mulD (slot 4) (bin addD (bin modD (callF intD (consA (slot 4) nilA)) (fun _ => pure (.int 10427))) (bin mulD (fun _ => pure (.int c3)) (potGet (slot 0) (fun _ => pure (.int 2)))))) nilA)) (fun _ => pure (.int 2305843009213693907))) [some .pot, some (.int u), none, some (.int p), some (.int B)] s = .ok (.nx [some .pot, some (.int u), none, some (.int p), some (.int (B * (B % 10427 + c3 * s.2.2) % 2305843009213693907))]) s := by
  simp [setS, bin, lstF, consA, nilA, mkL, callF, intD, modD, intI, addD, opt, k1, k2]
theorem tk_y4 (s : Pot) (p u B : Int) (hu : 0 < u) :
    retS (bin modD (callF intD (consA (bin fdivD (slot 4) (fun _ => pure (.int 137))) nilA)) (slot 1)) [some .pot, some (.int u), none, some (.int p), some (.int B)] s = .ok (.rt (.int (B / 137 % u))) s := by
  simp [retS, bin, consA, nilA, callF, intD, modD, fdivD, intI, opt, hu]
theorem two64 : (2 : Int) ^ 64 = 18446744073709551616 := by decide +kernel
theorem mul_ok {i j : Int} (h : (-18446744073709551616 < i ∧ i < 18446744073709551616) ∨ (-18446744073709551616 < j ∧ j < 18446744073709551616)) : mulD (.int i) (.int j) = some (.int (i * j)) := by
  unfold mulD intI
  dsimp only
  rw [if_pos (by rw [two64]; exact h)]
def TakeOk (t : List D → M D) : Prop := ∀ u : Int, 1 ≤ u → u < 1000000 → Tk 1 (t [.pot, .int u]) (fun d => ∃ r : Nat, d = .int (r : Nat) ∧ ((r : Nat) : Int) < u)
theorem take_ok {c1 c2 c3 : Int} (h1 : 0 ≤ c1 ∧ c1 < 1000000) (h2 : 0 ≤ c2 ∧ c2 < 1000000) (h3 : 0 ≤ c3 ∧ c3 < 1000000) : TakeOk (runD 5 (LB_l_take c1 c2 c3)) := by
  intro u hu hu2 b s ⟨p1, p2, p3, p4, p5⟩ hb
  have hm : (0 : Int) < u := by omega
  have hlt : u < 1073741824 := by omega
  by_cases hpos : 0 < s.1
  · have e : runD 5 (LB_l_take c1 c2 c3) [.pot, .int u] s = .ok (.int (s.1 % u)) (s.1 / u, s.2.1, s.2.2) := by
      simp [runD, rho0, LB_l_take, seqS, ifS, tst, bin, callF, intD, consA, nilA, potSet, potW, potPut, setS, retS, endD, gtD, intI, modD, fdivD, hpos, hm, hlt, opt]
    have h0 := Int.emod_nonneg s.1 (by omega : u ≠ 0)
    have h1 := Int.emod_lt_of_pos s.1 hm
    refine ⟨_, _, e, ⟨Int.ediv_nonneg p1 (by omega), p2, p3, p4, by simpa using (by omega : s.2.2 ≤ b + 1)⟩, (s.1 % u).toNat, ?_, by omega⟩
    rw [Int.toNat_of_nonneg h0]
  · obtain ⟨p, hp, hp0, hp1⟩ : ∃ p : Int, idxD (.lst [.int 2147483647, .int 2147483629, .int 2147483587, .int 2147483579, .int 2147483563]) (.int ((s.2.2 + 1) % 5)) = some (.int p) ∧ 0 < p ∧ p < 2147483648 := by
      have g0 := Int.emod_nonneg (s.2.2 + 1) (by decide : (5 : Int) ≠ 0)
      have g1 := Int.emod_lt_of_pos (s.2.2 + 1) (by decide : (0 : Int) < 5)
      generalize (s.2.2 + 1) % 5 = z at g0 g1
      have : z = 0 ∨ z = 1 ∨ z = 2 ∨ z = 3 ∨ z = 4 := by omega
      rcases this with rfl | rfl | rfl | rfl | rfl <;> exact ⟨_, rfl, by decide, by decide⟩
    have hc : s.2.2 + 1 ≤ 100001 := by omega
    have hc0 : 0 ≤ s.2.2 + 1 := by omega
    have q1 : 0 ≤ c1 * (s.2.2 + 1) ∧ c1 * (s.2.2 + 1) ≤ 1000000 * 100001 := ⟨Int.mul_nonneg h1.1 hc0, Int.mul_le_mul (by omega) hc hc0 (by decide)⟩
    have q2 : 0 ≤ c1 * (s.2.2 + 1) * (s.2.2 + 1) ∧ c1 * (s.2.2 + 1) * (s.2.2 + 1) ≤ 1000000 * 100001 * 100001 := ⟨Int.mul_nonneg q1.1 hc0, Int.mul_le_mul q1.2 hc hc0 (by decide)⟩
    have q3 : (s.2.1 + c1 * (s.2.2 + 1) * (s.2.2 + 1) + c2).natAbs < 2 ^ 64 := by omega
    have q4 : 0 ≤ c3 * (s.2.2 + 1) ∧ c3 * (s.2.2 + 1) ≤ 1000000 * 100001 := ⟨Int.mul_nonneg h3.1 hc0, Int.mul_le_mul (by omega) hc hc0 (by decide)⟩
    have hb1 : ∀ x : Int, 0 ≤ x % p ∧ x % p < 2147483648 := fun x => ⟨Int.emod_nonneg _ (by omega), by have := Int.emod_lt_of_pos x hp0; omega⟩
    have hb2 := hb1 ((s.2.1 + c1 * (s.2.2 + 1) * (s.2.2 + 1) + c2) ^ 3)
    obtain ⟨r, e, h0, h1'⟩ : ∃ r : Int, runD 5 (LB_l_take c1 c2 c3) [.pot, .int u] s = .ok (.int r) (s.1, s.2.1, s.2.2 + 1) ∧ 0 ≤ r ∧ r < u := by
      generalize hB : (s.2.1 + c1 * (s.2.2 + 1) * (s.2.2 + 1) + c2) ^ 3 % p = B at hb2
      refine ⟨(B * (B % 10427 + c3 * (s.2.2 + 1))) % 2305843009213693907 / 137 % u, ?_, Int.emod_nonneg _ (by omega), Int.emod_lt_of_pos _ hm⟩
      have m1 : (-18446744073709551616 < c1 ∧ c1 < 18446744073709551616) ∨ (-18446744073709551616 < s.2.2 + 1 ∧ s.2.2 + 1 < 18446744073709551616) := .inl (by omega)
      have m2 : (-18446744073709551616 < c1 * (s.2.2 + 1) ∧ c1 * (s.2.2 + 1) < 18446744073709551616) ∨ (-18446744073709551616 < s.2.2 + 1 ∧ s.2.2 + 1 < 18446744073709551616) := .inl (by omega)
      have m3 : (-18446744073709551616 < c3 ∧ c3 < 18446744073709551616) ∨ (-18446744073709551616 < s.2.2 + 1 ∧ s.2.2 + 1 < 18446744073709551616) := .inl (by omega)
      have m4 : (-18446744073709551616 < B ∧ B < 18446744073709551616) ∨ (-18446744073709551616 < B % 10427 + c3 * (s.2.2 + 1) ∧ B % 10427 + c3 * (s.2.2 + 1) < 18446744073709551616) := .inl (by omega)
      have hpw : powD (.int (s.2.1 + c1 * (s.2.2 + 1) * (s.2.2 + 1) + c2)) (.int 3) = some (.int ((s.2.1 + c1 * (s.2.2 + 1) * (s.2.2 + 1) + c2) ^ 3)) := by
        unfold powD intI
        show (if (0 : Int) ≤ 3 ∧ (3 : Int) ≤ 1000000 ∧ _ then _ else _) = _
        rw [if_pos ⟨by decide, by decide, q3⟩]
        rfl
      have hpw : powD (.int (s.2.1 + c1 * (s.2.2 + 1) * (s.2.2 + 1) + c2)) (.int 3) = some (.int ((s.2.1 + c1 * (s.2.2 + 1) * (s.2.2 + 1) + c2) ^ 3)) := by
        unfold powD intI
        show (if (0 : Int) ≤ 3 ∧ (3 : Int) ≤ 1000000 ∧ _ then _ else _) = _
        rw [if_pos ⟨by decide, by decide, q3⟩]
        rfl
      have z0 : ifS (tst (bin gtD (potGet (slot 0) (fun _ => pure (.int 0))) (fun _ => pure (.int 0)))) (seqS (setS 2 (bin modD (callF intD (consA (potGet (slot 0) (fun _ => pure (.int 0))) nilA)) (slot 1))) (seqS (potSet (slot 0) (fun _ => pure (.int 0)) (bin fdivD (potGet (slot 0) (fun _ => pure (.int 0))) (slot 1))) (retS (slot 2)))) skip [some .pot, some (.int u), none, none, none] s = .ok (.nx [some .pot, some (.int u), none, none, none]) s := by
        simp [ifS, tst, bin, gtD, intI, opt, hpos, skip]
      have z1 := tk_y0 s [some (.int u), none, none, none]
      have z2 := tk_y1 (s.1, s.2.1, s.2.2 + 1) p [some (.int u), none, none, none] hp sz5
      have z3 := tk_y2 (s.1, s.2.1, s.2.2 + 1) p c1 c2 u hp0 (mul_ok m1) (mul_ok m2) hpw
      rw [show (s.1, s.2.1, s.2.2 + 1).2.1 + c1 * (s.1, s.2.1, s.2.2 + 1).2.2 * (s.1, s.2.1, s.2.2 + 1).2.2 + c2 = s.2.1 + c1 * (s.2.2 + 1) * (s.2.2 + 1) + c2 from rfl, hB] at z3
      have z4 := tk_y3 (s.1, s.2.1, s.2.2 + 1) p c3 u B (mul_ok m3) (mul_ok m4)
      have z5 := tk_y4 (s.1, s.2.1, s.2.2 + 1) p u (B * (B % 10427 + c3 * (s.2.2 + 1)) % 2305843009213693907) hm
      refine runD_rt ?_
      unfold LB_l_take
      show seqS _ _ [some .pot, some (.int u), none, none, none] s = _
      rw [seqS_run z0, seqS_run z1, seqS_run z2]
      show seqS _ _ [some .pot, some (.int u), none, some (.int p), none] (s.1, s.2.1, s.2.2 + 1) = _
      rw [seqS_run z3, seqS_run z4]
      exact z5
    refine ⟨_, _, e, ⟨p1, p2, p3, by simpa using hc0, by simpa using (by omega : s.2.2 + 1 ≤ b + 1)⟩, r.toNat, ?_, by omega⟩
    rw [Int.toNat_of_nonneg h0]
end VL
namespace VL
open PySem PySem.Spec PyProof.Rows L2
theorem range1_nat {k : Nat} (h : k ≤ 1000000) : range1D [.int (k : Nat)] = some ((List.range k).map fun i => .int ((0 : Int) + (i : Nat))) := by
  unfold range1D
  split
  · rename_i j e
    cases e
    rw [if_pos ⟨by omega, by omega, by rw [sizeLine_eq]; omega⟩, Int.toNat_natCast]
  · rename_i h1
    exact absurd rfl (h1 _)
end VL
namespace VL
open PySem PySem.Spec PyProof.Rows L2
def pool : List Str := ["a", "b", "c", "d", "e", "gate", "house", "lane", "zzzzzzzz", "fall", "open", "none", "books", "x", "y", "ab"]
def OfOk (t : List D → M D) : Prop := ∀ l : List D, 1 ≤ l.length → l.length ≤ 1000 → Tk 1 (t [.pot, .lst l]) (fun d => d ∈ l)
theorem of_ok {t : List D → M D} (ht : TakeOk t) : OfOk (runD 2 (LB_l_of t)) := by
  intro l h1 h2
  have e : runD 2 (LB_l_of t) [.pot, .lst l] = (t [.pot, .int (l.length : Nat)] >>= fun d => opt (idxD (.lst l) d)) := by
    unfold runD LB_l_of
    simp [retS, bin, fnF, callN, callF, lenD, consA, nilA, rho0, endD]
  rw [e]
  refine Tk.bind (k1 := 1) (k2 := 0) (ht _ (by omega) (by omega)) ?_
  rintro d ⟨r, rfl, hr⟩
  have hr' : r < l.length := by omega
  have : idxD (.lst l) (.int (r : Nat)) = some l[r] := by
    show L2.atI l (r : Nat) = some l[r]
    unfold L2.atI L2.ixN
    have h0 : (0 : Int) ≤ (r : Nat) := by omega
    rw [if_pos h0]
    simp [hr']
  rw [this]
  exact Tk.ret (by simp)
end VL
namespace VL
open PySem PySem.Spec PyProof.Rows L2
def OkS (x : Str) : Prop := x.cps.all (· < 0x110000) = true
abbrev Lane := Str × Str
def sts (l : List Str) : List D := l.map .str
def laneD (p : Lane) : D := .tup [.str p.1, .str p.2]
def lanes (l : List Lane) : List D := l.map laneD
@[simp] theorem strs_len (l : List Str) : (sts l).length = l.length := by simp [sts]
@[simp] theorem lanes_len (l : List Lane) : (lanes l).length = l.length := by simp [lanes]
theorem okD_str {n : Nat} {x : Str} (h : OkS x) : okD n (.str x) = true := by cases n <;> exact h
@[simp] theorem eqB_str (a b : Str) : eqB (.str a) (.str b) = decide (a = b) := by
  by_cases h : a = b <;> simp [eqB, h]
@[simp] theorem eqB_lane (p q : Lane) : eqB (laneD p) (laneD q) = decide (p = q) := by
  obtain ⟨a, b⟩ := p
  obtain ⟨c, d⟩ := q
  by_cases h1 : a = c <;> by_cases h2 : b = d <;> simp [laneD, eqB, eqBL, h1, h2]
theorem ne_str {a b : Str} (ha : OkS a) (hb : OkS b) : neD (.str a) (.str b) = some (.bl (!decide (a = b))) := by
  rw [neD_ok (okD_str ha) (okD_str hb), eqB_str]
structure Lore where
  g : Str
  hs : List Str
  ls : List Lane
structure LoreOk (L : Lore) : Prop where
  nd : (L.g :: L.hs).Nodup
  pl : ∀ n ∈ L.g :: L.hs, n ∈ pool
  le : L.hs.length ≤ 10
  lnd : L.ls.Nodup
  ends : ∀ p ∈ L.ls, p.1 ∈ L.hs ∧ p.2 ∈ L.g :: L.hs ∧ p.1 ≠ p.2
  few : L.ls.length ≤ 40
theorem pool_ok : ∀ n ∈ pool, OkS n := by
  have h : pool.all (fun n => n.cps.all (· < 0x110000)) = true := by decide +kernel
  intro n hn
  exact (List.all_eq_true.mp h) n hn
end VL
namespace VL
open PySem PySem.Spec PyProof.Rows L2
theorem compL_map {α : Type} {tg : D → Rho → Option Rho} {tt : Rho → M Bool} {te : Rho → M D} {ρ : Rho} (enc : α → D) (p : α → Bool) (out : α → D) : ∀ l : List α,
    (∀ a ∈ l, ∃ ρ', tg (enc a) ρ = some ρ' ∧ tt ρ' = pure (p a) ∧ (p a = true → te ρ' = pure (out a))) → compL tg tt te ρ (l.map enc) = pure ((l.filter p).map out)
  | [], _ => rfl
  | a :: l, h => by
    obtain ⟨ρ', h1, h2, h3⟩ := h a (by simp)
    have ih := compL_map enc p out l fun b hb => h b (by simp [hb])
    rw [List.map_cons]
    unfold compL
    rw [h1, opt_some, m_pure_bind, h2, m_pure_bind]
    cases hp : p a with
    | true =>
      rw [if_pos rfl, h3 hp, m_pure_bind, ih, m_pure_bind, List.filter_cons_of_pos hp, List.map_cons]
    | false =>
      rw [if_neg (by simp), ih, List.filter_cons_of_neg (by simp [hp])]
theorem lcF_map {α : Type} {vs : List Nat} {fi : Rho → M (List D)} {tg : D → Rho → Option Rho} {tt : Rho → M Bool} {te : Rho → M D} {ρ : Rho} (enc : α → D) (p : α → Bool) (out : α → D) (l : List α) (hi : fi ρ = pure (l.map enc))
    (h : ∀ a ∈ l, ∃ ρ', tg (enc a) (wipeR ρ vs) = some ρ' ∧ tt ρ' = pure (p a) ∧ (p a = true → te ρ' = pure (out a))) : lcF vs fi tg tt te ρ = pure (.lst ((l.filter p).map out)) := by
  unfold lcF
  rw [hi, m_pure_bind, compL_map enc p out l h, noE_pure, m_pure_bind]
theorem seqS_pure {f g : Rho → M Fl} {ρ ρ' : Rho} (h : f ρ = pure (.nx ρ')) : seqS f g ρ = g ρ' := by unfold seqS; rw [h, m_pure_bind]
theorem runD_pure {n : Nat} {body : Rho → M Fl} {ds : List D} {d : D} (h : body (rho0 n ds) = pure (.rt d)) : runD n body ds = pure d := by unfold runD; rw [h, m_pure_bind]; rfl
end VL
namespace VL
open PySem PySem.Spec PyProof.Rows L2
theorem setS_pure {i : Nat} {f : Rho → M D} {ρ : Rho} {d : D} (h : f ρ = pure d) : setS i f ρ = pure (.nx (ρ.set i (some d))) := by unfold setS; rw [h, m_pure_bind]
theorem retS_pure {f : Rho → M D} {ρ : Rho} {d : D} (h : f ρ = pure d) : retS f ρ = pure (.rt d) := by unfold retS; rw [h, m_pure_bind]
theorem bin_pure {g : D → D → Option D} {fa fb : Rho → M D} {ρ : Rho} {d e z : D} (ha : fa ρ = pure d) (hb : fb ρ = pure e) (hg : g d e = some z) : bin g fa fb ρ = pure z := by unfold bin; rw [ha, m_pure_bind, hb, m_pure_bind, hg, opt_some]
end VL
namespace VL
open PySem PySem.Spec PyProof.Rows L2 TL
theorem eq_int (i j : Int) : eqD (.int i) (.int j) = some (.bl (decide (i = j))) := by
  rw [eqD_ok rfl rfl]
  by_cases h : i = j <;> simp [eqB, h]
end VL
namespace VL
section
variable {α : Type} [DecidableEq α]
inductive Comes (ls : List (α × α)) (g : α) (gone : List α) : α → Prop
  | gate : Comes ls g gone g
  | step {s e : α} : (s, e) ∈ ls → Comes ls g gone e → s ∉ gone → Comes ls g gone s
theorem comes_start {ls : List (α × α)} {g : α} {gone : List α} {x : α} (h : Comes ls g gone x) : x = g ∨ x ∈ ls.map (·.1) := by
  cases h with
  | gate => exact .inl rfl
  | step h _ _ => exact .inr (List.mem_map.mpr ⟨_, h, rfl⟩)
theorem comes_gone {ls : List (α × α)} {g : α} {gone : List α} {x : α} (h : Comes ls g gone x) : x = g ∨ x ∉ gone := by
  cases h with
  | gate => exact .inl rfl
  | step _ _ h => exact .inr h
theorem Comes.mono {ls ls' : List (α × α)} {g : α} {gone gone' : List α} (h1 : ∀ p ∈ ls, p ∈ ls') (h2 : ∀ x ∈ gone', x ∈ gone) {x : α} (h : Comes ls g gone x) : Comes ls' g gone' x := by
  induction h with
  | gate => exact .gate
  | step a _ c ih => exact .step (h1 _ a) ih fun q => c (h2 _ q)
def nubOn (acc : List α) : List α → List α
  | [] => acc
  | x :: l => nubOn (if x ∈ acc then acc else acc ++ [x]) l
theorem mem_nubOn {x : α} : ∀ {l acc : List α}, x ∈ nubOn acc l ↔ x ∈ acc ∨ x ∈ l
  | [], acc => by simp [nubOn]
  | y :: l, acc => by
    unfold nubOn
    rw [mem_nubOn]
    by_cases h : y ∈ acc
    · simp only [if_pos h, List.mem_cons]
      constructor
      · rintro (h | h)
        · exact .inl h
        · exact .inr (.inr h)
      · rintro (h' | rfl | h')
        · exact .inl h'
        · exact .inl h
        · exact .inr h'
    · simp only [if_neg h, List.mem_append, List.mem_cons, List.not_mem_nil, or_false]
      constructor
      · rintro ((h | h) | h)
        · exact .inl h
        · exact .inr (.inl h)
        · exact .inr (.inr h)
      · rintro (h | h | h)
        · exact .inl (.inl h)
        · exact .inl (.inr h)
        · exact .inr h
theorem nodup_nubOn : ∀ {l acc : List α}, acc.Nodup → (nubOn acc l).Nodup
  | [], acc, h => h
  | y :: l, acc, h => by
    unfold nubOn
    refine nodup_nubOn ?_
    split
    · exact h
    · rename_i hy
      rw [List.nodup_append]
      exact ⟨h, by simp, fun a ha b hb => by simp at hb; subst hb; intro e; subst e; exact hy ha⟩
theorem length_le_of_nodup : ∀ {l u : List α}, l.Nodup → (∀ x ∈ l, x ∈ u) → l.length ≤ u.length
  | [], u, _, _ => by simp
  | x :: l, u, h, k => by
    rw [List.nodup_cons] at h
    have hx := k x (by simp)
    have := length_le_of_nodup (l := l) (u := u.erase x) h.2 fun y hy => by
      have hne : y ≠ x := fun e => h.1 (e ▸ hy)
      exact (List.mem_erase_of_ne hne).mpr (k y (by simp [hy]))
    rw [List.length_erase_of_mem hx] at this
    have hp : 0 < u.length := List.length_pos_of_mem hx
    simp; omega
def moreOf (ls : List (α × α)) (gone found more : List α) : List α :=
  nubOn [] ((ls.filter fun p => decide (p.2 ∈ more) && !decide (p.1 ∈ found ++ gone)).map (·.1))
theorem mem_moreOf {ls : List (α × α)} {gone found more : List α} {x : α} : x ∈ moreOf ls gone found more ↔ ∃ e ∈ more, (x, e) ∈ ls ∧ x ∉ found ∧ x ∉ gone := by
  unfold moreOf
  rw [mem_nubOn]
  simp only [List.not_mem_nil, false_or, List.mem_map, List.mem_filter, Bool.and_eq_true, decide_eq_true_eq, Bool.not_eq_true', decide_eq_false_iff_not, List.mem_append, not_or]
  constructor
  · rintro ⟨⟨s, e⟩, ⟨h1, h2, h3, h4⟩, rfl⟩
    exact ⟨e, h2, h1, h3, h4⟩
  · rintro ⟨e, h2, h1, h3, h4⟩
    exact ⟨(x, e), ⟨h1, h2, h3, h4⟩, rfl⟩
structure ComInv (ls : List (α × α)) (g : α) (gone : List α) (st : List α × List α) : Prop where
  nd : (st.1 ++ st.2).Nodup
  head : ∃ F, st.1 ++ st.2 = g :: F
  sound : ∀ x ∈ st.1 ++ st.2, Comes ls g gone x
  closed : ∀ p ∈ ls, p.2 ∈ st.1 → p.1 ∉ gone → p.1 ∈ st.1 ++ st.2
def comStep (ls : List (α × α)) (gone : List α) (st : List α × List α) : List α × List α := (st.1 ++ st.2, moreOf ls gone (st.1 ++ st.2) st.2)
theorem ComInv.start (ls : List (α × α)) (g : α) (gone : List α) : ComInv ls g gone ([], [g]) :=
  ⟨by simp, ⟨[], by simp⟩, fun x hx => by simp at hx; subst hx; exact .gate, fun p _ h => by simp at h⟩
theorem ComInv.step {ls : List (α × α)} {g : α} {gone : List α} {st : List α × List α} (I : ComInv ls g gone st) : ComInv ls g gone (comStep ls gone st) := by
  refine ⟨?_, ?_, ?_, ?_⟩
  · show (st.1 ++ st.2 ++ moreOf ls gone (st.1 ++ st.2) st.2).Nodup
    rw [List.nodup_append]
    refine ⟨I.nd, nodup_nubOn (by simp), fun a ha b hb e => ?_⟩
    subst e
    obtain ⟨_, _, _, h, _⟩ := mem_moreOf.mp hb
    exact h ha
  · obtain ⟨F, h⟩ := I.head
    exact ⟨F ++ moreOf ls gone (st.1 ++ st.2) st.2, by show st.1 ++ st.2 ++ moreOf ls gone (st.1 ++ st.2) st.2 = _; rw [h]; rfl⟩
  · intro x hx
    rcases List.mem_append.mp hx with h | h
    · exact I.sound x h
    · obtain ⟨e, h1, h2, h3, h4⟩ := mem_moreOf.mp h
      exact .step h2 (I.sound e (List.mem_append_right _ h1)) h4
  · intro p hp h1 h2
    show p.1 ∈ st.1 ++ st.2 ++ moreOf ls gone (st.1 ++ st.2) st.2
    by_cases h3 : p.1 ∈ st.1 ++ st.2
    · exact List.mem_append_left _ h3
    · rcases List.mem_append.mp h1 with h | h
      · exact absurd (I.closed p hp h h2) h3
      · exact List.mem_append_right _ (mem_moreOf.mpr ⟨p.2, h, hp, h3, h2⟩)
theorem ComInv.len {ls : List (α × α)} {g : α} {gone : List α} {st : List α × List α} (I : ComInv ls g gone st) : st.1.length + st.2.length ≤ ls.length + 1 := by
  have := length_le_of_nodup (u := g :: ls.map (·.1)) I.nd fun x hx => by
    rcases comes_start (I.sound x hx) with h | h
    · simp [h]
    · exact List.mem_cons_of_mem _ h
  simpa using this
theorem ComInv.done {ls : List (α × α)} {g : α} {gone : List α} {F : List α} (I : ComInv ls g gone (F, [])) : ∀ x, Comes ls g gone x ↔ x ∈ F := by
  intro x
  constructor
  · intro h
    induction h with
    | gate =>
      obtain ⟨G, h⟩ := I.head
      simp at h
      rw [h]; simp
    | step h _ h3 ih => simpa using I.closed _ h ih h3
  · intro h
    exact I.sound x (by simpa using h)
def lmoreOf (ls : List (α × α)) (gone here : List α) : List α := (ls.filter fun p => decide (p.2 ∈ here) && (!decide (p.1 ∈ here) && !decide (p.1 ∈ gone))).map (·.1)
theorem mem_lmoreOf {ls : List (α × α)} {gone here : List α} {x : α} : x ∈ lmoreOf ls gone here ↔ ∃ e ∈ here, (x, e) ∈ ls ∧ x ∉ here ∧ x ∉ gone := by
  unfold lmoreOf
  simp only [List.mem_map, List.mem_filter, Bool.and_eq_true, decide_eq_true_eq, Bool.not_eq_true', decide_eq_false_iff_not]
  constructor
  · rintro ⟨⟨s, e⟩, ⟨h1, h2, h3, h4⟩, rfl⟩
    exact ⟨e, h2, h1, h3, h4⟩
  · rintro ⟨e, h2, h1, h3, h4⟩
    exact ⟨(x, e), ⟨h1, h2, h3, h4⟩, rfl⟩
structure LcomInv (ls : List (α × α)) (g : α) (gone : List α) (here : List α) : Prop where
  nd : here.Nodup
  gate : g ∈ here
  sound : ∀ x ∈ here, Comes ls g gone x
theorem LcomInv.start (ls : List (α × α)) (g : α) (gone : List α) : LcomInv ls g gone [g] :=
  ⟨by simp, by simp, fun x hx => by simp at hx; subst hx; exact .gate⟩
theorem LcomInv.step {ls : List (α × α)} {g : α} {gone here : List α} (I : LcomInv ls g gone here) : LcomInv ls g gone (here ++ (lmoreOf ls gone here).take 1) := by
  cases h : lmoreOf ls gone here with
  | nil => simpa using I
  | cons y l =>
    have hy : y ∈ lmoreOf ls gone here := by rw [h]; simp
    obtain ⟨e, h1, h2, h3, h4⟩ := mem_lmoreOf.mp hy
    refine ⟨?_, by simp [I.gate], ?_⟩
    · rw [List.nodup_append]
      exact ⟨I.nd, by simp, fun a ha b hb q => by simp at hb; subst hb; subst q; exact h3 ha⟩
    · intro x hx
      simp at hx
      rcases hx with h | rfl
      · exact I.sound x h
      · exact .step h2 (I.sound e h1) h4
theorem LcomInv.len {ls : List (α × α)} {g : α} {gone here : List α} (I : LcomInv ls g gone here) : here.length ≤ ls.length + 1 := by
  have := length_le_of_nodup (u := g :: ls.map (·.1)) I.nd fun x hx => by
    rcases comes_start (I.sound x hx) with h | h
    · simp [h]
    · exact List.mem_cons_of_mem _ h
  simpa using this
theorem LcomInv.done {ls : List (α × α)} {g : α} {gone here : List α} (I : LcomInv ls g gone here) (h : lmoreOf ls gone here = []) : ∀ x, Comes ls g gone x ↔ x ∈ here := by
  intro x
  constructor
  · intro c
    induction c with
    | gate => exact I.gate
    | @step s e a _ b ih =>
      cases Classical.em (s ∈ here) with
      | inl q => exact q
      | inr q =>
        have : s ∈ lmoreOf ls gone here := mem_lmoreOf.mpr ⟨e, ih, a, q, b⟩
        rw [h] at this; simp at this
  · exact I.sound x
open Classical in
noncomputable def comB (ls : List (α × α)) (g : α) (gone : List α) (x : α) : Bool := decide (Comes ls g gone x)
theorem comB_eq {ls : List (α × α)} {g : α} {gone : List α} {x : α} : comB ls g gone x = true ↔ Comes ls g gone x := by simp [comB]
end
end VL
namespace VL
open PySem PySem.Spec PyProof.Rows L2 TL
theorem seqS_go {f g : Rho → M Fl} {ρ ρ' : Rho} {r : M Fl} (h : f ρ = pure (.nx ρ')) (k : g ρ' = r) : seqS f g ρ = r := by rw [seqS_pure h]; exact k
theorem tst_pure {f : Rho → M D} {ρ : Rho} {b : Bool} (h : f ρ = pure (.bl b)) : tst f ρ = pure b := by unfold tst; rw [h, m_pure_bind, asBl_bl]
theorem orB_pure {f g : Rho → M Bool} {ρ : Rho} {a b : Bool} (h : f ρ = pure a) (k : a = false → g ρ = pure b) : orB f g ρ = pure (a || b) := by
  unfold orB; rw [h, m_pure_bind]; cases a with
  | false => simpa using k rfl
  | true => rfl
theorem notB_pure {f : Rho → M Bool} {ρ : Rho} {a : Bool} (h : f ρ = pure a) : notB f ρ = pure !a := by unfold notB; rw [h, m_pure_bind]
theorem lstF_pure {fs : Rho → M (List D)} {ρ : Rho} {l : List D} (h : fs ρ = pure l) (z : l.length ≤ 16000000) : lstF fs ρ = pure (.lst l) := by
  unfold lstF mkL; rw [h, m_pure_bind, if_pos (sz_of z)]
theorem consA_pure {f : Rho → M D} {g : Rho → M (List D)} {ρ : Rho} {d : D} {ds : List D} (h : f ρ = pure d) (k : g ρ = pure ds) : consA f g ρ = pure (d :: ds) := by
  unfold consA; rw [h, m_pure_bind, k, m_pure_bind]
theorem callF_pure {g : List D → Option D} {fs : Rho → M (List D)} {ρ : Rho} {ds : List D} {z : D} (h : fs ρ = pure ds) (k : g ds = some z) : callF g fs ρ = pure z := by
  unfold callF; rw [h, m_pure_bind, k, opt_some]
theorem andV_pure {f g : Rho → M D} {ρ : Rho} {a b : Bool} (h : f ρ = pure (.bl a)) (k : a = true → g ρ = pure (.bl b)) : andV f g ρ = pure (.bl (a && b)) := by
  unfold andV; rw [h, m_pure_bind, asBl_bl, m_pure_bind]; cases a with
  | true => rw [if_pos rfl, k rfl]; rfl
  | false => rfl
theorem notV_pure {f : Rho → M D} {ρ : Rho} {a : Bool} (h : f ρ = pure (.bl a)) : notV f ρ = pure (.bl !a) := by unfold notV; rw [h, m_pure_bind, asBl_bl, m_pure_bind]
theorem forS_pure {fi : Rho → M (List D)} {tg : D → Rho → Option Rho} {body : Rho → M Fl} {ρ : Rho} {l : List D} {r : M Fl} (h : fi ρ = pure l) (k : forL tg body l ρ = r) : forS fi tg body ρ = r := by
  unfold forS; rw [h, m_pure_bind]; exact k
theorem isiF_pure {g : D → Option D} {f : Rho → M D} {ρ : Rho} {d z : D} (h : f ρ = pure d) (k : g d = some z) : isiF g f ρ = pure z := by
  unfold isiF; rw [h, m_pure_bind, k, opt_some]
theorem okS_k (x : Str) (h : x.cps.all (· < 0x110000) = true) : OkS x := h
theorem fnF_pure0 {n : Nat} {F : List D → M D} {fs : Rho → M (List D)} {ρ : Rho} {ds : List D} {z : M D} (h : fs ρ = pure ds) (hn : ds.length = n) (k : F ds = z) : fnF n F [] fs ρ = z := by
  unfold fnF callN; rw [h, m_pure_bind, List.append_nil, if_pos hn, k]
def IsMap {α : Type} (L : List D) (l : List α) (enc : α → D) : Prop := L = l.map enc
theorem isMap_map {α : Type} (l : List α) (enc : α → D) : IsMap (l.map enc) l enc := rfl
def CompAt (tg : D → Rho → Option Rho) (tt : Rho → M Bool) (te : Rho → M D) (ρ : Rho) (d : D) (p : Bool) (o : D) : Prop := ∃ ρ', tg d ρ = some ρ' ∧ tt ρ' = pure p ∧ (p = true → te ρ' = pure o)
theorem compAt_mk {tg : D → Rho → Option Rho} {tt : Rho → M Bool} {te : Rho → M D} {ρ ρ' : Rho} {d : D} {p b : Bool} {o o' : D} (h1 : tg d ρ = some ρ') (h2 : tt ρ' = pure b) (h3 : b = true → te ρ' = pure o') (h4 : p = b) (h5 : o = o') : CompAt tg tt te ρ d p o :=
  ⟨ρ', h1, h4 ▸ h2, fun e => h5 ▸ h3 (h4 ▸ e)⟩
theorem lcF_ev {α : Type} {vs : List Nat} {fi : Rho → M (List D)} {tg : D → Rho → Option Rho} {tt : Rho → M Bool} {te : Rho → M D} {ρ : Rho} {L : List D} {l : List α} {enc out : α → D} {p : α → Bool} (hi : fi ρ = pure L) (hL : IsMap L l enc)
    (h : ∀ a, a ∈ l → CompAt tg tt te (wipeR ρ vs) (enc a) (p a) (out a)) : lcF vs fi tg tt te ρ = pure (.lst ((l.filter p).map out)) :=
  lcF_map enc p out l (hL ▸ hi) fun a ha => h a ha
theorem skip_pure {ρ : Rho} : skip ρ = pure (.nx ρ) := rfl
theorem ifS_f {g : Rho → M Bool} {f h : Rho → M Fl} {ρ : Rho} {b : Bool} {r : M Fl} (hg : g ρ = pure b) (hb : b = false) (k : h ρ = r) : ifS g f h ρ = r := by
  unfold ifS; rw [hg, m_pure_bind, if_neg (by simp [hb])]; exact k
theorem slot_at {i : Nat} {ρ : Rho} {d : D} (h : ρ[i]? = some (some d)) : slot i ρ = pure d := by unfold slot; rw [h]
end VL
namespace VL
open PySem PySem.Spec PyProof.Rows L2 TL
theorem lcF_ev0 {α : Type} {vs : List Nat} {fi : Rho → M (List D)} {tg : D → Rho → Option Rho} {te : Rho → M D} {ρ : Rho} {L : List D} {l : List α} {enc out : α → D} (hi : fi ρ = pure L) (hL : IsMap L l enc)
    (h : ∀ a, a ∈ l → CompAt tg (fun _ => pure true) te (wipeR ρ vs) (enc a) true (out a)) : lcF vs fi tg (fun _ => pure true) te ρ = pure (.lst (l.map out)) := by
  rw [lcF_ev (p := fun _ => true) hi hL h, List.filter_eq_self.mpr fun _ _ => rfl]
section
variable {k k1 k2 : Nat}
theorem tk_pure {α : Type} {m : M α} {a : α} {P : α → Prop} (h : m = pure a) (p : P a) : Tk 0 m P := h ▸ Tk.ret p
theorem tk_go {f g : Rho → M Fl} {ρ ρ' : Rho} {Q : Fl → Prop} (h : f ρ = pure (.nx ρ')) (q : Tk k (g ρ') Q) : Tk k (seqS f g ρ) Q := by rw [seqS_pure h]; exact q
theorem tk_seq {f g : Rho → M Fl} {ρ : Rho} {P : Fl → Prop} {Q : Fl → Prop} (h : Tk k1 (f ρ) P) (hp : ∀ z, P z → ∃ ρ', z = .nx ρ') (q : ∀ ρ', P (.nx ρ') → Tk k2 (g ρ') Q) : Tk (k1 + k2) (seqS f g ρ) Q := by
  unfold seqS
  refine h.bind fun z hz => ?_
  obtain ⟨ρ', rfl⟩ := hp z hz
  exact q ρ' hz
theorem tk_ret {f : Rho → M D} {ρ : Rho} {P : D → Prop} (h : Tk k (f ρ) P) : Tk k (retS f ρ) (fun z => ∃ d, z = .rt d ∧ P d) := by
  unfold retS
  exact (h.bind (k2 := 0) fun d hd => Tk.ret ⟨d, rfl, hd⟩)
theorem tk_run {n : Nat} {body : Rho → M Fl} {ds : List D} {P : D → Prop} (h : Tk k (body (rho0 n ds)) (fun z => ∃ d, z = .rt d ∧ P d)) : Tk k (runD n body ds) P := by
  unfold runD
  refine (h.bind (k2 := 0) fun z hz => ?_)
  obtain ⟨d, rfl, hd⟩ := hz
  exact Tk.ret hd
theorem tk_fn {n : Nat} {F : List D → M D} {fs : Rho → M (List D)} {ρ : Rho} {ds : List D} {P : D → Prop} (h : fs ρ = pure ds) (hn : ds.length = n) (q : Tk k (F ds) P) : Tk k (fnF n F [] fs ρ) P := by
  rw [fnF_pure0 h hn rfl]; exact q
theorem tk_bin {g : D → D → Option D} {fa fb : Rho → M D} {ρ : Rho} {P P' Q : D → Prop} (ha : Tk k1 (fa ρ) P) (hb : Tk k2 (fb ρ) P') (hq : ∀ a b, P a → P' b → ∃ z, g a b = some z ∧ Q z) : Tk (k1 + k2) (bin g fa fb ρ) Q := by
  unfold bin
  refine ha.bind fun a pa => ?_
  refine (hb.bind (k2 := 0) fun b pb => ?_)
  obtain ⟨z, e, qz⟩ := hq a b pa pb
  rw [e]; exact Tk.ret qz
theorem tk_cons {f : Rho → M D} {g : Rho → M (List D)} {ρ : Rho} {P : D → Prop} {Q R : List D → Prop} (h : Tk k1 (f ρ) P) (q : Tk k2 (g ρ) Q) (r : ∀ d ds, P d → Q ds → R (d :: ds)) : Tk (k1 + k2) (consA f g ρ) R := by
  unfold consA
  refine h.bind fun d hd => ?_
  refine (q.bind (k2 := 0) fun ds hds => ?_)
  exact Tk.ret (r _ _ hd hds)
theorem tk_lst {fs : Rho → M (List D)} {ρ : Rho} {P : List D → Prop} {Q : D → Prop} (h : Tk k (fs ρ) P) (q : ∀ ds, P ds → ds.length ≤ 16000000 ∧ Q (.lst ds)) : Tk k (lstF fs ρ) Q := by
  unfold lstF
  refine (h.bind (k2 := 0) fun d hd => ?_)
  obtain ⟨z, e⟩ := q d hd
  unfold mkL
  rw [if_pos (sz_of z)]; exact Tk.ret e
end
end VL
namespace VL
open PySem PySem.Spec PyProof.Rows L2 TL
theorem LoreOk.with {L : Lore} (h : LoreOk L) {x : List Lane} (h1 : x.Nodup) (h2 : ∀ p ∈ x, p.1 ∈ L.hs ∧ p.2 ∈ L.g :: L.hs ∧ p.1 ≠ p.2) (h3 : x.length ≤ 40) : LoreOk ⟨L.g, L.hs, x⟩ :=
  ⟨h.nd, h.pl, h.le, h1, h2, h3⟩
theorem LoreOk.ok {L : Lore} (h : LoreOk L) : ∀ x ∈ L.g :: L.hs, OkS x := fun x hx => pool_ok x (h.pl x hx)
end VL
namespace VL
open PySem PySem.Spec PyProof.Rows L2 TL
theorem forL_step {tg : D → Rho → Option Rho} {body : Rho → M Fl} {d : D} {r : List D} {ρ ρ1 ρ2 : Rho} (h1 : tg d ρ = some ρ1) (h2 : body ρ1 = pure (.nx ρ2)) : forL tg body (d :: r) ρ = forL tg body r ρ2 := by
  conv => lhs; unfold forL
  rw [h1, opt_some, m_pure_bind, h2, m_pure_bind]
section
variable {t_lane_in t_name_in : List D → M D}
end
end VL
namespace VL
open PySem PySem.Spec PyProof.Rows L2 TL
noncomputable def homeOf (L : Lore) : List Str := L.hs.filter fun x => comB L.ls L.g [] x
theorem LoreOk.gate_ne {L : Lore} (h : LoreOk L) : ∀ x ∈ L.hs, x ≠ L.g := fun x hx e => by
  have := h.nd
  rw [List.nodup_cons] at this
  exact this.1 (e ▸ hx)
end VL
namespace VL
open PySem PySem.Spec PyProof.Rows L2 TL
def CaseOk (c : List Str) : Prop := (∀ x ∈ c, OkS x) ∧ c.length ≤ 1000
theorem CaseOk.drop {c : List Str} (h : CaseOk c) (n : Nat) : (∀ x ∈ c.drop n, OkS x) ∧ (c.drop n).length ≤ 1000 := ⟨fun x hx => h.1 x (List.mem_of_mem_drop hx), by have := h.2; simp; omega⟩
structure Mates (L M : Lore) : Prop where
  l : LoreOk L
  m : LoreOk M
  g : M.g = L.g
  hs : M.hs = L.hs
theorem Mates.symm {L M : Lore} (h : Mates L M) : Mates M L := ⟨h.m, h.l, h.g.symm, h.hs.symm⟩
theorem Mates.self {L : Lore} (h : LoreOk L) : Mates L L := ⟨h, h, rfl, rfl⟩
end VL
namespace VL
open PySem PySem.Spec PyProof.Rows L2 TL
def RightOk (k : Nat) (t : List D → M D) : Prop := Tk k (t [.pot]) (fun d => d = .bl true)
end VL
namespace VL
section
variable {α : Type} [DecidableEq α] {ls : List (α × α)} {g : α}
theorem comes_or {m k x : α} (h : Comes ls g [k] x) : Comes ls g [m] x ∨ Comes ls g [k] m := by
  induction h with
  | gate => exact .inl .gate
  | step h1 h2 h3 ih =>
    rename_i x y
    rcases ih with ih | ih
    · by_cases e : x = m
      · subst e; exact .inr (.step h1 h2 h3)
      · exact .inl (.step h1 ih (by simpa using e))
    · exact .inr ih
theorem must_trans {m k h : α} (h1 : ¬ Comes ls g [m] h) (h2 : ¬ Comes ls g [k] m) : ¬ Comes ls g [k] h := fun h3 => (comes_or (m := m) h3).elim h1 h2
theorem comes_both {m k x : α} (ne : m ≠ k) (h : Comes ls g [] x) : (Comes ls g [m] x ∧ Comes ls g [k] x) ∨ Comes ls g [k] m ∨ Comes ls g [m] k := by
  induction h with
  | gate => exact .inl ⟨.gate, .gate⟩
  | step h1 h2 h3 ih =>
    rename_i x y
    rcases ih with ⟨i1, i2⟩ | ih
    · by_cases e : x = m
      · subst e; exact .inr (.inl (.step h1 i2 (by simpa using ne)))
      · by_cases e2 : x = k
        · subst e2; exact .inr (.inr (.step h1 i1 (by simpa using e)))
        · exact .inl ⟨.step h1 i1 (by simpa using e), .step h1 i2 (by simpa using e2)⟩
    · exact .inr ih
theorem must_anti {m k : α} (ne : m ≠ k) (hm : Comes ls g [] m) (h1 : ¬ Comes ls g [k] m) (h2 : ¬ Comes ls g [m] k) : False := by
  rcases comes_both ne hm with ⟨_, h⟩ | h | h
  · exact h1 h
  · exact h1 h
  · exact h2 h
theorem comes_one {m k x : α} (h1 : Comes ls g [k] m) (h2 : Comes ls g [m] k) (h : Comes ls g [] x) : Comes ls g [m] x ∨ Comes ls g [k] x := by
  induction h with
  | gate => exact .inl .gate
  | step a1 a2 a3 ih =>
    rename_i x y
    rcases ih with ih | ih
    · by_cases e : x = m
      · subst e; exact .inr h1
      · exact .inl (.step a1 ih (by simpa using e))
    · by_cases e : x = k
      · subst e; exact .inl h2
      · exact .inr (.step a1 ih (by simpa using e))
theorem must_lin {m k h : α} (hh : Comes ls g [] h) (h1 : ¬ Comes ls g [m] h) (h2 : ¬ Comes ls g [k] h) : ¬ Comes ls g [k] m ∨ ¬ Comes ls g [m] k := by
  by_cases a : Comes ls g [k] m
  · by_cases b : Comes ls g [m] k
    · rcases comes_one a b hh with z | z
      · exact absurd z h1
      · exact absurd z h2
    · exact .inr b
  · exact .inl a
end
structure Tower {α : Type} (C : α → Prop) (bd : α → List α) : Prop where
  nd : ∀ h, C h → (bd h).Nodup
  inC : ∀ h, C h → ∀ m ∈ bd h, C m
  sub : ∀ h, C h → ∀ m ∈ bd h, ∀ k ∈ bd m, k ∈ bd h
  irr : ∀ h, C h → h ∉ bd h
  lin : ∀ h, C h → ∀ m ∈ bd h, ∀ k ∈ bd h, m ≠ k → m ∈ bd k ∨ k ∈ bd m
section
variable {α : Type} [DecidableEq α] {C : α → Prop} {bd : α → List α}
theorem Tower.lt (T : Tower C bd) {h m : α} (c : C h) (hm : m ∈ bd h) : (bd m).length < (bd h).length := by
  have cm := T.inC h c m hm
  have h1 : (m :: bd m).length ≤ (bd h).length := length_le_of_nodup (List.nodup_cons.mpr ⟨T.irr m cm, T.nd m cm⟩) fun x hx => by
    rcases List.mem_cons.mp hx with rfl | hx
    · exact hm
    · exact T.sub h c m hm x hx
  rw [List.length_cons] at h1; omega
theorem Tower.inj (T : Tower C bd) {h m k : α} (c : C h) (hm : m ∈ bd h) (hk : k ∈ bd h) (e : (bd m).length = (bd k).length) : m = k := by
  by_cases ne : m = k
  · exact ne
  · rcases T.lin h c m hm k hk ne with z | z
    · have := T.lt (T.inC h c k hk) z; omega
    · have := T.lt (T.inC h c m hm) z; omega
theorem Tower.rank (T : Tower C bd) {h : α} (c : C h) {t : Nat} (ht : t < (bd h).length) : ∃ m ∈ bd h, (bd m).length = t := by
  have h1 : ((bd h).map fun m => (bd m).length).Nodup := by
    have key : ∀ l : List α, l.Nodup → (∀ m ∈ l, m ∈ bd h) → (l.map fun m => (bd m).length).Nodup := by
      intro l
      induction l with
      | nil => intro _ _; simp
      | cons a l ih =>
        intro n s
        rw [List.nodup_cons] at n
        rw [List.map_cons, List.nodup_cons]
        refine ⟨fun z => ?_, ih n.2 fun m hm => s m (by simp [hm])⟩
        obtain ⟨b, hb, e⟩ := List.mem_map.mp z
        have := T.inj c (s b (by simp [hb])) (s a (by simp)) e
        subst this
        exact n.1 hb
    exact key _ (T.nd h c) fun _ h => h
  by_cases q : t ∈ (bd h).map fun m => (bd m).length
  · obtain ⟨m, hm, e⟩ := List.mem_map.mp q
    exact ⟨m, hm, e⟩
  · exfalso
    have h2 : (t :: (bd h).map fun m => (bd m).length).length ≤ (List.range (bd h).length).length := length_le_of_nodup (List.nodup_cons.mpr ⟨q, h1⟩) fun x hx => by
      rcases List.mem_cons.mp hx with rfl | hx
      · simpa using ht
      · obtain ⟨m, hm, rfl⟩ := List.mem_map.mp hx
        simpa using T.lt c hm
    simp at h2
    omega
def atRank (bd : α → List α) (h : α) (t : Nat) : List α := (bd h).filter fun m => decide ((bd m).length = t)
theorem filter_one {l : List α} {p : α → Bool} {m : α} (n : l.Nodup) (hm : m ∈ l) (hp : ∀ x ∈ l, p x = true ↔ x = m) : l.filter p = [m] := by
  induction l with
  | nil => cases hm
  | cons a l ih =>
    rw [List.nodup_cons] at n
    rcases List.mem_cons.mp hm with e | hm
    · subst e
      rw [List.filter_cons_of_pos ((hp m (by simp)).mpr rfl)]
      congr 1
      rw [List.filter_eq_nil_iff]
      intro x hx hpx
      have := (hp x (by simp [hx])).mp hpx
      subst this
      exact n.1 hx
    · have ha : ¬ p a = true := fun z => by
        have := (hp a (by simp)).mp z
        subst this
        exact n.1 hm
      rw [List.filter_cons_of_neg ha]
      exact ih n.2 hm fun x hx => hp x (by simp [hx])
theorem Tower.at_one (T : Tower C bd) {h : α} (c : C h) {t : Nat} (ht : t < (bd h).length) : ∃ m, m ∈ bd h ∧ (bd m).length = t ∧ atRank bd h t = [m] := by
  obtain ⟨m, hm, e⟩ := T.rank c ht
  refine ⟨m, hm, e, filter_one (T.nd h c) hm fun x hx => ?_⟩
  simp only [decide_eq_true_eq]
  exact ⟨fun z => T.inj c hx hm (z.trans e.symm), fun z => by rw [z]; exact e⟩
def rowOf (bd : α → List α) (h : α) : List α := (List.range (bd h).length).foldl (fun acc t => atRank bd h t ++ acc) []
theorem rowOf_nil {h : α} (e : bd h = []) : rowOf bd h = [] := by unfold rowOf; rw [e]; rfl
theorem foldl_rank_congr {h k : α} : ∀ (l : List Nat) (acc : List α), (∀ t ∈ l, atRank bd h t = atRank bd k t) → l.foldl (fun acc t => atRank bd h t ++ acc) acc = l.foldl (fun acc t => atRank bd k t ++ acc) acc
  | [], _, _ => rfl
  | t :: l, acc, e => by
    rw [List.foldl_cons, List.foldl_cons, e t (by simp)]
    exact foldl_rank_congr l _ fun t ht => e t (by simp [ht])
theorem Tower.row (T : Tower C bd) {h : α} (c : C h) (ne : bd h ≠ []) : ∃ m, m ∈ bd h ∧ atRank bd h ((bd h).length - 1) = [m] ∧ (bd m).length + 1 = (bd h).length ∧ rowOf bd h = m :: rowOf bd m := by
  have hp : 0 < (bd h).length := List.length_pos_iff.mpr ne
  obtain ⟨m, hm, e, o⟩ := T.at_one c (t := (bd h).length - 1) (by omega)
  refine ⟨m, hm, o, by omega, ?_⟩
  have cm := T.inC h c m hm
  have len : (bd h).length = (bd m).length + 1 := by omega
  unfold rowOf
  rw [len, List.range_succ, List.foldl_append, List.foldl_cons, List.foldl_nil]
  have o' : atRank bd h (bd m).length = [m] := by rw [e]; exact o
  rw [o']
  show m :: _ = m :: _
  congr 1
  refine foldl_rank_congr _ _ fun t ht => ?_
  have ht : t < (bd m).length := by simpa using ht
  obtain ⟨a, ha, ea, oa⟩ := T.at_one c (t := t) (by omega)
  obtain ⟨b, hb, eb, ob⟩ := T.at_one cm ht
  rw [oa, ob, T.inj c ha (T.sub h c m hm b hb) (ea.trans eb.symm)]
theorem Tower.mem_row (T : Tower C bd) : ∀ (n : Nat) {h : α}, (bd h).length = n → C h → ∀ x, x ∈ rowOf bd h ↔ x ∈ bd h
  | 0, h, e, c, x => by
    have e : bd h = [] := List.eq_nil_of_length_eq_zero e
    rw [rowOf_nil e, e]
  | n + 1, h, e, c, x => by
    have ne : bd h ≠ [] := fun z => by rw [z] at e; cases e
    obtain ⟨m, hm, o, l, r⟩ := T.row c ne
    have cm := T.inC h c m hm
    rw [r, List.mem_cons, T.mem_row n (by omega) cm x]
    refine ⟨fun z => z.elim (fun z => z ▸ hm) (T.sub h c m hm x), fun z => ?_⟩
    by_cases q : x = m
    · exact .inl q
    · rcases T.lin h c x z m hm q with w | w
      · exact .inr w
      · exfalso
        have a := T.lt (T.inC h c x z) w
        have b := T.lt c z
        omega
end
end VL
namespace VL
section
variable {α : Type} [DecidableEq α]
noncomputable def homeL (hs : List α) (ls : List (α × α)) (g : α) : List α := hs.filter fun x => comB ls g [] x
noncomputable def bdL (hs : List α) (ls : List (α × α)) (g : α) (h : α) : List α := (homeL hs ls g).filter fun m => decide (h ≠ m) && !comB ls g [m] h
variable {hs : List α} {ls : List (α × α)} {g : α}
theorem mem_homeL {x : α} : x ∈ homeL hs ls g ↔ x ∈ hs ∧ Comes ls g [] x := by
  unfold homeL
  rw [List.mem_filter, comB_eq]
theorem mem_bdL {h m : α} : m ∈ bdL hs ls g h ↔ (m ∈ hs ∧ Comes ls g [] m) ∧ h ≠ m ∧ ¬ Comes ls g [m] h := by
  unfold bdL
  rw [List.mem_filter, mem_homeL]
  simp only [Bool.and_eq_true, decide_eq_true_eq, Bool.not_eq_true', ne_eq]
  rw [← Bool.not_eq_true, comB_eq]
theorem tower (nd : hs.Nodup) : Tower (fun x => x ∈ homeL hs ls g) (bdL hs ls g) where
  nd := fun h c => (nd.filter _).filter _
  inC := fun h c m hm => mem_homeL.mpr (mem_bdL.mp hm).1
  sub := fun h c m hm k hk => by
    obtain ⟨a1, a2, a3⟩ := mem_bdL.mp hm
    obtain ⟨b1, b2, b3⟩ := mem_bdL.mp hk
    refine mem_bdL.mpr ⟨b1, fun e => ?_, must_trans a3 b3⟩
    subst e
    exact must_anti (Ne.symm a2) a1.2 b3 a3
  irr := fun h c z => (mem_bdL.mp z).2.1 rfl
  lin := fun h c m hm k hk ne => by
    obtain ⟨a1, a2, a3⟩ := mem_bdL.mp hm
    obtain ⟨b1, b2, b3⟩ := mem_bdL.mp hk
    rcases must_lin (mem_homeL.mp c).2 a3 b3 with z | z
    · exact .inr (mem_bdL.mpr ⟨b1, ne, z⟩)
    · exact .inl (mem_bdL.mpr ⟨a1, Ne.symm ne, z⟩)
theorem not_comes_self {s : α} (h : s ≠ g) : ¬ Comes ls g [s] s := fun z => by
  rcases comes_gone z with e | e
  · exact h e
  · exact e (by simp)
noncomputable def useB (ls : List (α × α)) (g s e : α) : Bool := comB ls g [s] e
noncomputable def usesL (ls : List (α × α)) (g s : α) : List (α × α) := ls.filter fun p => decide (p.1 = s) && useB ls g s p.2
theorem mem_usesL {s : α} {p : α × α} : p ∈ usesL ls g s ↔ p ∈ ls ∧ p.1 = s ∧ Comes ls g [s] p.2 := by
  unfold usesL useB
  rw [List.mem_filter, Bool.and_eq_true, decide_eq_true_eq, comB_eq]
def without (ls : List (α × α)) (l : α × α) : List (α × α) := ls.filter fun p => decide (p ≠ l)
theorem mem_without {l p : α × α} : p ∈ without ls l ↔ p ∈ ls ∧ p ≠ l := by
  unfold without
  rw [List.mem_filter, decide_eq_true_eq]
end
end VL
namespace VL
open PySem PySem.Spec PyProof.Rows L2 TL
theorem forL_pre {α : Type} {tg : D → Rho → Option Rho} {body : Rho → M Fl} (enc : α → D) (P : List α → Rho → Prop) (l : List α) (ρ : Rho) (h0 : P [] ρ)
    (h : ∀ done a rest ρ, l = done ++ a :: rest → P done ρ → ∃ ρ1 ρ2, tg (enc a) ρ = some ρ1 ∧ body ρ1 = pure (.nx ρ2) ∧ P (done ++ [a]) ρ2) : ∃ ρ', forL tg body (l.map enc) ρ = pure (.nx ρ') ∧ P l ρ' := by
  have key : ∀ (r done : List α) (ρ : Rho), l = done ++ r → P done ρ → ∃ ρ', forL tg body (r.map enc) ρ = pure (.nx ρ') ∧ P l ρ' := by
    intro r
    induction r with
    | nil => intro done ρ e p; exact ⟨ρ, rfl, by rw [e, List.append_nil]; exact p⟩
    | cons a r ih =>
      intro done ρ e p
      obtain ⟨ρ1, ρ2, h1, h2, h3⟩ := h done a r ρ e p
      obtain ⟨ρ', e', p'⟩ := ih (done ++ [a]) ρ2 (by rw [e]; simp) h3
      exact ⟨ρ', by rw [List.map_cons, forL_step h1 h2, e'], p'⟩
  exact key l [] ρ rfl h0
theorem LoreOk.hnd {L : Lore} (h : LoreOk L) : L.hs.Nodup := (List.nodup_cons.mp h.nd).2
theorem LoreOk.homeNd {L : Lore} (h : LoreOk L) : (homeOf L).Nodup := h.hnd.filter _
theorem home_len {L : Lore} (h : LoreOk L) : (homeOf L).length ≤ 10 := Nat.le_trans (List.length_filter_le _ _) h.le
theorem home_sub {L : Lore} {x : Str} (h : x ∈ homeOf L) : x ∈ L.hs := (List.mem_filter.mp h).1
noncomputable abbrev bdO (L : Lore) : Str → List Str := bdL L.hs L.ls L.g
noncomputable abbrev rowO (L : Lore) : Str → List Str := rowOf (bdO L)
theorem towerO {L : Lore} (h : LoreOk L) : Tower (fun x => x ∈ homeOf L) (bdO L) := tower h.hnd
end VL
namespace VL
open PySem PySem.Spec PyProof.Rows L2 TL
noncomputable def nearO (L : Lore) (h : Str) : Str := (rowO L h).headD L.g
theorem row_step {L : Lore} (hL : LoreOk L) {h : Str} (hh : h ∈ homeOf L) (ne : bdO L h ≠ []) : nearO L h ∈ bdO L h ∧ atRank (bdO L) h ((bdO L h).length - 1) = [nearO L h] ∧ (bdO L (nearO L h)).length + 1 = (bdO L h).length ∧ rowO L h = nearO L h :: rowO L (nearO L h) := by
  obtain ⟨m, h1, h2, h3, h4⟩ := (towerO hL).row hh ne
  have e : nearO L h = m := by unfold nearO rowO; rw [h4]; rfl
  rw [e]; exact ⟨h1, h2, h3, h4⟩
theorem row_end {L : Lore} {h : Str} (e : bdO L h = []) : nearO L h = L.g ∧ rowO L h = [] := by
  have r : rowO L h = [] := rowOf_nil e
  exact ⟨by unfold nearO; rw [r]; rfl, r⟩
theorem bd_home {L : Lore} {h m : Str} (hm : m ∈ bdO L h) : m ∈ homeOf L := (List.mem_filter.mp hm).1
theorem gate_out {L : Lore} (hL : LoreOk L) : L.g ∉ homeOf L := fun z => hL.gate_ne _ (home_sub z) rfl
theorem home_ok {L : Lore} (hL : LoreOk L) : ∀ x ∈ homeOf L, OkS x := fun x hx => hL.ok x (by simp [home_sub hx])
theorem near_in {L : Lore} (hL : LoreOk L) {h : Str} (hh : h ∈ homeOf L) : nearO L h ∈ homeOf L ↔ bdO L h ≠ [] := by
  constructor
  · intro z e
    rw [(row_end e).1] at z
    exact gate_out hL z
  · intro ne
    exact bd_home (row_step hL hh ne).1
end VL
namespace VL
open PySem PySem.Spec PyProof.Rows L2 TL
noncomputable def sibO (L : Lore) (s e : Str) : Str := if e = nearO L s then "" else ((e :: rowO L e).find? fun x => decide (nearO L x = nearO L s)).getD ""
theorem comes_own {L : Lore} {s e : Str} (hs : s ∈ homeOf L) (he : e ∈ homeOf L) : ¬ Comes L.ls L.g [s] e ↔ (e = s ∧ s ≠ L.g) ∨ s ∈ bdO L e := by
  obtain ⟨h1, h2⟩ := mem_homeL.mp hs
  constructor
  · intro h
    by_cases q : e = s
    · left
      refine ⟨q, fun z => h ?_⟩
      rw [q, z]; exact .gate
    · exact .inr (mem_bdL.mpr ⟨⟨h1, h2⟩, q, h⟩)
  · rintro (⟨rfl, h⟩ | h)
    · exact not_comes_self h
    · exact (mem_bdL.mp h).2.2
theorem near_self {L : Lore} (hL : LoreOk L) {s : Str} (hs : s ∈ homeOf L) : nearO L s ≠ s := fun z => by
  by_cases e : bdO L s = []
  · rw [(row_end e).1] at z
    exact gate_out hL (z ▸ hs)
  · have := (row_step hL hs e).1
    rw [z] at this
    exact (towerO hL).irr s hs this
theorem near_above {L : Lore} (hL : LoreOk L) {s e : Str} (hs : s ∈ homeOf L) (hl : (s, e) ∈ L.ls) (he : e ∈ homeOf L) (ne : e ≠ nearO L s) : nearO L s = L.g ∨ nearO L s ∈ rowO L e := by
  by_cases z : bdO L s = []
  · exact .inl (row_end z).1
  · right
    have h1 := (row_step hL hs z).1
    obtain ⟨a1, a2, a3⟩ := mem_bdL.mp h1
    refine ((towerO hL).mem_row _ rfl he _).mpr (mem_bdL.mpr ⟨a1, ne, fun c => a3 (.step hl c (by simpa using a2))⟩)
theorem near_gate {L : Lore} (hL : LoreOk L) {s : Str} (hs : s ∈ homeOf L) (hl : (s, L.g) ∈ L.ls) : nearO L s = L.g := by
  by_cases z : bdO L s = []
  · exact (row_end z).1
  · exfalso
    have h1 := (row_step hL hs z).1
    obtain ⟨a1, a2, a3⟩ := mem_bdL.mp h1
    exact a3 (.step hl .gate (by simpa using a2))
structure SibAt (L : Lore) (s e p : Str) : Prop where
  home : p ∈ homeOf L
  same : ((e :: rowO L e).find? fun x => decide (nearO L x = nearO L s)) = ((p :: rowO L p).find? fun x => decide (nearO L x = nearO L s))
  own : s ∈ e :: rowO L e ↔ s ∈ p :: rowO L p
  up : nearO L s = L.g ∨ nearO L s ∈ rowO L p
theorem SibAt.step {L : Lore} (hL : LoreOk L) {s e p : Str} (I : SibAt L s e p) (n1 : nearO L p ≠ nearO L s) (n2 : p ≠ s) : SibAt L s e (nearO L p) ∧ (bdO L (nearO L p)).length < (bdO L p).length := by
  have ne : bdO L p ≠ [] := fun z => by
    obtain ⟨z1, z2⟩ := row_end z
    rcases I.up with h | h
    · exact n1 (z1.trans h.symm)
    · rw [z2] at h; cases h
  obtain ⟨r1, r2, r3, r4⟩ := row_step hL I.home ne
  refine ⟨⟨bd_home r1, ?_, ?_, ?_⟩, by omega⟩
  · rw [I.same, r4, List.find?_cons_of_neg (by simpa using n1)]
  · rw [I.own, r4, List.mem_cons]
    exact ⟨fun z => z.resolve_left (Ne.symm n2), .inr⟩
  · rcases I.up with h | h
    · exact .inl h
    · rw [r4] at h
      exact .inr ((List.mem_cons.mp h).resolve_left (Ne.symm n1))
theorem SibAt.done {L : Lore} (hL : LoreOk L) {s e p : Str} (hs : s ∈ homeOf L) (I : SibAt L s e p) (n : nearO L p = nearO L s) : ((e :: rowO L e).find? fun x => decide (nearO L x = nearO L s)) = some p ∧ (p = s ↔ s ∈ e :: rowO L e) := by
  refine ⟨by rw [I.same, List.find?_cons_of_pos (by simpa using n)], ?_⟩
  rw [I.own, List.mem_cons]
  refine ⟨fun z => .inl z.symm, fun z => z.elim Eq.symm fun z => ?_⟩
  exfalso
  have T := towerO hL
  have hb := (T.mem_row _ rfl I.home s).mp z
  have ne : bdO L p ≠ [] := fun w => by rw [w] at hb; cases hb
  obtain ⟨r1, r2, r3, r4⟩ := row_step hL I.home ne
  rw [r4] at z
  rcases List.mem_cons.mp z with z | z
  · rw [n] at z; exact near_self hL hs z.symm
  · have hq := bd_home r1
    have h1 := (T.mem_row _ rfl hq s).mp z
    have l1 := T.lt hq h1
    have ne2 : bdO L s ≠ [] := (near_in hL hs).mp (n ▸ hq)
    have l2 := (row_step hL hs ne2).2.2.1
    rw [← n] at l2
    omega
theorem SibAt.start {L : Lore} (hL : LoreOk L) {s e : Str} (hs : s ∈ homeOf L) (hl : (s, e) ∈ L.ls) (he : e ∈ homeOf L) (ne : e ≠ nearO L s) : SibAt L s e e := ⟨he, rfl, Iff.rfl, near_above hL hs hl he ne⟩
theorem sib_some {L : Lore} (hL : LoreOk L) {s e : Str} (hs : s ∈ homeOf L) : ∀ (n : Nat) (p : Str), (bdO L p).length = n → SibAt L s e p → ∃ q, SibAt L s e q ∧ nearO L q = nearO L s := by
  intro n
  induction n using Nat.strongRecOn with
  | _ n ih =>
    intro p hp I
    by_cases z : nearO L p = nearO L s
    · exact ⟨p, I, z⟩
    · by_cases w : p = s
      · exact absurd (by rw [w]) z
      · obtain ⟨I', l⟩ := I.step hL z w
        exact ih _ (by omega) _ rfl I'
theorem pool_empty : ("" : Str) ∉ pool := by decide +kernel
theorem sib_own {L : Lore} (hL : LoreOk L) {s e : Str} (hs : s ∈ homeOf L) (hl : (s, e) ∈ L.ls) (he : e = L.g ∨ e ∈ homeOf L) : OkS (sibO L s e) ∧ (sibO L s e ≠ s ↔ Comes L.ls L.g [s] e) := by
  have sp : s ≠ "" := fun z => pool_empty (z ▸ hL.pl s (by simp [home_sub hs]))
  have sg : s ≠ L.g := hL.gate_ne s (home_sub hs)
  have T := towerO hL
  unfold sibO
  by_cases q : e = nearO L s
  · rw [if_pos q]
    refine ⟨by unfold OkS; decide +kernel, ⟨fun _ => ?_, fun _ => Ne.symm sp⟩⟩
    rcases he with rfl | he
    · exact .gate
    · by_cases c : Comes L.ls L.g [s] e
      · exact c
      · exfalso
        rcases (comes_own hs he).mp c with ⟨z, _⟩ | z
        · exact near_self hL hs (q.symm.trans z)
        · have ne2 : bdO L s ≠ [] := (near_in hL hs).mp (q ▸ he)
          have l2 := (row_step hL hs ne2).2.2.1
          have l1 := T.lt he z
          rw [← q] at l2
          omega
  · rw [if_neg q]
    have he' : e ∈ homeOf L := he.resolve_left fun z => by
      subst z
      exact q (near_gate hL hs hl).symm
    obtain ⟨p, I, n⟩ := sib_some hL hs _ e rfl (SibAt.start hL hs hl he' q)
    obtain ⟨d1, d2⟩ := I.done hL hs n
    rw [d1]
    refine ⟨home_ok hL _ I.home, ?_⟩
    show p ≠ s ↔ _
    have k : ¬ Comes L.ls L.g [s] e ↔ p = s := by
      rw [d2, comes_own hs he', List.mem_cons, T.mem_row _ rfl he']
      exact ⟨fun z => z.elim (fun z => .inl z.1.symm) .inr, fun z => z.elim (fun z => .inl ⟨z.symm, sg⟩) .inr⟩
    exact ⟨fun z => Classical.byContradiction fun c => z (k.mp c), fun c z => k.mpr z c⟩
end VL
namespace VL
open PySem PySem.Spec PyProof.Rows L2 TL
noncomputable def useP (L : Lore) (done : List Lane) (s : Str) : List Lane := (done.filter fun p => decide (p.1 = s) && useB L.ls L.g s p.2).map fun l => (l.2, sibO L s l.2)
noncomputable abbrev useO (L : Lore) (s : Str) : List Lane := useP L L.ls s
end VL
namespace VL
open PySem PySem.Spec PyProof.Rows L2 TL
theorem okS_app {x y : Str} (hx : OkS x) (hy : OkS y) : OkS (x ++ y) := by
  unfold OkS at *
  show (x.cps ++ y.cps).all _ = true
  rw [Array.all_append, hx, hy]; rfl
theorem okS_join : ∀ (sep : Str) (ts : List Str), OkS sep → (∀ t ∈ ts, OkS t) → OkS (Str.join sep ts)
  | _, [], _, _ => by show OkS Str.empty; unfold OkS; decide +kernel
  | _, [x], _, h => h x (by simp)
  | sep, x :: y :: r, hs, h => okS_app (okS_app (h x (by simp)) hs) (okS_join sep (y :: r) hs fun t ht => h t (by simp [ht]))
mutual
/-- what repr shows well: leaves whose text is fine -/
def fineR : PyData → Bool
  | .none | .bool _ => true
  | .int i => (PyData.shown (.int i)).cps.all (· < 0x110000) && decide ((PyData.shown (.int i)).length ≤ 30) && decide (i.natAbs.log2 < 1920)
  | .str x => (reprText x).cps.all (· < 0x110000) && x.cps.toList.all fun c => decide (c < 16 ^ 8)
  | .list xs | .tuple xs => fineRs xs
  | .dict _ => false
def fineRs : List PyData → Bool
  | [] => true
  | x :: xs => fineR x && fineRs xs
end
mutual
theorem fine_shown : ∀ d : PyData, fineR d = true → OkS d.shown ∧ d.showable = true ∧ d.leavesShort 30 = true
  | .none, _ => ⟨by unfold OkS; decide +kernel, rfl, rfl⟩
  | .bool true, _ => ⟨by unfold OkS; decide +kernel, rfl, rfl⟩
  | .bool false, _ => ⟨by unfold OkS; decide +kernel, rfl, rfl⟩
  | .int i, h => by
    simp only [fineR, Bool.and_eq_true, decide_eq_true_eq] at h
    exact ⟨h.1.1, by simpa [PyData.showable] using h.2, by simpa [PyData.leavesShort] using h.1.2⟩
  | .str x, h => by
    simp only [fineR, Bool.and_eq_true] at h
    refine ⟨?_, rfl, ?_⟩
    · simp only [PyData.shown]; exact h.1
    · simp only [PyData.leavesShort]; exact h.2
  | .list xs, h => by
    obtain ⟨h1, h2, h3⟩ := fine_shownAll xs (by simpa only [fineR] using h)
    refine ⟨?_, by simpa only [PyData.showable] using h2, by simpa only [PyData.leavesShort] using h3⟩
    simp only [PyData.shown]
    rw [listText_eq_join]
    exact okS_app (okS_app (by unfold OkS; decide +kernel) (okS_join _ _ (by unfold OkS; decide +kernel) h1)) (by unfold OkS; decide +kernel)
  | .tuple xs, h => by
    obtain ⟨h1, h2, h3⟩ := fine_shownAll xs (by simpa only [fineR] using h)
    refine ⟨?_, by simpa only [PyData.showable] using h2, by simpa only [PyData.leavesShort] using h3⟩
    simp only [PyData.shown]
    unfold tupleText
    refine okS_app (okS_app (by unfold OkS; decide +kernel) (okS_join _ _ (by unfold OkS; decide +kernel) h1)) ?_
    split <;> (unfold OkS; decide +kernel)
  | .dict _, h => by simp [fineR] at h
theorem fine_shownAll : ∀ xs : List PyData, fineRs xs = true → (∀ t ∈ PyData.shownAll xs, OkS t) ∧ PyData.showableAll xs = true ∧ PyData.leavesShortAll 30 xs = true
  | [], _ => ⟨by simp [PyData.shownAll], rfl, rfl⟩
  | x :: xs, h => by
    simp only [fineRs, Bool.and_eq_true] at h
    obtain ⟨a1, a2, a3⟩ := fine_shown x h.1
    obtain ⟨b1, b2, b3⟩ := fine_shownAll xs h.2
    refine ⟨?_, ?_, ?_⟩
    · simp only [PyData.shownAll, List.mem_cons]
      rintro t (rfl | ht)
      · exact a1
      · exact b1 t ht
    · simp only [PyData.showableAll, a2, b2, Bool.and_self]
    · simp only [PyData.leavesShortAll, a3, b3, Bool.and_self]
end
def Shows (d : D) : Prop := ∃ p, toPy d = some p ∧ fineR p = true ∧ p.depth ≤ 60 ∧ p.weight ≤ 100000
theorem Shows.repr {d : D} (h : Shows d) : ∃ t, OkS t ∧ reprD [d] = some (.str t) := by
  obtain ⟨p, e, f, z1, z2⟩ := h
  obtain ⟨h1, h2, h3⟩ := fine_shown p f
  have h4 := PyData.shown_le 30 (by decide) p h3
  have h5 : p.shown.length ≤ sizeLine := sz_of (by omega)
  refine ⟨p.shown, h1, ?_⟩
  show (match toPy d with | some p => reprOf p | none => none) = _
  rw [e]
  show reprOf p = _
  unfold reprOf
  rw [if_pos ⟨h2, z1, h5⟩]
structure Fine (d : D) (k w : Nat) : Prop where
  ex : ∃ p, toPy d = some p ∧ fineR p = true ∧ p.depth ≤ k ∧ p.weight ≤ w
structure Fines (ds : List D) (k w : Nat) : Prop where
  ex : ∃ ps, toPyL ds = some ps ∧ fineRs ps = true ∧ PyData.depthAll ps ≤ k ∧ PyData.weightAll ps ≤ w
theorem Fine.shows {d : D} {k w : Nat} (h : Fine d k w) (hk : k ≤ 60) (hw : w ≤ 100000) : Shows d := by
  obtain ⟨p, h1, h2, h3, h4⟩ := h.ex
  exact ⟨p, h1, h2, by omega, by omega⟩
theorem Fine.mono {d : D} {k w k' w' : Nat} (h : Fine d k w) (hk : k ≤ k') (hw : w ≤ w') : Fine d k' w' := by
  obtain ⟨p, h1, h2, h3, h4⟩ := h.ex
  exact ⟨p, h1, h2, by omega, by omega⟩
theorem Fines.mono {d : List D} {k w k' w' : Nat} (h : Fines d k w) (hk : k ≤ k') (hw : w ≤ w') : Fines d k' w' := by
  obtain ⟨p, h1, h2, h3, h4⟩ := h.ex
  exact ⟨p, h1, h2, by omega, by omega⟩
theorem Fines.tup {ds : List D} {k w : Nat} (h : Fines ds k w) : Fine (.tup ds) (k + 1) w := by
  obtain ⟨ps, g1, g2, g3, g4⟩ := h.ex
  refine ⟨.tuple ps, by simp only [toPy, g1, Option.map_some], by simpa only [fineR] using g2, by simp only [PyData.depth]; omega, by simpa only [PyData.weight] using g4⟩
theorem Fines.lst {ds : List D} {k w : Nat} (h : Fines ds k w) : Fine (.lst ds) (k + 1) w := by
  obtain ⟨ps, g1, g2, g3, g4⟩ := h.ex
  refine ⟨.list ps, by simp only [toPy, g1, Option.map_some], by simpa only [fineR] using g2, by simp only [PyData.depth]; omega, by simpa only [PyData.weight] using g4⟩
end VL
namespace VL
section
variable {α : Type} [DecidableEq α] {ls : List (α × α)} {g : α}
def IsWay (ls : List (α × α)) (g : α) : List α → Prop
  | [] => False
  | [x] => x = g
  | x :: y :: r => (x, y) ∈ ls ∧ IsWay ls g (y :: r)
theorem IsWay.tail {x y : α} {r : List α} (h : IsWay ls g (x :: y :: r)) : IsWay ls g (y :: r) := h.2
theorem IsWay.suffix : ∀ {a : List α} {x : α} {r : List α}, IsWay ls g (a ++ x :: r) → IsWay ls g (x :: r)
  | [], _, _, h => h
  | [b], _, _, h => h.2
  | b :: c :: a, x, r, h => IsWay.suffix (a := c :: a) h.2
theorem IsWay.comes {k : α} : ∀ {p : List α} {x : α}, IsWay ls g (x :: p) → (∀ y ∈ x :: p, y ≠ k) → Comes ls g [k] x
  | [], x, h, _ => by
    obtain rfl : x = g := h
    exact .gate
  | y :: p, x, h, n => .step h.1 (IsWay.comes h.2 fun z hz => n z (by simp [hz])) (by simpa using n x (by simp))
theorem IsWay.home : ∀ {p : List α} {x : α}, IsWay ls g (x :: p) → Comes ls g [] x
  | [], x, h => by
    obtain rfl : x = g := h
    exact .gate
  | y :: p, x, h => .step h.1 (IsWay.home h.2) (by simp)
theorem IsWay.last : ∀ {p : List α} {x : α}, IsWay ls g (x :: p) → (x :: p).getLast? = some g
  | [], x, h => by
    obtain rfl : x = g := h
    rfl
  | y :: p, x, h => by rw [List.getLast?_cons_cons]; exact IsWay.last h.2
theorem simple_way {gone : List α} {x : α} (h : Comes ls g gone x) : ∃ p, IsWay ls g (x :: p) ∧ (x :: p).Nodup ∧ ∀ y ∈ x :: p, y = g ∨ y ∉ gone := by
  induction h with
  | gate => exact ⟨[], rfl, by simp, by simp⟩
  | step h1 h2 h3 ih =>
    rename_i x y
    obtain ⟨p, w, n, a⟩ := ih
    by_cases q : x ∈ y :: p
    · obtain ⟨b, r, e⟩ := List.append_of_mem q
      refine ⟨r, ?_, ?_, ?_⟩
      · rw [e] at w; exact w.suffix
      · rw [e] at n; exact (List.nodup_append.mp n).2.1
      · intro z hz
        exact a z (by rw [e]; exact List.mem_append_right _ hz)
    · refine ⟨y :: p, ⟨h1, w⟩, List.nodup_cons.mpr ⟨q, n⟩, ?_⟩
      intro z hz
      rcases List.mem_cons.mp hz with rfl | hz
      · exact .inr h3
      · exact a z hz
variable {hs : List α}
end
end VL
namespace VL
section
variable {α : Type} [DecidableEq α] {ls : List (α × α)} {g : α}
def endsOf (ls : List (α × α)) (x : α) : List α := (ls.filter fun p => decide (p.1 = x)).map (·.2)
theorem mem_endsOf {x y : α} : y ∈ endsOf ls x ↔ (x, y) ∈ ls := by
  unfold endsOf
  simp only [List.mem_map, List.mem_filter, decide_eq_true_eq]
  constructor
  · rintro ⟨⟨a, b⟩, ⟨h1, h2⟩, h3⟩
    simp at h2 h3
    subst h2 h3
    exact h1
  · intro h
    exact ⟨(x, y), ⟨h, rfl⟩, rfl⟩
structure PreW (ls : List (α × α)) (g h : α) (w : List α) : Prop where
  hd : ∃ a, w = h :: a
  nd : w.Nodup
  ng : g ∉ w
  go : ∀ y p, w.getLast? = some y → IsWay ls g (y :: p) → IsWay ls g (w ++ p)
theorem PreW.start {h : α} (n : h ≠ g) : PreW ls g h [h] where
  hd := ⟨[], rfl⟩
  nd := by simp
  ng := by simpa using Ne.symm n
  go := fun y p e w => by
    cases e
    exact w
theorem PreW.on {h y z : α} {w : List α} (P : PreW ls g h w) (e : w.getLast? = some y) (l : (y, z) ∈ ls) (n1 : z ≠ g) (n2 : z ∉ w) : PreW ls g h (w ++ [z]) where
  hd := by
    obtain ⟨a, rfl⟩ := P.hd
    exact ⟨a ++ [z], rfl⟩
  nd := by
    rw [List.nodup_append]
    refine ⟨P.nd, by simp, fun a ha b hb => ?_⟩
    simp at hb
    subst hb
    exact fun q => n2 (q ▸ ha)
  ng := by simp [P.ng, Ne.symm n1]
  go := fun y' p e' w' => by
    rw [List.getLast?_concat] at e'
    cases e'
    have := P.go y (z :: p) e ⟨l, w'⟩
    simpa using this
theorem PreW.done {h y : α} {w : List α} (P : PreW ls g h w) (e : w.getLast? = some y) (l : (y, g) ∈ ls) : IsWay ls g (w ++ [g]) ∧ (w ++ [g]).Nodup ∧ ∃ a, w ++ [g] = h :: a := by
  refine ⟨P.go y [g] e ⟨l, rfl⟩, ?_, ?_⟩
  · rw [List.nodup_append]
    refine ⟨P.nd, by simp, fun a ha b hb => ?_⟩
    simp at hb
    subst hb
    exact fun q => P.ng (q ▸ ha)
  · obtain ⟨a, rfl⟩ := P.hd
    exact ⟨a ++ [g], rfl⟩
structure DfsInv (ls : List (α × α)) (g h : α) (found waiting : List (List α)) : Prop where
  sound : ∀ w ∈ found, IsWay ls g w ∧ w.Nodup ∧ ∃ a, w = h :: a
  pre : ∀ w ∈ waiting, PreW ls g h w
  all : ∀ p, IsWay ls g (h :: p) → (h :: p).Nodup → (h :: p) ∈ found ∨ ∃ w ∈ waiting, ∃ r, h :: p = w ++ r ∧ r ≠ []
theorem DfsInv.start {h : α} (n : h ≠ g) : DfsInv ls g h [] [[h]] where
  sound := by simp
  pre := by
    intro w hw
    simp at hw
    subst hw
    exact .start n
  all := fun p w nd => .inr ⟨[h], by simp, p, rfl, fun e => by
    subst e
    exact n w⟩
def stepF (ls : List (α × α)) (g : α) (w : List α) (y : α) : List (List α) := ((endsOf ls y).filter fun e => decide (e = g)).map fun e => w ++ [e]
def stepW (ls : List (α × α)) (g : α) (w : List α) (y : α) : List (List α) := ((endsOf ls y).filter fun e => !decide (e = g) && !decide (e ∈ w)).map fun e => w ++ [e]
theorem IsWay.gate_end (ng : ∀ p ∈ ls, p.1 ≠ g) : ∀ {p : List α}, IsWay ls g (g :: p) → p = []
  | [], _ => rfl
  | y :: p, h => absurd rfl (ng _ h.1)
theorem DfsInv.step {h y : α} {found rest : List (List α)} {w : List α} (ng : ∀ p ∈ ls, p.1 ≠ g) (I : DfsInv ls g h found (rest ++ [w])) (e : w.getLast? = some y) : DfsInv ls g h (found ++ stepF ls g w y) (rest ++ stepW ls g w y) where
  sound := fun v hv => by
    rcases List.mem_append.mp hv with hv | hv
    · exact I.sound v hv
    · unfold stepF at hv
      simp only [List.mem_map, List.mem_filter, decide_eq_true_eq] at hv
      obtain ⟨z, ⟨h1, rfl⟩, rfl⟩ := hv
      exact (I.pre w (by simp)).done e (mem_endsOf.mp h1)
  pre := fun v hv => by
    rcases List.mem_append.mp hv with hv | hv
    · exact I.pre v (by simp [hv])
    · unfold stepW at hv
      simp only [List.mem_map, List.mem_filter, Bool.and_eq_true, Bool.not_eq_true', decide_eq_false_iff_not] at hv
      obtain ⟨z, ⟨h1, h2, h3⟩, rfl⟩ := hv
      exact (I.pre w (by simp)).on e (mem_endsOf.mp h1) h2 h3
  all := fun p hp nd => by
    rcases I.all p hp nd with z | ⟨v, hv, r, er, nr⟩
    · exact .inl (List.mem_append_left _ z)
    · rcases List.mem_append.mp hv with hv | hv
      · exact .inr ⟨v, List.mem_append_left _ hv, r, er, nr⟩
      · have hv : v = w := by simpa using hv
        subst hv
        obtain ⟨z, r', rfl⟩ := List.exists_cons_of_ne_nil nr
        obtain ⟨b, eb⟩ : ∃ b, v = b ++ [y] := by
          have := List.getLast?_eq_some_iff.mp e
          exact this
        have hp2 : IsWay ls g (y :: z :: r') := by
          rw [er, eb] at hp
          have : b ++ [y] ++ z :: r' = b ++ y :: (z :: r') := by simp
          rw [this] at hp
          exact hp.suffix
        have hl : z ∈ endsOf ls y := mem_endsOf.mpr hp2.1
        by_cases q : z = g
        · subst q
          have er' : r' = [] := hp2.2.gate_end ng
          subst er'
          refine .inl (List.mem_append_right _ ?_)
          unfold stepF
          rw [er]
          exact List.mem_map.mpr ⟨z, List.mem_filter.mpr ⟨hl, by simp⟩, rfl⟩
        · have nz : z ∉ v := fun hz => by
            rw [er, List.nodup_append] at nd
            exact nd.2.2 z hz z (by simp) rfl
          refine .inr ⟨v ++ [z], List.mem_append_right _ (List.mem_map.mpr ⟨z, List.mem_filter.mpr ⟨hl, by simp [q, nz]⟩, rfl⟩), r', by rw [er]; simp, fun e0 => ?_⟩
          subst e0
          exact q hp2.2
theorem DfsInv.done {h : α} {found : List (List α)} (I : DfsInv ls g h found []) (w : List α) : w ∈ found ↔ IsWay ls g w ∧ w.Nodup ∧ ∃ a, w = h :: a := by
  refine ⟨I.sound w, ?_⟩
  rintro ⟨h1, h2, a, rfl⟩
  exact (I.all a h1 h2).resolve_right (by simp)
end
end VL
namespace VL
open PySem PySem.Spec PyProof.Rows L2 TL
def Nx (m : M Fl) (P : Rho → Prop) : Prop := ∃ ρ', m = pure (.nx ρ') ∧ P ρ'
section
variable {f g : Rho → M Fl} {ρ : Rho} {P Q : Rho → Prop}
theorem nx_of {m : M Fl} {ρ' : Rho} (h : m = pure (.nx ρ')) (p : P ρ') : Nx m P := ⟨ρ', h, p⟩
theorem Nx.imp {m : M Fl} (h : Nx m P) (k : ∀ ρ', P ρ' → Q ρ') : Nx m Q := let ⟨ρ', e, p⟩ := h; ⟨ρ', e, k _ p⟩
theorem nx_seq (h : Nx (f ρ) P) (k : ∀ ρ', P ρ' → Nx (g ρ') Q) : Nx (seqS f g ρ) Q := by
  obtain ⟨ρ1, e1, p1⟩ := h
  obtain ⟨ρ2, e2, p2⟩ := k ρ1 p1
  exact ⟨ρ2, by rw [seqS_pure e1, e2], p2⟩
theorem nx_go {ρ1 : Rho} (h : f ρ = pure (.nx ρ1)) (k : Nx (g ρ1) Q) : Nx (seqS f g ρ) Q := nx_seq (nx_of (P := fun r => r = ρ1) h rfl) fun ρ' e => by rw [e]; exact k
theorem nx_for {α : Type} {fi : Rho → M (List D)} {tg : D → Rho → Option Rho} {body : Rho → M Fl} (enc : α → D) (P : List α → Rho → Prop) (l : List α) (hi : fi ρ = pure (l.map enc)) (h0 : P [] ρ)
    (h : ∀ done a rest ρ, l = done ++ a :: rest → P done ρ → ∃ ρ1, tg (enc a) ρ = some ρ1 ∧ Nx (body ρ1) (P (done ++ [a]))) : Nx (forS fi tg body ρ) (P l) := by
  obtain ⟨ρ', e, p⟩ := forL_pre (tg := tg) (body := body) enc P l ρ h0 fun done a rest ρ2 e p => by
    obtain ⟨ρ1, e1, ρ3, e2, p2⟩ := h done a rest ρ2 e p
    exact ⟨ρ1, ρ3, e1, e2, p2⟩
  exact ⟨ρ', forS_pure hi e, p⟩
theorem nx_ifF {t : Rho → M Bool} (h : t ρ = pure false) (k : Nx (g ρ) Q) : Nx (ifS t f g ρ) Q := by
  obtain ⟨ρ1, e1, p1⟩ := k
  exact ⟨ρ1, ifS_f h rfl e1, p1⟩
theorem nx_skip (p : P ρ) : Nx (skip ρ) P := ⟨ρ, rfl, p⟩
end
end VL
namespace VL
section
variable {α : Type} [DecidableEq α]
structure Flat (S : List α) (E : List (α × α)) (g : α) : Prop where
  nd : S.Nodup
  gS : g ∉ S
  eN : E.Nodup
  st : ∀ p ∈ E, p.1 ∈ S
  en : ∀ p ∈ E, p.2 = g ∨ p.2 ∈ S
  ne : ∀ p ∈ E, p.1 ≠ p.2
  home : ∀ v ∈ S, Comes E g [] v
  ok : ∀ v ∈ S, ∀ u, u ≠ v → u ≠ g → Comes E g [u] v
def Rowed (S : List α) (E : List (α × α)) (g : α) (pos : α → Int) : Prop :=
  (∀ x ∈ S, ∀ y ∈ S, pos x = pos y → x = y) ∧ ∀ v ∈ S, (v, g) ∉ E → (∃ a ∈ S, (v, a) ∈ E ∧ pos a < pos v) ∧ ∃ b ∈ S, (v, b) ∈ E ∧ pos v < pos b
theorem comes_last {E : List (α × α)} {g v : α} {gone : List α} {x : α} (h : Comes E g gone x) : Comes E g (v :: gone) x ∨ ∃ w, (v, w) ∈ E ∧ Comes E g (v :: gone) w := by
  induction h with
  | gate => exact .inl .gate
  | step h1 h2 h3 ih =>
    rename_i s e
    rcases ih with ih | ih
    · by_cases q : s = v
      · subst q; exact .inr ⟨e, h1, ih⟩
      · exact .inl (.step h1 ih (by simp [q, h3]))
    · exact .inr ih
theorem comes_on {E : List (α × α)} {g v : α} {gone : List α} (hv : v ≠ g) (h : Comes E g gone v) : ∃ w, (v, w) ∈ E ∧ Comes E g (v :: gone) w := by
  rcases comes_last (v := v) h with q | q
  · rcases comes_gone q with z | z
    · exact absurd z hv
    · simp at z
  · exact q
theorem comes_del {E : List (α × α)} {g v w : α} {gone : List α} {x : α} (hv : Comes (without E (v, w)) g gone v) (h : Comes E g gone x) : Comes (without E (v, w)) g gone x := by
  induction h with
  | gate => exact .gate
  | step h1 h2 h3 ih =>
    rename_i s e
    by_cases q : (s, e) = (v, w)
    · cases q; exact hv
    · exact .step (mem_without.mpr ⟨h1, q⟩) ih h3
theorem comes_del_gone {E : List (α × α)} {g v w : α} {gone : List α} {x : α} (hv : v ∈ gone) (h : Comes E g gone x) : Comes (without E (v, w)) g gone x := by
  induction h with
  | gate => exact .gate
  | step h1 h2 h3 ih =>
    rename_i s e
    exact .step (mem_without.mpr ⟨h1, fun q => by cases q; exact h3 hv⟩) ih h3
theorem Flat.del {S : List α} {E : List (α × α)} {g v w : α} (F : Flat S E g) (h : ∀ u, u ≠ v → u ≠ g → Comes (without E (v, w)) g [u] v) (h0 : Comes (without E (v, w)) g [] v) : Flat S (without E (v, w)) g where
  nd := F.nd
  gS := F.gS
  eN := F.eN.filter _
  st := fun p hp => F.st p (mem_without.mp hp).1
  en := fun p hp => F.en p (mem_without.mp hp).1
  ne := fun p hp => F.ne p (mem_without.mp hp).1
  home := fun x hx => comes_del h0 (F.home x hx)
  ok := fun x hx u hu hg => by
    by_cases q : u = v
    · subst q; exact comes_del_gone (by simp) (F.ok x hx u hu hg)
    · exact comes_del (h u q hg) (F.ok x hx u hu hg)
theorem Rowed.more {S : List α} {E E' : List (α × α)} {g : α} {pos : α → Int} (R : Rowed S E' g pos) (h : ∀ p ∈ E', p ∈ E) (hg : ∀ v, (v, g) ∈ E' → (v, g) ∈ E) : Rowed S E g pos := by
  refine ⟨R.1, fun v hv n => ?_⟩
  obtain ⟨⟨a, a1, a2, a3⟩, b, b1, b2, b3⟩ := R.2 v hv fun z => n (hg v z)
  exact ⟨⟨a, a1, h _ a2, a3⟩, b, b1, h _ b2, b3⟩
theorem Flat.other {S : List α} {E : List (α × α)} {g v x : α} (F : Flat S E g) (hv : v ∈ S) (n : x ≠ v) (xg : x ≠ g) : ∃ z, (v, z) ∈ E ∧ z ≠ x := by
  have vg : v ≠ g := fun z => F.gS (z ▸ hv)
  obtain ⟨b, hb, c⟩ := comes_on vg (F.ok v hv x n xg)
  refine ⟨b, hb, fun z => ?_⟩
  rcases comes_gone c with q | q
  · exact xg (z ▸ q)
  · simp [z] at q
end
end VL
namespace VL
open PySem PySem.Spec PyProof.Rows L2 TL
noncomputable def sidesO (L : Lore) (h : Str) : List Str := (useO L h).map (·.2)
noncomputable def sibsAt (L : Lore) (p : Str) : List Str := (homeOf L).filter fun h => decide (nearO L h = p)
noncomputable def sideE (L : Lore) (p : Str) : List (Str × Str) := nubOn [] ((sibsAt L p).flatMap fun h => (sidesO L h).map fun t => (h, t))
theorem mem_sibsAt {L : Lore} {p h : Str} : h ∈ sibsAt L p ↔ h ∈ homeOf L ∧ nearO L h = p := by simp [sibsAt]
theorem mem_sideE {L : Lore} {p : Str} {q : Str × Str} : q ∈ sideE L p ↔ q.1 ∈ sibsAt L p ∧ q.2 ∈ sidesO L q.1 := by
  unfold sideE
  rw [mem_nubOn]
  simp only [List.not_mem_nil, false_or, List.mem_flatMap, List.mem_map]
  constructor
  · rintro ⟨h, hh, t, ht, rfl⟩; exact ⟨hh, ht⟩
  · rintro ⟨h1, h2⟩; exact ⟨q.1, h1, q.2, h2, rfl⟩
theorem mem_useO {L : Lore} {s : Str} {q : Lane} : q ∈ useO L s ↔ (s, q.1) ∈ L.ls ∧ Comes L.ls L.g [s] q.1 ∧ q.2 = sibO L s q.1 := by
  have e : useO L s = (usesL L.ls L.g s).map fun l => (l.2, sibO L s l.2) := rfl
  rw [e, List.mem_map]
  constructor
  · rintro ⟨⟨a, b⟩, hl, rfl⟩
    obtain ⟨l1, l2, l3⟩ := mem_usesL.mp hl
    have l2 : a = s := l2
    subst l2
    exact ⟨l1, l3, rfl⟩
  · rintro ⟨h1, h2, h3⟩
    exact ⟨(s, q.1), mem_usesL.mpr ⟨h1, rfl, h2⟩, by rw [← h3]⟩
theorem end_place {L : Lore} (hL : LoreOk L) {s e : Str} {gone : List Str} (hl : (s, e) ∈ L.ls) (hc : Comes L.ls L.g gone e) : e = L.g ∨ e ∈ homeOf L := by
  by_cases q : e = L.g
  · exact .inl q
  · exact .inr (mem_homeL.mpr ⟨(List.mem_cons.mp (hL.ends _ hl).2.1).resolve_left q, hc.mono (fun _ h => h) (by simp)⟩)
theorem home_ne {L : Lore} (hL : LoreOk L) {s : Str} (hs : s ∈ homeOf L) : s ≠ "" := fun z => pool_empty (z ▸ hL.pl s (by simp [home_sub hs]))
theorem sib_kind {L : Lore} (hL : LoreOk L) {s e : Str} (hs : s ∈ homeOf L) (hl : (s, e) ∈ L.ls) (he : e = L.g ∨ e ∈ homeOf L) : (e = nearO L s ∧ sibO L s e = "") ∨ (e ≠ nearO L s ∧ e ∈ homeOf L ∧ sibO L s e ∈ homeOf L ∧ nearO L (sibO L s e) = nearO L s ∧ sibO L s e ∈ e :: rowO L e) := by
  by_cases q : e = nearO L s
  · exact .inl ⟨q, by unfold sibO; rw [if_pos q]⟩
  · right
    have he' : e ∈ homeOf L := he.resolve_left fun z => by
      subst z
      exact q (near_gate hL hs hl).symm
    obtain ⟨p, I, n⟩ := sib_some hL hs _ e rfl (SibAt.start hL hs hl he' q)
    obtain ⟨d1, d2⟩ := I.done hL hs n
    have es : sibO L s e = p := by unfold sibO; rw [if_neg q, d1]; rfl
    have hm := List.mem_of_find?_eq_some d1
    rw [es]
    exact ⟨q, he', I.home, n, hm⟩
theorem sib_free {L : Lore} (hL : LoreOk L) {u v : Str} (hu : u ∈ homeOf L) (hv : v ∈ homeOf L) (e : nearO L u = nearO L v) : u ∉ bdO L v := by
  intro hb
  have T := towerO hL
  have nv : bdO L v ≠ [] := fun z => by rw [z] at hb; cases hb
  obtain ⟨r1, r2, r3, r4⟩ := row_step hL hv nv
  have hm : u ∈ rowO L v := (T.mem_row _ rfl hv u).mpr hb
  rw [r4] at hm
  have hp := bd_home r1
  rcases List.mem_cons.mp hm with z | z
  · rw [← z] at e
    exact near_self hL hu e
  · have h1 := (T.mem_row _ rfl hp u).mp z
    have l1 := T.lt hp h1
    have nu : bdO L u ≠ [] := (near_in hL hu).mp (e ▸ hp)
    have l2 := (row_step hL hu nu).2.2.1
    rw [e] at l2
    omega
theorem free_comes {L : Lore} (hL : LoreOk L) {u v : Str} (hu : u ∈ homeOf L) (hv : v ∈ homeOf L) (e : nearO L u = nearO L v) (ne : u ≠ v) : Comes L.ls L.g [u] v :=
  Classical.byContradiction fun c => sib_free hL hu hv e (mem_bdL.mpr ⟨mem_homeL.mp hu, Ne.symm ne, c⟩)
theorem sides_comes {L : Lore} (hL : LoreOk L) {p : Str} {gone : List Str} {x : Str} (h : Comes L.ls L.g gone x) : ∀ t ∈ sibsAt L p, x ∈ homeOf L → t ∈ x :: rowO L x → Comes (sideE L p) "" gone t := by
  have T := towerO hL
  induction h with
  | gate => exact fun t _ hx => absurd hx (gate_out hL)
  | step h1 h2 h3 ih =>
    rename_i x y
    intro t ht hx hm
    obtain ⟨th, tp⟩ := mem_sibsAt.mp ht
    have hy := end_place hL h1 h2
    by_cases e : x = t
    · subst e
      by_cases c : Comes L.ls L.g [x] y
      · have hu : (y, sibO L x y) ∈ useO L x := mem_useO.mpr ⟨h1, c, rfl⟩
        have ed : (x, sibO L x y) ∈ sideE L p := mem_sideE.mpr ⟨ht, List.mem_map.mpr ⟨_, hu, rfl⟩⟩
        rcases sib_kind hL hx h1 hy with ⟨_, k⟩ | ⟨_, k1, k2, k3, k4⟩
        · rw [k] at ed
          exact .step ed .gate h3
        · exact .step ed (ih _ (mem_sibsAt.mpr ⟨k2, k3.trans tp⟩) k1 k4) h3
      · have hyh : y ∈ homeOf L := hy.resolve_left fun z => c (z ▸ .gate)
        rcases (comes_own hx hyh).mp c with ⟨z, _⟩ | z
        · exact absurd z (Ne.symm (hL.ends _ h1).2.2)
        · exact ih _ ht hyh (List.mem_cons_of_mem _ ((T.mem_row _ rfl hyh _).mpr z))
    · have tb := (T.mem_row _ rfl hx t).mp ((List.mem_cons.mp hm).resolve_left (Ne.symm e))
      have nc := (mem_bdL.mp tb).2.2
      have c : ¬ Comes L.ls L.g [t] y := fun z => nc (.step h1 z (by simpa using e))
      have hyh : y ∈ homeOf L := hy.resolve_left fun z => c (z ▸ .gate)
      rcases (comes_own th hyh).mp c with ⟨z, _⟩ | z
      · subst z
        exact ih _ ht hyh (by simp)
      · exact ih _ ht hyh (List.mem_cons_of_mem _ ((T.mem_row _ rfl hyh _).mpr z))
theorem flat_group {L : Lore} (hL : LoreOk L) (p : Str) : Flat (sibsAt L p) (sideE L p) "" := by
  have ends : ∀ q ∈ sideE L p, q.1 ∈ sibsAt L p ∧ (q.2 = "" ∨ q.2 ∈ sibsAt L p) ∧ q.1 ≠ q.2 := by
    intro q hq
    obtain ⟨h1, h2⟩ := mem_sideE.mp hq
    obtain ⟨hh, hp⟩ := mem_sibsAt.mp h1
    obtain ⟨r, hr, e⟩ := List.mem_map.mp h2
    obtain ⟨u1, u2, u3⟩ := mem_useO.mp hr
    have he := end_place hL u1 u2
    rw [u3] at e
    refine ⟨h1, ?_, ?_⟩
    · rw [← e]
      rcases sib_kind hL hh u1 he with ⟨_, k⟩ | ⟨_, k1, k2, k3, k4⟩
      · exact .inl k
      · exact .inr (mem_sibsAt.mpr ⟨k2, k3.trans hp⟩)
    · rw [← e]
      exact Ne.symm ((sib_own hL hh u1 he).2.mpr u2)
  refine ⟨hL.homeNd.filter _, fun z => home_ne hL (mem_sibsAt.mp z).1 rfl, nodup_nubOn (by simp), fun q hq => (ends q hq).1, fun q hq => (ends q hq).2.1, fun q hq => (ends q hq).2.2, fun v hv => ?_, fun v hv u hu ug => ?_⟩
  · have hh := (mem_sibsAt.mp hv).1
    exact sides_comes hL (mem_homeL.mp hh).2 v hv hh (by simp)
  · have hh := (mem_sibsAt.mp hv).1
    by_cases hus : u ∈ sibsAt L p
    · exact sides_comes hL (free_comes hL (mem_sibsAt.mp hus).1 hh ((mem_sibsAt.mp hus).2.trans (mem_sibsAt.mp hv).2.symm) hu) v hv hh (by simp)
    · have k := sides_comes hL (p := p) (mem_homeL.mp hh).2 v hv hh (by simp)
      have : ∀ x, Comes (sideE L p) "" [] x → Comes (sideE L p) "" [u] x := by
        intro x h
        induction h with
        | gate => exact .gate
        | step h1 h2 h3 ih => exact .step h1 ih (by simp only [List.mem_singleton]; exact fun z => hus (z ▸ (ends _ h1).1))
      exact this v k
end VL
namespace VL
section
variable {α : Type} [DecidableEq α] {ls : List (α × α)} {g h o : α}
structure Grow (ls : List (α × α)) (h o : α) (W : List α) (at_ : Nat) (done : List (α × α)) : Prop where
  nd : W.Nodup
  hd : ∃ r, W = h :: r
  no : o ∉ W
  fr : ∀ x ∈ W, x = h ∨ ∃ s, (s, x) ∈ ls
  cl : ∀ i x, i < at_ → W[i]? = some x → ∀ e, (x, e) ∈ ls → e ≠ o → e ∈ W
  cd : ∀ x, W[at_]? = some x → ∀ e, (x, e) ∈ done → e ≠ o → e ∈ W
  sd : ∀ g, ∀ x ∈ W, Comes ls g [o] x → Comes ls g [o] h
theorem Grow.start (n : o ≠ h) : Grow ls h o [h] 0 [] where
  nd := by simp
  hd := ⟨[], rfl⟩
  no := by simpa using n
  fr := fun x hx => .inl (by simpa using hx)
  cl := fun i x hi => by omega
  cd := fun x _ e he => by simp at he
  sd := fun g x hx c => by simp at hx; rw [hx] at c; exact c
def growOn (W : List α) (x o : α) (p : α × α) : List α := if p.1 = x ∧ p.2 ∉ W ∧ p.2 ≠ o then W ++ [p.2] else W
theorem get_grow' {W : List α} {x o : α} {p : α × α} {i : Nat} {y : α} (h : (growOn W x o p)[i]? = some y) (hi : i < W.length) : W[i]? = some y := by
  unfold growOn at h
  split at h
  · rw [List.getElem?_append_left hi] at h; exact h
  · exact h
theorem sub_grow {W : List α} {x o : α} {p : α × α} {y : α} (h : y ∈ W) : y ∈ growOn W x o p := by
  unfold growOn
  split
  · simp [h]
  · exact h
theorem Grow.turn {W : List α} {at_ : Nat} {done : List (α × α)} {x : α} {p : α × α} (G : Grow ls h o W at_ done) (hx : W[at_]? = some x) (hp : p ∈ ls) : Grow ls h o (growOn W x o p) at_ (done ++ [p]) := by
  have hlt := (List.getElem?_eq_some_iff.mp hx).1
  refine ⟨?_, ?_, ?_, ?_, ?_, ?_, ?_⟩
  · unfold growOn
    split
    · rename_i c
      rw [List.nodup_append]
      exact ⟨G.nd, by simp, fun a ha b hb e => by simp at hb; subst hb; subst e; exact c.2.1 ha⟩
    · exact G.nd
  · obtain ⟨r, e⟩ := G.hd
    unfold growOn
    split
    · exact ⟨r ++ [p.2], by rw [e]; rfl⟩
    · exact ⟨r, e⟩
  · unfold growOn
    split
    · rename_i c
      simp only [List.mem_append, List.mem_singleton, not_or]
      exact ⟨G.no, Ne.symm c.2.2⟩
    · exact G.no
  · intro y hy
    unfold growOn at hy
    split at hy
    · rename_i c
      rcases List.mem_append.mp hy with hy | hy
      · exact G.fr y hy
      · simp at hy
        exact .inr ⟨p.1, by rw [hy]; exact hp⟩
    · exact G.fr y hy
  · intro i y hi hy e he ne
    exact sub_grow (G.cl i y hi (get_grow' hy (by omega)) e he ne)
  · intro y hy e he ne
    have hy' := get_grow' hy hlt
    rcases List.mem_append.mp he with he | he
    · exact sub_grow (G.cd y hy' e he ne)
    · simp at he
      subst he
      have : y = x := by rw [hx] at hy'; exact (Option.some.inj hy').symm
      subst this
      unfold growOn
      by_cases q : e ∈ W
      · rw [if_neg (by simp [q])]; exact q
      · rw [if_pos ⟨rfl, q, ne⟩]; simp
  · intro g y hy c
    unfold growOn at hy
    split at hy
    · rename_i q
      rcases List.mem_append.mp hy with hy | hy
      · exact G.sd g y hy c
      · simp at hy
        have xW := List.mem_of_getElem? hx
        refine G.sd g x xW (.step (show (x, y) ∈ ls by rw [hy, ← q.1]; exact hp) c ?_)
        simp only [List.mem_singleton]
        exact fun z => G.no (z ▸ xW)
    · exact G.sd g y hy c
theorem Grow.next {W : List α} {at_ : Nat} (G : Grow ls h o W at_ ls) : Grow ls h o W (at_ + 1) [] where
  nd := G.nd
  hd := G.hd
  no := G.no
  fr := G.fr
  cl := fun i x hi hx e he ne => by
    by_cases q : i = at_
    · subst q; exact G.cd x hx e he ne
    · exact G.cl i x (by omega) hx e he ne
  cd := fun x _ e he => by simp at he
  sd := G.sd
theorem Grow.closed {W : List α} {at_ : Nat} {done : List (α × α)} (G : Grow ls h o W at_ done) (hl : W.length ≤ at_) : ∀ x ∈ W, ∀ e, (x, e) ∈ ls → e ≠ o → e ∈ W := by
  intro x hx e he ne
  obtain ⟨i, hi, rfl⟩ := List.mem_iff_getElem.mp hx
  exact G.cl i _ (by omega) (List.getElem?_eq_getElem hi) e he ne
theorem closed_gate {W : List α} (c : ∀ x ∈ W, ∀ e, (x, e) ∈ ls → e ≠ o → e ∈ W) (og : o ≠ g) {x : α} (h : Comes ls g [o] x) : x ∈ W → g ∈ W := by
  induction h with
  | gate => exact id
  | step h1 h2 h3 ih =>
    rename_i x y
    intro hx
    refine ih (c x hx y h1 ?_)
    rcases comes_gone h2 with q | q
    · rw [q]; exact Ne.symm og
    · simpa using q
theorem Grow.len {W : List α} {at_ : Nat} {done : List (α × α)} {hs : List α} (G : Grow ls h o W at_ done) (hh : h ∈ hs) (hl : ∀ p ∈ ls, p.2 ∈ hs) : W.length ≤ hs.length ∧ ∀ x ∈ W, x ∈ hs := by
  have : ∀ x ∈ W, x ∈ hs := fun x hx => by
    rcases G.fr x hx with rfl | ⟨s, e⟩
    · exact hh
    · exact hl _ e
  exact ⟨length_le_of_nodup G.nd this, this⟩
def Parents (ls : List (α × α)) (h : α) (W : List α) (par : α → α) : Prop := ∀ (i : Nat) (x : α), W[i]? = some x → x ≠ h → ∃ j : Nat, j < i ∧ W[j]? = some (par x) ∧ (par x, x) ∈ ls
def parOn (par : α → α) (x e : α) : α → α := fun y => if y = e then x else par y
theorem Parents.put {W : List α} {par : α → α} {x e : α} {at_ : Nat} (P : Parents ls h W par) (hx : W[at_]? = some x) (he : e ∉ W) (hl : (x, e) ∈ ls) : Parents ls h (W ++ [e]) (parOn par x e) := by
  have hlt := (List.getElem?_eq_some_iff.mp hx).1
  intro i y hy ny
  by_cases hi : i < W.length
  · rw [List.getElem?_append_left hi] at hy
    have hyW := List.mem_of_getElem? hy
    have ye : y ≠ e := fun z => he (z ▸ hyW)
    obtain ⟨j, h1, h2, h3⟩ := P i y hy ny
    have e1 : parOn par x e y = par y := by unfold parOn; rw [if_neg ye]
    rw [e1]
    exact ⟨j, h1, by rw [List.getElem?_append_left (by omega)]; exact h2, h3⟩
  · rw [List.getElem?_append_right (by omega)] at hy
    have : y = e := by
      have := List.mem_of_getElem? hy
      simpa using this
    subst this
    have e1 : parOn par x y y = x := by unfold parOn; rw [if_pos rfl]
    rw [e1]
    exact ⟨at_, by omega, by rw [List.getElem?_append_left hlt]; exact hx, hl⟩
theorem nodup_ix {W : List α} (nd : W.Nodup) {i j : Nat} {y : α} (hi : W[i]? = some y) (hj : W[j]? = some y) : i = j := by
  obtain ⟨l1, e1⟩ := List.getElem?_eq_some_iff.mp hi
  obtain ⟨l2, e2⟩ := List.getElem?_eq_some_iff.mp hj
  have key := List.pairwise_iff_getElem.mp nd
  rcases Nat.lt_trichotomy i j with z | z | z
  · exact absurd (e1.trans e2.symm) (key i j l1 l2 z)
  · exact z
  · exact absurd (e2.trans e1.symm) (key j i l2 l1 z)
structure Back (ls : List (α × α)) (g h : α) (W : List α) (v : List α) (x : α) : Prop where
  last : v.getLast? = some x
  way : IsWay ls g v.reverse
  nd : v.Nodup
  sub : ∀ y ∈ v, y ∈ W
  idx : ∀ (i : Nat) (y : α), W[i]? = some y → y ∈ v → ∀ j : Nat, W[j]? = some x → j ≤ i
theorem Back.start {W : List α} (hg : g ∈ W) (nd : W.Nodup) : Back ls g h W [g] g where
  last := rfl
  way := rfl
  nd := by simp
  sub := fun y hy => by simp at hy; rw [hy]; exact hg
  idx := fun i y hi hy j hj => by
    simp at hy
    subst hy
    have := nodup_ix nd hi hj
    omega
theorem Back.on {W v : List α} {par : α → α} {x : α} (B : Back ls g h W v x) (P : Parents ls h W par) (nd : W.Nodup) (hx : x ≠ h) : Back ls g h W (v ++ [par x]) (par x) ∧ ∃ i j : Nat, W[i]? = some x ∧ W[j]? = some (par x) ∧ j < i := by
  have inj : ∀ {i j : Nat} {y : α}, W[i]? = some y → W[j]? = some y → i = j := fun hi hj => nodup_ix nd hi hj
  have xv : x ∈ v := List.mem_of_getLast? B.last
  obtain ⟨i, hi⟩ := List.mem_iff_getElem?.mp (B.sub x xv)
  obtain ⟨j, hj, hp, hl⟩ := P i x hi hx
  refine ⟨⟨by simp, ?_, ?_, ?_, ?_⟩, i, j, hi, hp, hj⟩
  · rw [List.reverse_append]
    have hb := B.last
    rcases List.eq_nil_or_concat v with z | ⟨r, y, z⟩
    · rw [z] at xv; cases xv
    · rw [List.concat_eq_append] at z
      subst z
      have : y = x := by simpa using hb
      subst this
      have w := B.way
      rw [List.reverse_append] at w ⊢
      exact ⟨hl, w⟩
  · rw [List.nodup_append]
    refine ⟨B.nd, by simp, fun a ha b hb e => ?_⟩
    simp at hb
    subst hb
    subst e
    have := B.idx j _ hp ha i hi
    omega
  · intro y hy
    rcases List.mem_append.mp hy with hy | hy
    · exact B.sub y hy
    · simp at hy
      rw [hy]; exact List.mem_of_getElem? hp
  · intro k y hk hy l hl'
    have el := inj hl' hp
    rcases List.mem_append.mp hy with hy | hy
    · have := B.idx k y hk hy i hi
      omega
    · simp at hy
      subst hy
      have := inj hk hp
      omega
end
end VL
namespace VL
open PySem PySem.Spec PyProof.Rows L2 TL
theorem lane_place {L : Lore} (hL : LoreOk L) : ∀ p ∈ L.ls, p.2 ∈ L.g :: L.hs := fun p hp => (hL.ends p hp).2.1
structure Reach (L : Lore) (h o : Str) (W : List Str) : Prop where
  nd : W.Nodup
  hd : h ∈ W
  no : o ∉ W
  sub : ∀ x ∈ W, x ∈ L.g :: L.hs
  cl : ∀ x ∈ W, ∀ e, (x, e) ∈ L.ls → e ≠ o → e ∈ W
  sd : ∀ x ∈ W, Comes L.ls L.g [o] x → Comes L.ls L.g [o] h
end VL
namespace VL
open PySem PySem.Spec PyProof.Rows L2 TL
theorem Reach.gate {L : Lore} {h o : Str} {W : List Str} (R : Reach L h o W) (og : o ≠ L.g) (c : Comes L.ls L.g [o] h) : L.g ∈ W := closed_gate R.cl og c R.hd
structure GoodWay (L : Lore) (h o : Str) (w : List Str) : Prop where
  way : IsWay L.ls L.g w
  nd : w.Nodup
  hd : ∃ r, w = h :: r
  no : o ∉ w
theorem GoodWay.comes {L : Lore} {h o : Str} {w : List Str} (G : GoodWay L h o w) : Comes L.ls L.g [o] h := by
  obtain ⟨r, e⟩ := G.hd
  have w := G.way
  rw [e] at w
  exact w.comes fun y hy z => G.no (by rw [e, ← z]; exact hy)
theorem Back.good {L : Lore} {h o : Str} {W v : List Str} (R : Reach L h o W) (B : Back L.ls L.g h W v h) : GoodWay L h o v.reverse where
  way := B.way
  nd := by
    rw [List.Nodup, List.pairwise_reverse]
    exact List.Pairwise.imp (fun z => Ne.symm z) B.nd
  hd := by
    have h1 := B.last
    rcases List.eq_nil_or_concat v with z | ⟨r, y, z⟩
    · rw [z] at h1; cases h1
    · rw [List.concat_eq_append] at z
      subst z
      have : y = h := by simpa using h1
      exact ⟨r.reverse, by simp [this]⟩
  no := fun z => R.no (B.sub _ (List.mem_reverse.mp z))
end VL
namespace VL
open PySem PySem.Spec PyProof.Rows L2 TL
theorem way_mem {ls : List Lane} {g : Str} : ∀ {p : List Str} {x : Str}, IsWay ls g (x :: p) → ∀ y ∈ p, ∃ s, (s, y) ∈ ls
  | [], _, _, y, hy => by cases hy
  | z :: p, x, h, y, hy => by
    rcases List.mem_cons.mp hy with e | hy
    · rw [e]; exact ⟨x, h.1⟩
    · exact way_mem (p := p) h.2 y hy
theorem GoodWay.sub {L : Lore} (hL : LoreOk L) {h o : Str} (hh : h ∈ L.hs) {w : List Str} (G : GoodWay L h o w) : ∀ x ∈ w, x ∈ L.g :: L.hs := by
  obtain ⟨r, rfl⟩ := G.hd
  intro x hx
  rcases List.mem_cons.mp hx with rfl | hx
  · simp [hh]
  · obtain ⟨s, e⟩ := way_mem G.way x hx
    exact lane_place hL _ e
theorem GoodWay.len {L : Lore} (hL : LoreOk L) {h o : Str} (hh : h ∈ L.hs) {w : List Str} (G : GoodWay L h o w) : w.length ≤ 11 := by
  have := length_le_of_nodup G.nd (G.sub hL hh)
  have le := hL.le
  simp at this
  omega
theorem GoodWay.two {L : Lore} (hL : LoreOk L) {h o : Str} (hh : h ∈ L.hs) {w : List Str} (G : GoodWay L h o w) : 2 ≤ w.length := by
  obtain ⟨r, rfl⟩ := G.hd
  cases r with
  | nil => exact absurd (show h = L.g from G.way) (hL.gate_ne h hh)
  | cons y r => simp
theorem GoodWay.last {L : Lore} {h o : Str} {w : List Str} (G : GoodWay L h o w) : w.getLast? = some L.g := by
  obtain ⟨r, rfl⟩ := G.hd
  exact IsWay.last G.way
structure GoodLot (L : Lore) (h o : Str) (B : List Str) : Prop where
  sub : L.hs.filter (fun x => decide (x ∈ B)) = B
  hd : h ∈ B
  no : o ∉ B
  cl : ∀ p ∈ L.ls, p.1 ∈ B → p.2 = o ∨ p.2 ∈ B
theorem GoodLot.mem {L : Lore} {h o : Str} {B : List Str} (G : GoodLot L h o B) : ∀ x ∈ B, x ∈ L.hs := fun x hx => by
  rw [← G.sub] at hx
  exact (List.mem_filter.mp hx).1
end VL
namespace VL
open PySem PySem.Spec PyProof.Rows L2 TL
theorem must_home {L : Lore} {h o : Str} (ho : o ∈ L.hs) (hh : h ∈ homeOf L) (no : o ≠ h) (hL : LoreOk L) : o ∈ rowO L h ↔ ¬ Comes L.ls L.g [o] h := by
  rw [(towerO hL).mem_row _ rfl hh o]
  refine ⟨fun z => (mem_bdL.mp z).2.2, fun nc => mem_bdL.mpr ⟨⟨ho, ?_⟩, Ne.symm no, nc⟩⟩
  refine Classical.byContradiction fun no2 => nc ?_
  have key : ∀ x, Comes L.ls L.g [] x → Comes L.ls L.g [o] x := by
    intro x c
    induction c with
    | gate => exact .gate
    | step h1 h2 h3 ih =>
      refine .step h1 ih ?_
      simp only [List.mem_singleton]
      intro e
      subst e
      exact no2 (.step h1 h2 h3)
  exact key h (mem_homeL.mp hh).2
end VL
namespace VL
open PySem PySem.Spec PyProof.Rows L2 TL
theorem LoreOk.more {L : Lore} (hL : LoreOk L) {p : Lane} (h1 : p.1 ∈ L.hs) (h2 : p.2 ∈ L.g :: L.hs) (h3 : p.1 ≠ p.2) (h4 : p ∉ L.ls) (h5 : L.ls.length < 40) : LoreOk ⟨L.g, L.hs, L.ls ++ [p]⟩ := by
  refine hL.with ?_ ?_ ?_
  · rw [List.nodup_append]
    exact ⟨hL.lnd, by simp, fun a ha b hb e => by simp at hb; subst hb; subst e; exact h4 ha⟩
  · intro q hq
    rcases List.mem_append.mp hq with hq | hq
    · exact hL.ends q hq
    · simp at hq; subst hq; exact ⟨h1, h2, h3⟩
  · simp; omega
end VL
namespace VL
open PySem PySem.Spec PyProof.Rows L2 TL
structure More (L M : Lore) : Prop where
  ma : Mates L M
  sub : ∀ p ∈ L.ls, p ∈ M.ls
theorem More.comes {L M : Lore} (h : More L M) {gone : List Str} {x : Str} (c : Comes L.ls L.g gone x) : Comes M.ls M.g gone x := by
  rw [h.ma.g]
  exact c.mono h.sub fun _ z => z
theorem More.home {L M : Lore} (h : More L M) {x : Str} (c : x ∈ homeOf L) : x ∈ homeOf M := by
  obtain ⟨c1, c2⟩ := mem_homeL.mp c
  exact mem_homeL.mpr ⟨by rw [h.ma.hs]; exact c1, h.comes c2⟩
theorem More.row {L M : Lore} (h : More L M) {x o : Str} (hx : x ∈ homeOf L) (ho : o ∈ rowO M x) : o ∈ rowO L x := by
  have hb := (mem_bdL.mp (((towerO h.ma.m).mem_row _ rfl (h.home hx) o).mp ho))
  have no : o ≠ x := Ne.symm hb.2.1
  have hs : o ∈ L.hs := by rw [← h.ma.hs]; exact hb.1.1
  exact (must_home hs hx no h.ma.l).mpr fun c => hb.2.2 (h.comes c)
theorem way_mono {ls ms : List Lane} {g : Str} (s : ∀ p ∈ ls, p ∈ ms) : ∀ {w : List Str}, IsWay ls g w → IsWay ms g w
  | [], h => h
  | [x], h => h
  | x :: y :: r, h => ⟨s _ h.1, way_mono s (w := y :: r) h.2⟩
theorem More.way {L M : Lore} (h : More L M) {x o : Str} {w : List Str} (G : GoodWay L x o w) : GoodWay M x o w where
  way := by
    rw [h.ma.g]
    exact way_mono h.sub G.way
  nd := G.nd
  hd := G.hd
  no := G.no
end VL
namespace VL
open PySem PySem.Spec PyProof.Rows L2 TL
def CanS (sd : Str → List Str) (row : List Str) (h : Str) : Prop := ("" : Str) ∈ sd h ∨ ((∃ a ∈ sd h, a ∈ row) ∧ ∃ a ∈ sd h, a ∉ row)
theorem CanS.congr {sd : Str → List Str} {row row' : List Str} {h : Str} (e : ∀ x, x ∈ row ↔ x ∈ row') : CanS sd row h ↔ CanS sd row' h := by
  unfold CanS; simp only [e]
end VL
namespace VL
open PySem PySem.Spec PyProof.Rows L2 TL
def less (Q : List Str) (h : Str) : List Str := Q.filter fun x => !decide (x = h)
inductive GoodS (S : List Str) (sd : Str → List Str) : List Str → Prop
  | full : GoodS S sd S
  | less {Q : List Str} {h : Str} : GoodS S sd Q → h ∈ Q → CanS sd (less Q h) h → GoodS S sd (less Q h)
theorem GoodS.sub {S : List Str} {sd : Str → List Str} {P : List Str} (h : GoodS S sd P) : P.Sublist S := by
  induction h with
  | full => exact List.Sublist.refl _
  | less _ _ _ ih => exact (List.filter_sublist ..).trans ih
def subs : List Str → List (List Str)
  | [] => [[]]
  | a :: l => subs l ++ (subs l).map (a :: ·)
theorem subs_len (l : List Str) : (subs l).length = 2 ^ l.length := by
  induction l with
  | nil => rfl
  | cons a l ih => simp [subs, ih, Nat.pow_succ]; omega
theorem mem_subs {P S : List Str} (h : P.Sublist S) : P ∈ subs S := by
  induction h with
  | slnil => simp [subs]
  | cons a _ ih => simp [subs, ih]
  | cons_cons a _ ih => simp [subs, ih]
theorem len_of_nodup {α : Type} [DecidableEq α] : ∀ {l m : List α}, l.Nodup → (∀ x ∈ l, x ∈ m) → l.length ≤ m.length
  | [], _, _, _ => Nat.zero_le _
  | a :: l, m, n, h => by
    obtain ⟨n1, n2⟩ := List.nodup_cons.mp n
    have ha := h a (by simp)
    have := len_of_nodup (l := l) (m := m.erase a) n2 fun x hx => (List.mem_erase_of_ne (fun e => n1 (by rw [← e]; exact hx))).mpr (h x (by simp [hx]))
    rw [List.length_erase_of_mem ha] at this
    have := List.length_pos_of_mem ha
    simp only [List.length_cons]; omega
structure GInv (S : List Str) (sd : Str → List Str) (F L : List (List Str)) : Prop where
  nd : F.Nodup
  good : ∀ P ∈ F, GoodS S sd P
  lv : ∀ P ∈ L, P ∈ F
  cl : ∀ P ∈ F, P ∈ L ∨ ∀ h ∈ P, CanS sd (less P h) h → less P h ∈ F
  fu : S ∈ F
theorem GInv.len {S : List Str} {sd : Str → List Str} {F L : List (List Str)} (I : GInv S sd F L) (hS : S.length ≤ 10) : F.length ≤ 1024 := by
  have h1 := len_of_nodup I.nd (m := subs S) fun P hP => mem_subs (I.good P hP).sub
  rw [subs_len] at h1
  have : 2 ^ S.length ≤ 2 ^ 10 := Nat.pow_le_pow_right (by omega) hS
  omega
theorem GInv.done {S : List Str} {sd : Str → List Str} {F : List (List Str)} (I : GInv S sd F []) : ∀ P, P ∈ F ↔ GoodS S sd P := fun P => ⟨I.good P, fun h => by
  induction h with
  | full => exact I.fu
  | less _ hh hc ih =>
    rcases I.cl _ ih with z | z
    · simp at z
    · exact z _ hh hc⟩
end VL
namespace VL
open PySem PySem.Spec PyProof.Rows L2 TL
theorem mem_less {Q : List Str} {h x : Str} : x ∈ less Q h ↔ x ∈ Q ∧ x ≠ h := by simp [less]
theorem sub_filter {Q S : List Str} (h : Q.Sublist S) (n : S.Nodup) : (S.filter fun x => decide (x ∈ Q)) = Q := by
  induction h with
  | slnil => rfl
  | @cons l₁ l₂ a h ih =>
    obtain ⟨n1, n2⟩ := List.nodup_cons.mp n
    rw [List.filter_cons_of_neg (by simp; exact fun z => n1 (h.subset z))]
    exact ih n2
  | @cons_cons l₁ l₂ a h ih =>
    obtain ⟨n1, n2⟩ := List.nodup_cons.mp n
    rw [List.filter_cons_of_pos (by simp)]
    congr 1
    have : (l₂.filter fun x => decide (x ∈ a :: l₁)) = l₂.filter fun x => decide (x ∈ l₁) := by
      apply List.filter_congr
      intro x hx
      have : x ≠ a := fun e => n1 (e ▸ hx)
      simp [this]
    rw [this]; exact ih n2
structure RowOk (S : List Str) (sd : Str → List Str) (row : List Str) : Prop where
  nd : row.Nodup
  mem : ∀ x, x ∈ row ↔ x ∈ S
  st : ∀ pre h post, row = pre ++ h :: post → CanS sd pre h
structure RowIn (S : List Str) (sd : Str → List Str) (row : List Str) : Prop where
  nd : row.Nodup
  sub : ∀ x ∈ row, x ∈ S
  st : ∀ pre h post, row = pre ++ h :: post → CanS sd pre h
  good : GoodS S sd (S.filter fun x => decide (x ∈ row))
theorem RowIn.next {S : List Str} {sd : Str → List Str} {row : List Str} (I : RowIn S sd row) (nS : S.Nodup) (hl : row.length < S.length) : ∃ h ∈ S, h ∉ row ∧ CanS sd row h ∧ GoodS S sd (S.filter fun x => decide (x ∈ row ++ [h])) := by
  have hP : ∀ x, x ∈ (S.filter fun x => decide (x ∈ row)) ↔ x ∈ row := fun x => by simp; exact I.sub x
  have g := I.good
  generalize hg : (S.filter fun x => decide (x ∈ row)) = P at g hP
  cases g with
  | full =>
    have := len_of_nodup nS (m := row) fun x hx => (hP x).mp hx
    omega
  | @less Q h gQ hh hc =>
    have hS := gQ.sub.subset hh
    refine ⟨h, hS, fun z => (mem_less.mp ((hP h).mpr z)).2 rfl, (CanS.congr fun x => (hP x)).mp hc, ?_⟩
    have e : (S.filter fun x => decide (x ∈ row ++ [h])) = Q := by
      rw [← sub_filter gQ.sub nS]
      apply List.filter_congr
      intro x hx
      rw [decide_eq_decide]
      simp only [List.mem_append, List.mem_singleton]
      constructor
      · rintro (z | z)
        · exact (mem_less.mp ((hP x).mpr z)).1
        · rw [z]; exact hh
      · intro z
        by_cases e : x = h
        · exact .inr e
        · exact .inl ((hP x).mp (mem_less.mpr ⟨z, e⟩))
    rw [e]; exact gQ
theorem RowIn.done {S : List Str} {sd : Str → List Str} {row : List Str} (I : RowIn S sd row) (nS : S.Nodup) (hl : ¬ row.length < S.length) : RowOk S sd row where
  nd := I.nd
  mem := fun x => ⟨I.sub x, fun hx => by
    refine Classical.byContradiction fun n => hl ?_
    have := len_of_nodup (l := x :: row) (m := S) (List.nodup_cons.mpr ⟨n, I.nd⟩) fun y hy => by
      rcases List.mem_cons.mp hy with e | e
      · rw [e]; exact hx
      · exact I.sub y e
    simp at this; omega⟩
  st := I.st
end VL
namespace VL
open PySem PySem.Spec PyProof.Rows L2 TL
structure NumOk (L : Lore) (o : List Str) : Prop where
  nd : o.Nodup
  mem : ∀ x, x ∈ o ↔ x ∈ homeOf L
  st : ∀ pre h post, o = pre ++ h :: post → CanS (sidesO L) pre h
theorem side_at {L : Lore} (hL : LoreOk L) {h a : Str} (hh : h ∈ homeOf L) (ha : a ∈ sidesO L h) : a = "" ∨ a ∈ sibsAt L (nearO L h) := by
  have := (flat_group hL (nearO L h)).en (h, a) (mem_sideE.mpr ⟨mem_sibsAt.mpr ⟨hh, rfl⟩, ha⟩)
  exact this
structure NumIn (L : Lore) (o : List Str) (ts : List (Str × List Str × List Str)) : Prop where
  nd : o.Nodup
  sub : ∀ x ∈ o, x ∈ homeOf L
  st : ∀ pre h post, o = pre ++ h :: post → CanS (sidesO L) pre h
  nt : (ts.map (·.1)).Nodup
  row : ∀ t ∈ ts, RowOk (sibsAt L t.1) (sidesO L) (t.2.1 ++ t.2.2) ∧ ∀ x ∈ sibsAt L t.1, x ∈ o ↔ x ∈ t.2.1
  all : ∀ x ∈ homeOf L, x ∈ o ∨ ∃ t ∈ ts, t.1 = nearO L x
theorem NumIn.take {L : Lore} (hL : LoreOk L) {o : List Str} {ts : List (Str × List Str × List Str)} (I : NumIn L o ts) {k : Nat} {p h : Str} {a r : List Str} (e : ts[k]? = some (p, a, h :: r)) : NumIn L (o ++ [h]) (ts.set k (p, a ++ [h], r)) := by
  have ht := List.mem_of_getElem? e
  obtain ⟨R, hR⟩ := I.row _ ht
  have hS : h ∈ sibsAt L p := (R.mem h).mp (by simp)
  obtain ⟨hh, hp⟩ := mem_sibsAt.mp hS
  have hna : h ∉ a := fun z => by
    have := R.nd
    rw [List.nodup_append] at this
    exact this.2.2 h z h (by simp) rfl
  have hno : h ∉ o := fun z => hna ((hR h hS).mp z)
  have hcan : CanS (sidesO L) o h := by
    rcases R.st a h r rfl with c | ⟨⟨x, hx, xa⟩, y, hy, ya⟩
    · exact .inl c
    · by_cases c : ("" : Str) ∈ sidesO L h
      · exact .inl c
      · have hs : ∀ z ∈ sidesO L h, z ∈ sibsAt L p := fun z hz => by
          rcases side_at hL hh hz with q | q
          · rw [q] at hz; exact absurd hz c
          · rw [hp] at q; exact q
        exact .inr ⟨⟨x, hx, (hR x (hs x hx)).mpr xa⟩, y, hy, fun z => ya ((hR y (hs y hy)).mp z)⟩
  have hk : k < ts.length := (List.getElem?_eq_some_iff.mp e).1
  have mapk : (ts.set k (p, a ++ [h], r)).map (·.1) = ts.map (·.1) := by
    apply List.ext_getElem?
    intro i
    rw [List.getElem?_map, List.getElem?_map]
    by_cases c : i = k
    · subst c
      rw [List.getElem?_set_self hk, e]; rfl
    · rw [List.getElem?_set_ne (Ne.symm c)]
  refine ⟨?_, ?_, ?_, by rw [mapk]; exact I.nt, ?_, ?_⟩
  · rw [List.nodup_append]
    exact ⟨I.nd, by simp, fun x hx y hy z => by simp at hy; subst hy; subst z; exact hno hx⟩
  · intro x hx
    rcases List.mem_append.mp hx with z | z
    · exact I.sub x z
    · simp at z; rw [z]; exact hh
  · intro pre x post q
    rcases List.append_eq_append_iff.mp q with ⟨b, e1, e2⟩ | ⟨b, e1, e2⟩
    · cases b with
      | nil =>
        simp at e1 e2
        rw [e1, ← e2.1]; exact hcan
      | cons y b => simp at e2
    · cases b with
      | nil =>
        simp at e1 e2
        rw [← e1, e2.1]; exact hcan
      | cons y b =>
        simp only [List.cons_append, List.cons.injEq] at e2
        exact I.st pre x b (by rw [e1, ← e2.1])
  · intro t ht'
    obtain ⟨i, hi⟩ := List.getElem?_of_mem ht'
    by_cases c : i = k
    · subst c
      rw [List.getElem?_set_self hk] at hi
      cases hi
      refine ⟨by simpa using R, fun x hx => ?_⟩
      simp only [List.mem_append, List.mem_singleton]
      rw [hR x hx]
    · rw [List.getElem?_set_ne (Ne.symm c)] at hi
      obtain ⟨R', hR'⟩ := I.row t (List.mem_of_getElem? hi)
      refine ⟨R', fun x hx => ?_⟩
      rw [← hR' x hx]
      simp only [List.mem_append, List.mem_singleton]
      refine ⟨fun z => z.elim id fun z => ?_, .inl⟩
      exfalso
      subst z
      have q := (mem_sibsAt.mp hx).2
      rw [hp] at q
      have n := I.nt
      have h1 : (ts.map (·.1))[i]? = some p := by rw [List.getElem?_map, hi, q]; rfl
      have h2 : (ts.map (·.1))[k]? = some p := by rw [List.getElem?_map, e]; rfl
      have hi' : i < (ts.map (·.1)).length := (List.getElem?_eq_some_iff.mp h1).1
      exact c ((List.getElem?_inj hi' n).mp (h1.trans h2.symm))
  · intro x hx
    rcases I.all x hx with z | ⟨t, ht', z⟩
    · exact .inl (List.mem_append_left _ z)
    · right
      obtain ⟨i, hi⟩ := List.getElem?_of_mem ht'
      by_cases c : i = k
      · subst c
        rw [e] at hi; cases hi
        exact ⟨_, List.mem_of_getElem? (List.getElem?_set_self hk), z⟩
      · exact ⟨t, List.mem_of_getElem? (by rw [List.getElem?_set_ne (Ne.symm c)]; exact hi), z⟩
theorem NumIn.drop {L : Lore} {o : List Str} {ts : List (Str × List Str × List Str)} (I : NumIn L o ts) : NumIn L o (ts.filter fun t => !t.2.2.isEmpty) where
  nd := I.nd
  sub := I.sub
  st := I.st
  nt := I.nt.sublist ((List.filter_sublist ..).map _)
  row := fun t ht => I.row t (List.mem_filter.mp ht).1
  all := fun x hx => by
    rcases I.all x hx with z | ⟨t, ht, z⟩
    · exact .inl z
    · by_cases c : t.2.2 = []
      · left
        obtain ⟨R, hR⟩ := I.row t ht
        have hS : x ∈ sibsAt L t.1 := mem_sibsAt.mpr ⟨hx, z.symm⟩
        have := (R.mem x).mpr hS
        rw [c, List.append_nil] at this
        exact (hR x hS).mpr this
      · exact .inr ⟨t, List.mem_filter.mpr ⟨ht, by simpa using c⟩, z⟩
theorem NumIn.done {L : Lore} {o : List Str} (I : NumIn L o []) : NumOk L o := ⟨I.nd, fun x => ⟨I.sub x, fun hx => by
  rcases I.all x hx with z | ⟨t, ht, _⟩
  · exact z
  · simp at ht⟩, I.st⟩
end VL
namespace VL
open PySem PySem.Spec PyProof.Rows L2
noncomputable def LB_l_odd (t_l_of : List D → M D) : Rho → M Fl := (seqS (setS 1 (lstF (consA (fun _ => pure .non) (consA (fun _ => pure (.bl true)) (consA (fun _ => pure (.bl false)) (consA (fun _ => pure (.int 0)) (consA (fun _ => pure (.int 1)) (consA (un negD (fun _ => pure (.int 1))) (consA (bin powD (fun _ => pure (.int 10)) (fun _ => pure (.int 8))) (consA (fun _ => pure (.str "")) (consA (fun _ => pure (.str "a")) (consA (fun _ => pure (.str "none")) (consA (fun _ => pure (.str "gate")) (consA (tupF nilA) (consA (lstF nilA) (consA (fun _ => pure (.dct [])) (consA (tupF (consA (tupF nilA) nilA)) (consA (tupF (consA (fun _ => pure (.int 0)) nilA)) (consA (tupF (consA (fun _ => pure (.str "")) nilA)) (consA (lstF (consA (fun _ => pure (.int 0)) nilA)) nilA)))))))))))))))))))) (retS (fnF 2 t_l_of [] (consA (slot 0) (consA (bin catD (slot 1) (lstF (consA (tupF (consA (fun _ => pure (.str "a")) (consA (fun _ => pure (.str "b")) nilA))) (consA (tupF (consA (fun _ => pure (.str "house")) (consA (fun _ => pure (.str "a")) nilA))) (consA (tupF (consA (fun _ => pure (.str "a")) nilA)) (consA (fun _ => pure (.str "lane")) (consA (tupF (consA (tupF nilA) (consA (tupF nilA) nilA))) (consA (tupF (consA (fun _ => pure (.str "lane")) (consA (fun _ => pure (.str "a")) (consA (fun _ => pure (.str "b")) nilA)))) nilA)))))))) nilA)))))
end VL
namespace VL
open PySem PySem.Spec PyProof.Rows L2 TL
def Plain (d : D) : Prop := ∃ t, tyD d = some t
structure ValD (d : D) : Prop where
  pl : Plain d
  pls : ∀ l, d = .tup l → ∀ x ∈ l, Plain x
  ok : ∀ l, d = .tup (sts l) → (∀ x ∈ l, OkS x) ∧ l.length ≤ 1000
end VL
namespace VL
open PySem PySem.Spec PyProof.Rows L2 TL
def anyIn (sides row : List Str) : Bool := sides.any fun x => decide (x ∈ row)
noncomputable def stB (L : Lore) (pre : List Str) (h : Str) (post : List Str) : Bool := decide (("" : Str) ∈ sidesO L h) || (anyIn (sidesO L h) pre && anyIn (sidesO L h) post)
structure NumV (L : Lore) (l : List Str) : Prop where
  len : l.length = (homeOf L).length
  nd : l.Nodup
  sub : ∀ x ∈ l, x ∈ homeOf L
  st : ∀ pre h post, l = pre ++ h :: post → stB L pre h post = true
def IsNum (L : Lore) (d : D) : Prop := ∃ l, d = .tup (sts l) ∧ NumV L l
open Classical in
noncomputable def isNum (L : Lore) (d : D) : Bool := decide (IsNum L d)
theorem sts_inj {a b : List Str} (h : sts a = sts b) : a = b := by
  induction a generalizing b with
  | nil => cases b with
    | nil => rfl
    | cons y b => cases h
  | cons x a ih =>
    cases b with
    | nil => cases h
    | cons y b =>
      simp only [sts, List.map_cons, List.cons.injEq, D.str.injEq] at h
      rw [h.1, ih h.2]
open Classical in
theorem isNum_sts {L : Lore} {l : List Str} : isNum L (.tup (sts l)) = true ↔ NumV L l := by
  unfold isNum
  rw [decide_eq_true_eq]
  constructor
  · rintro ⟨m, e, h⟩
    have e2 : sts l = sts m := D.tup.inj e
    rw [sts_inj e2]; exact h
  · exact fun h => ⟨l, rfl, h⟩
theorem sides_ne {L : Lore} (hL : LoreOk L) {h : Str} (hh : h ∈ homeOf L) : h ∉ sidesO L h := by
  intro hx
  obtain ⟨p, hp, e⟩ := List.mem_map.mp hx
  obtain ⟨u1, u2, u3⟩ := mem_useO.mp hp
  have he := end_place hL u1 u2
  exact ((sib_own hL hh u1 he).2.mpr u2) (u3.symm.trans e)
end VL
namespace VL
open PySem PySem.Spec PyProof.Rows L2 TL
def ValP (d : D) : Prop := Plain d ∧ ∀ x, d = .str x → OkS x
theorem valP_str {x : Str} (h : OkS x) : ValP (.str x) := ⟨⟨_, rfl⟩, fun y e => by cases e; exact h⟩
theorem valD_tup {l : List D} (h : ∀ x ∈ l, ValP x) (n : l.length ≤ 1000) : ValD (.tup l) := ⟨⟨_, rfl⟩, fun m e x hx => by
    cases e; exact (h x hx).1, fun m e => by
    have e2 := D.tup.inj e
    subst e2
    exact ⟨fun x hx => (h (.str x) (List.mem_map_of_mem hx)).2 x rfl, by simpa [sts] using n⟩⟩
theorem valD_sts {l : List Str} (h : ∀ x ∈ l, OkS x) (n : l.length ≤ 1000) : ValD (.tup (sts l)) := valD_tup (fun x hx => by
    obtain ⟨y, hy, rfl⟩ := List.mem_map.mp hx
    exact valP_str (h y hy)) (by simpa [sts] using n)
theorem ValD.p {d : D} (h : ValD d) (ok : ∀ x, d = .str x → OkS x) : ValP d := ⟨h.pl, ok⟩
def oddL : List D := [.non, .bl true, .bl false, .int 0, .int 1, .int (-1), .int (10 ^ 8), .str "", .str "a", .str "none", .str "gate", .tup [], .lst [], .dct [], .tup [.tup []], .tup [.int 0], .tup [.str ""], .lst [.int 0]]
def oddM : List D := [.tup [.str "a", .str "b"], .tup [.str "house", .str "a"], .tup [.str "a"], .str "lane", .tup [.tup [], .tup []], .tup [.str "lane", .str "a", .str "b"]]
end VL
namespace VL
open PySem PySem.Spec PyProof.Rows L2 TL
theorem tk_compL {tg : D → Rho → Option Rho} {te : Rho → M D} {ρ : Rho} {P : D → Prop} {c : Nat} : ∀ l : List D, (∀ d ∈ l, ∃ ρ1, tg d ρ = some ρ1 ∧ Tk c (te ρ1) P) → Tk (c * l.length) (compL tg (fun _ => pure true) te ρ l) (fun ds => ds.length = l.length ∧ ∀ d ∈ ds, P d)
  | [], _ => Tk.ret ⟨rfl, by simp⟩
  | d :: l, h => by
    obtain ⟨ρ1, h1, h2⟩ := h d (by simp)
    rw [List.length_cons, Nat.mul_add, Nat.mul_one, Nat.add_comm]
    unfold compL
    rw [h1, opt_some, m_pure_bind, m_pure_bind, if_pos rfl]
    refine h2.bind fun y hy => ?_
    refine (Tk.bind (k2 := 0) (tk_compL l fun e he => h e (by simp [he])) fun ys hys => ?_)
    exact Tk.ret ⟨by simp [hys.1], fun e he => by
      rcases List.mem_cons.mp he with rfl | he
      · exact hy
      · exact hys.2 e he⟩
theorem Tk.noE {α : Type} {k : Nat} {m : M α} {P : α → Prop} (h : Tk k m P) : Tk k (noE m) P := by
  intro b s hp hb
  obtain ⟨a, s', e, p1, q1⟩ := h b s hp hb
  exact ⟨a, s', noE_ok e, p1, q1⟩
theorem tk_lcF {vs : List Nat} {fi : Rho → M (List D)} {tg : D → Rho → Option Rho} {te : Rho → M D} {ρ : Rho} {P : D → Prop} {c : Nat} {l : List D} (hi : fi ρ = pure l) (h : ∀ d ∈ l, ∃ ρ1, tg d (wipeR ρ vs) = some ρ1 ∧ Tk c (te ρ1) P) :
    Tk (c * l.length) (lcF vs fi tg (fun _ => pure true) te ρ) (fun d => ∃ ds, d = .lst ds ∧ ds.length = l.length ∧ ∀ d ∈ ds, P d) := by
  unfold lcF
  rw [hi, m_pure_bind]
  exact (Tk.bind (k2 := 0) (tk_compL l h).noE fun ys hys => Tk.ret ⟨ys, rfl, hys⟩)
theorem extS_pure {i : Nat} {f : Rho → M D} {ρ : Rho} {l m : List D} (h : slot i ρ = pure (.lst l)) (k : f ρ = pure (.lst m)) (z : l.length + m.length ≤ 16000000) : extS i f ρ = pure (.nx (ρ.set i (some (.lst (l ++ m))))) := by
  have z' : l.length + m.length ≤ sizeLine := sz_of z
  unfold extS
  rw [h, m_pure_bind, asLst_lst, m_pure_bind, k, m_pure_bind]
  simp [seqOf, opt_some, m_pure_bind, z', asLst_lst]
theorem num_len {L : Lore} (hL : LoreOk L) {o : List Str} (h : NumOk L o) : o.length ≤ 10 := by
  have := home_len hL
  refine Nat.le_trans ?_ this
  exact List.Nodup.length_le_of_subset h.nd fun x hx => (h.mem x).mp hx
end VL
namespace VL
open PySem PySem.Spec PyProof.Rows L2 TL
theorem way_comes {ls : List Lane} {g : Str} {gone : List Str} : ∀ {p : List Str} {x : Str}, IsWay ls g (x :: p) → (∀ y ∈ x :: p, y = g ∨ y ∉ gone) → Comes ls g gone x
  | [], x, w, _ => by rw [show x = g from w]; exact .gate
  | y :: p, x, w, h => by
    rcases h x (by simp) with e | e
    · rw [e]; exact .gate
    · exact .step w.1 (way_comes w.2 fun z hz => h z (List.mem_cons_of_mem _ hz)) e
structure FewI (L : Lore) (u : List Str) (y : Str) : Prop where
  nd : u.Nodup
  ex : ∃ b, u = b ++ [y] ∧ (∀ x ∈ b, x ∈ L.hs) ∧ (y = L.g ∨ (y ∈ L.hs ∧ Comes L.ls L.g b y))
theorem FewI.sub {L : Lore} {u : List Str} {y : Str} (I : FewI L u y) : ∀ x ∈ u, x ∈ L.g :: L.hs := by
  obtain ⟨b, rfl, h1, h2⟩ := I.ex
  intro x hx
  rcases List.mem_append.mp hx with q | q
  · exact List.mem_cons_of_mem _ (h1 x q)
  · rw [List.mem_singleton.mp q]
    rcases h2 with e | ⟨e, _⟩
    · rw [e]; simp
    · exact List.mem_cons_of_mem _ e
theorem FewI.len {L : Lore} (hL : LoreOk L) {u : List Str} {y : Str} (I : FewI L u y) : u.length ≤ 11 := by
  have := length_le_of_nodup I.nd I.sub
  have le := hL.le
  simp only [List.length_cons] at this
  omega
noncomputable def goodE (L : Lore) (u : List Str) (y : Str) : List Str := ((endsOf L.ls y).filter fun e => !decide (e ∈ u)).filter fun e => decide (e = L.g) || decide (e ∈ L.hs.filter fun x => comB L.ls L.g u x)
theorem FewI.go {L : Lore} (hL : LoreOk L) {u : List Str} {y : Str} (I : FewI L u y) (ny : y ≠ L.g) : ∃ e r, goodE L u y = e :: r ∧ FewI L (u ++ [e]) e := by
  obtain ⟨b, eb, h1, h2⟩ := I.ex
  obtain ⟨hy, hc⟩ := h2.resolve_left ny
  have gu : L.g ∉ u := by
    rw [eb]
    intro z
    rcases List.mem_append.mp z with z | z
    · exact hL.gate_ne _ (h1 _ z) rfl
    · exact ny (List.mem_singleton.mp z).symm
  have nd := I.nd
  have ex : ∃ e, e ∈ goodE L u y := by
    obtain ⟨p, w, n, a⟩ := simple_way hc
    cases p with
    | nil => exact absurd (show y = L.g from w) ny
    | cons e r =>
      have hu : ∀ z ∈ e :: r, z = L.g ∨ z ∉ u := fun z hz => by
        rcases a z (List.mem_cons_of_mem _ hz) with q | q
        · exact .inl q
        · refine .inr fun c => ?_
          rw [eb] at c
          rcases List.mem_append.mp c with c | c
          · exact q c
          · rw [List.mem_singleton.mp c] at hz
            exact (List.nodup_cons.mp n).1 hz
      refine ⟨e, List.mem_filter.mpr ⟨List.mem_filter.mpr ⟨mem_endsOf.mpr w.1, ?_⟩, ?_⟩⟩
      · rcases hu e (by simp) with q | q
        · rw [q]; simpa using gu
        · simpa using q
      · by_cases q : e = L.g
        · simp [q]
        · have hc2 := way_comes w.2 hu
          have he : e ∈ L.hs := (List.mem_cons.mp (hL.ends _ w.1).2.1).resolve_left q
          have : e ∈ L.hs.filter fun x => comB L.ls L.g u x := List.mem_filter.mpr ⟨he, comB_eq.mpr hc2⟩
          simp only [Bool.or_eq_true, decide_eq_true_eq]
          exact .inr this
  cases hg : goodE L u y with
  | nil => obtain ⟨e, he⟩ := ex; rw [hg] at he; cases he
  | cons e r =>
    refine ⟨e, r, rfl, ?_⟩
    have he : e ∈ goodE L u y := by rw [hg]; simp
    obtain ⟨q1, q2⟩ := List.mem_filter.mp he
    obtain ⟨q3, q4⟩ := List.mem_filter.mp q1
    have nu : e ∉ u := by simpa using q4
    refine ⟨?_, u, rfl, ?_, ?_⟩
    · rw [List.nodup_append]
      exact ⟨nd, by simp, fun a ha c hc => by rw [List.mem_singleton.mp hc]; exact fun z => nu (z ▸ ha)⟩
    · intro x hx
      rw [eb] at hx
      rcases List.mem_append.mp hx with q | q
      · exact h1 x q
      · rw [List.mem_singleton.mp q]; exact hy
    · simp only [Bool.or_eq_true, decide_eq_true_eq] at q2
      rcases q2 with q | q
      · exact .inl q
      · obtain ⟨w1, w2⟩ := List.mem_filter.mp q
        exact .inr ⟨w1, comB_eq.mp w2⟩
end VL
namespace VL
open PySem PySem.Spec PyProof.Rows L2 TL
theorem and_ne {a b : Nat} : (a &&& b) ≠ 0 ↔ ∃ i, a.testBit i = true ∧ b.testBit i = true := by
  constructor
  · intro h
    obtain ⟨i, hi⟩ := Nat.exists_testBit_of_ne_zero h
    rw [Nat.testBit_and, Bool.and_eq_true] at hi
    exact ⟨i, hi⟩
  · rintro ⟨i, h1, h2⟩ e
    have : (a &&& b).testBit i = true := by rw [Nat.testBit_and, h1, h2]; rfl
    rw [e] at this; simp at this
theorem sub_ne {a b : Nat} : a - (a &&& b) ≠ 0 ↔ ∃ i, a.testBit i = true ∧ b.testBit i = false := by
  have le := Nat.and_le_left (n := a) (m := b)
  constructor
  · intro h
    refine Classical.byContradiction fun c => h ?_
    have : a &&& b = a := by
      refine Nat.eq_of_testBit_eq fun i => ?_
      rw [Nat.testBit_and]
      cases h1 : a.testBit i with
      | false => rfl
      | true =>
        cases h2 : b.testBit i with
        | true => rfl
        | false => exact absurd ⟨i, h1, h2⟩ c
    omega
  · rintro ⟨i, h1, h2⟩ e
    have : a &&& b = a := by omega
    have q : (a &&& b).testBit i = true := by rw [this]; exact h1
    rw [Nat.testBit_and, h2] at q; simp at q
def bitsP (p : Nat → Bool) (n : Nat) : Nat := (((List.range n).filter p).map fun i => 2 ^ i).sum
theorem bitsP_succ (p : Nat → Bool) (n : Nat) : bitsP p (n + 1) = bitsP p n + if p n = true then 2 ^ n else 0 := by
  unfold bitsP
  rw [List.range_succ, List.filter_append, List.map_append, List.sum_append]
  by_cases h : p n = true
  · rw [List.filter_cons_of_pos h, if_pos h]; simp
  · rw [List.filter_cons_of_neg h, if_neg h]; simp
theorem bitsP_lt (p : Nat → Bool) : ∀ n, bitsP p n < 2 ^ n
  | 0 => by simp [bitsP]
  | n + 1 => by
    have := bitsP_lt p n
    rw [bitsP_succ, Nat.pow_succ]
    split <;> omega
theorem bitsP_test (p : Nat → Bool) : ∀ n i, (bitsP p n).testBit i = (decide (i < n) && p i)
  | 0, i => by simp [bitsP]
  | n + 1, i => by
    have ih := bitsP_test p n i
    have lt := bitsP_lt p n
    rw [bitsP_succ]
    by_cases h : p n = true
    · rw [if_pos h, Nat.add_comm]
      by_cases e : i = n
      · subst e
        rw [Nat.testBit_two_pow_add_eq, ih]
        simp [h]
      · by_cases l : i < n
        · rw [Nat.testBit_two_pow_add_gt l, ih]
          simp [l, Nat.lt_succ_of_lt l]
        · have : 2 ^ n + bitsP p n < 2 ^ i := by
            have : 2 ^ (n + 1) ≤ 2 ^ i := Nat.pow_le_pow_right (by decide) (by omega)
            rw [Nat.pow_succ] at this
            omega
          rw [Nat.testBit_lt_two_pow this]
          have : ¬ i < n + 1 := by omega
          simp [this]
    · rw [if_neg h, Nat.add_zero, ih]
      by_cases e : i = n
      · subst e
        simp [h]
      · by_cases l : i < n
        · simp [l, Nat.lt_succ_of_lt l]
        · have : ¬ i < n + 1 := by omega
          simp [l, this]
noncomputable def sideBits (S : List Str) (sd : Str → List Str) (h : Str) : Nat := bitsP (fun i => decide (∃ x, S[i]? = some x ∧ x ∈ sd h)) S.length
theorem sib_test {S : List Str} {sd : Str → List Str} {h : Str} {i : Nat} : (sideBits S sd h).testBit i = true ↔ ∃ x, S[i]? = some x ∧ x ∈ sd h := by
  unfold sideBits
  rw [bitsP_test, Bool.and_eq_true, decide_eq_true_eq, decide_eq_true_eq]
  constructor
  · exact fun q => q.2
  · rintro ⟨x, h1, h2⟩
    exact ⟨(List.getElem?_eq_some_iff.mp h1).1, x, h1, h2⟩
noncomputable def canI (S : List Str) (sd : Str → List Str) (front : Nat) (h : Str) : Bool := decide (("" : Str) ∈ sd h) || (!decide ((sideBits S sd h &&& front) = 0) && !decide ((sideBits S sd h - (sideBits S sd h &&& front)) = 0))
noncomputable def freeP (S : List Str) (sd : Str → List Str) (front : Nat) (i : Nat) (h : Str) : Bool := !front.testBit i && canI S sd front h
end VL
namespace VL
open PySem PySem.Spec PyProof.Rows L2 TL
noncomputable def freeN (S : List Str) (sd : Str → List Str) (front n : Nat) : List Nat := (List.range n).filter fun i => match S[i]? with
  | some h => freeP S sd front i h
  | none => false
end VL
namespace VL
open PySem PySem.Spec PyProof.Rows L2 TL
def stepWn (F : Nat → List Nat) (full : Nat) (W : List Nat) (less : Nat) : List Nat := W.set (full - less) ((F (full - less)).map fun i => W.getD ((full - less) ||| 2 ^ i) 0).sum
def waysN (F : Nat → List Nat) (full : Nat) : Nat → List Nat
  | 0 => List.replicate full 0 ++ [1]
  | k + 1 => stepWn F full (waysN F full k) (k + 1)
theorem waysN_len (F : Nat → List Nat) (full : Nat) : ∀ k, (waysN F full k).length = full + 1
  | 0 => by simp [waysN]
  | k + 1 => by
    show ((waysN F full k).set _ _).length = _
    rw [List.length_set, waysN_len F full k]
theorem waysN_spec {F : Nat → List Nat} {full : Nat} (hF : ∀ f i, f < full → i ∈ F f → f < f ||| 2 ^ i ∧ f ||| 2 ^ i ≤ full) : ∀ k, k ≤ full → (waysN F full k).getD full 0 = 1 ∧ ∀ f, full - k ≤ f → f < full → (waysN F full k).getD f 0 = ((F f).map fun i => (waysN F full k).getD (f ||| 2 ^ i) 0).sum
  | 0, _ => ⟨by simp [waysN, List.getD_eq_getElem?_getD], fun f h1 h2 => by omega⟩
  | k + 1, hk => by
    obtain ⟨i1, i2⟩ := waysN_spec hF k (by omega)
    have len := waysN_len F full k
    have get : ∀ f, f ≠ full - (k + 1) → (waysN F full (k + 1)).getD f 0 = (waysN F full k).getD f 0 := fun f h => by
      show ((waysN F full k).set _ _).getD f 0 = _
      rw [List.getD_eq_getElem?_getD, List.getElem?_set_ne (Ne.symm h), ← List.getD_eq_getElem?_getD]
    refine ⟨by rw [get full (by omega)]; exact i1, fun f h1 h2 => ?_⟩
    have tail : ((F f).map fun i => (waysN F full (k + 1)).getD (f ||| 2 ^ i) 0) = (F f).map fun i => (waysN F full k).getD (f ||| 2 ^ i) 0 := List.map_congr_left fun i hi => get _ (by have := (hF f i h2 hi).1; omega)
    rw [tail]
    by_cases e : f = full - (k + 1)
    · subst e
      show ((waysN F full k).set _ _).getD _ 0 = _
      rw [List.getD_eq_getElem?_getD, List.getElem?_set_self (by omega)]
      rfl
    · rw [get f e]
      exact i2 f (by omega) h2
end VL
namespace VL
open PySem PySem.Spec PyProof.Rows L2 TL
noncomputable def waysO (S : List Str) (sd : Str → List Str) : List Nat := waysN (fun f => freeN S sd f S.length) (2 ^ S.length - 1) (2 ^ S.length - 1)
theorem freeN_lt {S : List Str} {sd : Str → List Str} {f i n : Nat} (h : i ∈ freeN S sd f n) : i < n ∧ f.testBit i = false := by
  unfold freeN at h
  obtain ⟨h1, h2⟩ := List.mem_filter.mp h
  refine ⟨List.mem_range.mp h1, ?_⟩
  cases e : S[i]? with
  | none => rw [e] at h2; cases h2
  | some x =>
    rw [e] at h2
    unfold freeP at h2
    rw [Bool.and_eq_true, Bool.not_eq_true'] at h2
    exact h2.1
theorem or_gt {f i : Nat} (h : f.testBit i = false) : f < f ||| 2 ^ i := by
  have le : f ≤ f ||| 2 ^ i := Nat.left_le_or
  refine Nat.lt_of_le_of_ne le fun e => ?_
  have : (f ||| 2 ^ i).testBit i = true := by rw [Nat.testBit_or, Nat.testBit_two_pow_self, Bool.or_true]
  rw [← e, h] at this; cases this
theorem free_full {S : List Str} {sd : Str → List Str} {f i : Nat} (hf : f < 2 ^ S.length - 1) (h : i ∈ freeN S sd f S.length) : f < f ||| 2 ^ i ∧ f ||| 2 ^ i ≤ 2 ^ S.length - 1 := by
  obtain ⟨h1, h2⟩ := freeN_lt h
  refine ⟨or_gt h2, ?_⟩
  have : f ||| 2 ^ i < 2 ^ S.length := Nat.or_lt_two_pow (by omega) (Nat.pow_lt_pow_right (by decide) h1)
  omega
end VL
namespace VL
open PySem PySem.Spec PyProof.Rows L2 TL
structure Rep (S : List Str) (f : Nat) (row : List Str) : Prop where
  lt : f < 2 ^ S.length
  bit : ∀ i x, S[i]? = some x → (f.testBit i = true ↔ x ∈ row)
theorem canI_iff {S : List Str} {sd : Str → List Str} {f : Nat} {row : List Str} {h : Str} (R : Rep S f row) (hs : ("" : Str) ∉ sd h → ∀ a ∈ sd h, a ∈ S) : canI S sd f h = true ↔ CanS sd row h := by
  unfold canI CanS
  by_cases q : ("" : Str) ∈ sd h
  · simp [q]
  · have hs := hs q
    rw [decide_eq_false q, Bool.false_or, Bool.and_eq_true, Bool.not_eq_true', Bool.not_eq_true', decide_eq_false_iff_not, decide_eq_false_iff_not]
    have e1 : ¬ (sideBits S sd h &&& f) = 0 ↔ ∃ a ∈ sd h, a ∈ row := by
      refine and_ne.trans ⟨?_, ?_⟩
      · rintro ⟨i, h1, h2⟩
        obtain ⟨x, hx, hxs⟩ := sib_test.mp h1
        exact ⟨x, hxs, (R.bit i x hx).mp h2⟩
      · rintro ⟨a, ha, hr⟩
        obtain ⟨i, hi⟩ := List.mem_iff_getElem?.mp (hs a ha)
        exact ⟨i, sib_test.mpr ⟨a, hi, ha⟩, (R.bit i a hi).mpr hr⟩
    have e2 : ¬ (sideBits S sd h - (sideBits S sd h &&& f)) = 0 ↔ ∃ a ∈ sd h, a ∉ row := by
      refine sub_ne.trans ⟨?_, ?_⟩
      · rintro ⟨i, h1, h2⟩
        obtain ⟨x, hx, hxs⟩ := sib_test.mp h1
        exact ⟨x, hxs, fun z => by rw [(R.bit i x hx).mpr z] at h2; cases h2⟩
      · rintro ⟨a, ha, hr⟩
        obtain ⟨i, hi⟩ := List.mem_iff_getElem?.mp (hs a ha)
        refine ⟨i, sib_test.mpr ⟨a, hi, ha⟩, ?_⟩
        cases hb : f.testBit i with
        | false => rfl
        | true => exact absurd ((R.bit i a hi).mp hb) hr
    rw [e1, e2]
    simp [q]
theorem mem_freeN {S : List Str} {sd : Str → List Str} {f i : Nat} : i ∈ freeN S sd f S.length ↔ ∃ h, S[i]? = some h ∧ f.testBit i = false ∧ canI S sd f h = true := by
  unfold freeN
  rw [List.mem_filter, List.mem_range]
  constructor
  · rintro ⟨h1, h2⟩
    rw [List.getElem?_eq_getElem h1] at h2 ⊢
    unfold freeP at h2
    simp only [Bool.and_eq_true, Bool.not_eq_true'] at h2
    exact ⟨_, rfl, h2.1, h2.2⟩
  · rintro ⟨h, e, h1, h2⟩
    refine ⟨(List.getElem?_eq_some_iff.mp e).1, ?_⟩
    rw [e]
    unfold freeP
    simp only [Bool.and_eq_true, Bool.not_eq_true']
    exact ⟨h1, h2⟩
theorem Rep.add {S : List Str} (nd : S.Nodup) {f : Nat} {row : List Str} {i : Nat} {h : Str} (R : Rep S f row) (e : S[i]? = some h) : Rep S (f ||| 2 ^ i) (row ++ [h]) where
  lt := Nat.or_lt_two_pow R.lt (Nat.pow_lt_pow_right (by decide) (List.getElem?_eq_some_iff.mp e).1)
  bit := fun j x hx => by
    rw [Nat.testBit_or, Nat.testBit_two_pow, Bool.or_eq_true, decide_eq_true_eq, List.mem_append, List.mem_singleton, R.bit j x hx]
    refine or_congr Iff.rfl ⟨fun z => ?_, fun z => ?_⟩
    · subst z; rw [e] at hx; cases hx; rfl
    · subst z
      exact (List.getElem?_inj (List.getElem?_eq_some_iff.mp e).1 nd).mp (e.trans hx.symm)
theorem Rep.full {S : List Str} {f : Nat} {row : List Str} (R : Rep S f row) (all : ∀ x ∈ S, x ∈ row) : f = 2 ^ S.length - 1 := by
  refine Nat.eq_of_testBit_eq fun i => ?_
  rw [Nat.testBit_two_pow_sub_one]
  by_cases l : i < S.length
  · rw [decide_eq_true l]
    exact (R.bit i _ (List.getElem?_eq_getElem l)).mpr (all _ (List.getElem_mem l))
  · rw [decide_eq_false l]
    refine Nat.testBit_lt_two_pow (Nat.lt_of_lt_of_le R.lt (Nat.pow_le_pow_right (by decide) (by omega)))
theorem Rep.not_full {S : List Str} {f : Nat} {row : List Str} (R : Rep S f row) {i : Nat} {h : Str} (e : S[i]? = some h) (n : h ∉ row) : f < 2 ^ S.length - 1 := by
  have := R.lt
  refine Nat.lt_of_le_of_ne (by omega) fun z => n ((R.bit i h e).mp ?_)
  rw [z, Nat.testBit_two_pow_sub_one, decide_eq_true (List.getElem?_eq_some_iff.mp e).1]
theorem ways_rec (S : List Str) (sd : Str → List Str) {f : Nat} (h : f < 2 ^ S.length - 1) : (waysO S sd).getD f 0 = ((freeN S sd f S.length).map fun i => (waysO S sd).getD (f ||| 2 ^ i) 0).sum := (waysN_spec (F := fun f => freeN S sd f S.length) (full := 2 ^ S.length - 1) (fun f i h1 h2 => free_full h1 h2) _ (Nat.le_refl _)).2 f (by omega) h
theorem sum_pos {g : Nat → Nat} : ∀ {l : List Nat}, 0 < (l.map g).sum ↔ ∃ i ∈ l, 0 < g i
  | [] => by simp
  | a :: l => by
    rw [List.map_cons, List.sum_cons]
    have := sum_pos (g := g) (l := l)
    simp only [List.mem_cons, exists_eq_or_imp]
    rw [← this]
    omega
structure RowI (S : List Str) (sd : Str → List Str) (f : Nat) (row : List Str) : Prop where
  rep : Rep S f row
  nd : row.Nodup
  sub : ∀ x ∈ row, x ∈ S
  st : ∀ pre h post, row = pre ++ h :: post → CanS sd pre h
  pos : 0 < (waysO S sd).getD f 0
theorem RowI.len {S : List Str} {sd : Str → List Str} {f : Nat} {row : List Str} (I : RowI S sd f row) : row.length ≤ S.length := length_le_of_nodup I.nd I.sub
theorem RowI.more {S : List Str} (nd : S.Nodup) {sd : Str → List Str} {f : Nat} {row : List Str} (I : RowI S sd f row) (h : row.length < S.length) : f < 2 ^ S.length - 1 := by
  have : ∃ x ∈ S, x ∉ row := by
    refine Classical.byContradiction fun c => ?_
    have := length_le_of_nodup nd (u := row) fun x hx => Classical.byContradiction fun z => c ⟨x, hx, z⟩
    omega
  obtain ⟨x, hx, nx⟩ := this
  obtain ⟨i, hi⟩ := List.mem_iff_getElem?.mp hx
  exact I.rep.not_full hi nx
noncomputable def pickN (S : List Str) (sd : Str → List Str) (f : Nat) : List Nat := (freeN S sd f S.length).filter fun i => decide (0 < (waysO S sd).getD (f ||| 2 ^ i) 0)
theorem RowI.go {S : List Str} (nd : S.Nodup) {sd : Str → List Str} (hs : ∀ h ∈ S, ("" : Str) ∉ sd h → ∀ a ∈ sd h, a ∈ S) {f : Nat} {row : List Str} (I : RowI S sd f row) (h : row.length < S.length) : ∃ i r x, pickN S sd f = i :: r ∧ S[i]? = some x ∧ RowI S sd (f ||| 2 ^ i) (row ++ [x]) := by
  have lt := I.more nd h
  have pos := I.pos
  rw [ways_rec S sd lt, sum_pos] at pos
  obtain ⟨i0, h1, h2⟩ := pos
  cases hp : pickN S sd f with
  | nil =>
    have : i0 ∈ pickN S sd f := List.mem_filter.mpr ⟨h1, decide_eq_true h2⟩
    rw [hp] at this; cases this
  | cons i r =>
    have hi : i ∈ pickN S sd f := by rw [hp]; simp
    obtain ⟨q1, q2⟩ := List.mem_filter.mp hi
    obtain ⟨x, e, b, cn⟩ := mem_freeN.mp q1
    have hx : x ∈ S := List.mem_of_getElem? e
    have nx : x ∉ row := fun z => by rw [(I.rep.bit i x e).mpr z] at b; cases b
    have cs := (canI_iff I.rep (hs x hx)).mp cn
    refine ⟨i, r, x, rfl, e, I.rep.add nd e, ?_, ?_, ?_, of_decide_eq_true q2⟩
    · rw [List.nodup_append]
      exact ⟨I.nd, by simp, fun a ha b hb => by rw [List.mem_singleton.mp hb]; exact fun z => nx (z ▸ ha)⟩
    · intro y hy
      rcases List.mem_append.mp hy with q | q
      · exact I.sub y q
      · rw [List.mem_singleton.mp q]; exact hx
    · intro pre h post eq
      rcases List.eq_nil_or_concat post with z | ⟨post', y, z⟩
      · subst z
        have : row = pre ∧ [x] = [h] := List.append_inj' eq rfl
        rw [← this.1, ← (List.cons.inj this.2).1]
        exact cs
      · rw [List.concat_eq_append] at z
        subst z
        have : row ++ [x] = (pre ++ h :: post') ++ [y] := by rw [eq, List.append_assoc]; rfl
        exact I.st pre h post' (List.append_inj' this rfl).1
end VL
namespace VL
open PySem PySem.Spec PyProof.Rows L2 TL
theorem NumOk.v {L : Lore} (hL : LoreOk L) {o : List Str} (N : NumOk L o) : NumV L o where
  len := Nat.le_antisymm (length_le_of_nodup N.nd fun x hx => (N.mem x).mp hx) (length_le_of_nodup hL.homeNd fun x hx => (N.mem x).mpr hx)
  nd := N.nd
  sub := fun x hx => (N.mem x).mp hx
  st := fun pre h post e => by
    have hh : h ∈ homeOf L := (N.mem h).mp (by rw [e]; simp)
    unfold stB
    by_cases q : ("" : Str) ∈ sidesO L h
    · rw [decide_eq_true q]; rfl
    · rcases N.st pre h post e with c | ⟨⟨a, ha, hr⟩, b, hb, nb⟩
      · exact absurd c q
      · rw [decide_eq_false q, Bool.false_or, Bool.and_eq_true]
        refine ⟨List.any_eq_true.mpr ⟨a, ha, decide_eq_true hr⟩, List.any_eq_true.mpr ⟨b, hb, decide_eq_true ?_⟩⟩
        have hbm : b ∈ homeOf L := by
          rcases side_at hL hh hb with z | z
          · exact absurd (z ▸ hb) q
          · exact (mem_sibsAt.mp z).1
        have := (N.mem b).mpr hbm
        rw [e] at this
        rcases List.mem_append.mp this with z | z
        · exact absurd z nb
        · rcases List.mem_cons.mp z with z | z
          · exact absurd (z ▸ hb) (sides_ne hL hh)
          · exact z
theorem NumOk.is {L : Lore} (hL : LoreOk L) {o : List Str} (N : NumOk L o) : isNum L (.tup (sts o)) = true := isNum_sts.mpr (N.v hL)
theorem NumOk.val {L : Lore} (hL : LoreOk L) {o : List Str} (N : NumOk L o) : ValD (.tup (sts o)) := valD_sts (fun x hx => home_ok hL x ((N.mem x).mp hx)) (by have := num_len hL N; omega)
end VL
namespace VL
open PySem PySem.Spec PyProof.Rows L2 TL
def ch : Nat → Nat → Nat
  | _, 0 => 1
  | 0, _ + 1 => 0
  | n + 1, k + 1 => ch n k + ch n (k + 1)
section
variable {α : Type}
end
def GoodR (sd : Str → List Str) (o : List Str) : Prop := ∀ pre h post, o = pre ++ h :: post → CanS sd pre h
structure Rows (H : List Str) (sd : Str → List Str) (l : List (List Str)) : Prop where
  nd : l.Nodup
  mem : ∀ o, o ∈ l ↔ o.Nodup ∧ (∀ x, x ∈ o ↔ x ∈ H) ∧ GoodR sd o
end VL
namespace VL
open PySem PySem.Spec PyProof.Rows L2 TL
theorem NumV.ok {L : Lore} (hL : LoreOk L) {o : List Str} (N : NumV L o) : o.Nodup ∧ (∀ x, x ∈ o ↔ x ∈ homeOf L) ∧ GoodR (sidesO L) o := by
  have mem : ∀ x, x ∈ o ↔ x ∈ homeOf L := fun x => ⟨N.sub x, fun hx => Classical.byContradiction fun z => by
    have := length_le_of_nodup (l := x :: o) (u := homeOf L) (List.nodup_cons.mpr ⟨z, N.nd⟩) fun y hy => by
      rcases List.mem_cons.mp hy with rfl | hy
      · exact hx
      · exact N.sub y hy
    have h2 := N.len
    simp only [List.length_cons] at this
    omega⟩
  refine ⟨N.nd, mem, fun pre h post e => ?_⟩
  have := N.st pre h post e
  unfold stB at this
  rw [Bool.or_eq_true, decide_eq_true_eq, Bool.and_eq_true] at this
  rcases this with q | ⟨q1, q2⟩
  · exact .inl q
  · obtain ⟨a, ha, h1⟩ := List.any_eq_true.mp q1
    obtain ⟨b, hb, h2⟩ := List.any_eq_true.mp q2
    rw [decide_eq_true_eq] at h1 h2
    refine .inr ⟨⟨a, ha, h1⟩, b, hb, fun z => ?_⟩
    have nd := N.nd
    rw [e] at nd
    exact (List.nodup_append.mp nd).2.2 b z b (by simp [h2]) rfl
end VL
namespace VL
open PySem PySem.Spec PyProof.Rows L2 TL
structure HandW (L : Lore) (a b : Str) : Prop where
  ok : LoreOk L
  ab : a ≠ b
  ha : a ∈ L.hs
  hb : b ∈ L.hs
  la : (a, L.g) ∈ L.ls
  lb : (b, L.g) ∈ L.ls
  lo : ∀ h ∈ L.hs, h ≠ a → h ≠ b → (h, a) ∈ L.ls ∧ (h, b) ∈ L.ls
  al : ∀ p ∈ L.ls, p.1 ≠ a → p.1 ≠ b → p.2 = a ∨ p.2 = b
section
variable {L : Lore} {a b : Str}
theorem HandW.come (W : HandW L a b) {x m : Str} (hx : x ∈ L.hs) (n : x ≠ m) : Comes L.ls L.g [m] x := by
  by_cases ea : x = a
  · subst ea; exact .step W.la .gate (by simpa using n)
  by_cases eb : x = b
  · subst eb; exact .step W.lb .gate (by simpa using n)
  obtain ⟨l1, l2⟩ := W.lo x hx ea eb
  by_cases em : m = a
  · subst em; exact .step l2 (.step W.lb .gate (by simpa using (Ne.symm W.ab))) (by simpa using n)
  · exact .step l1 (.step W.la .gate (by simpa using (Ne.symm em))) (by simpa using n)
theorem HandW.come0 (W : HandW L a b) {x : Str} (hx : x ∈ L.hs) : Comes L.ls L.g [] x := Comes.mono (fun p h => h) (fun _ h => absurd h (by simp)) (W.come hx (W.ok.gate_ne x hx))
theorem HandW.home (W : HandW L a b) : ∀ x, x ∈ homeOf L ↔ x ∈ L.hs := fun x => ⟨fun h => home_sub h, fun h => mem_homeL.mpr ⟨h, W.come0 h⟩⟩
theorem HandW.near (W : HandW L a b) {h : Str} (hh : h ∈ L.hs) : nearO L h = L.g := by
  refine (row_end ?_).1
  refine List.eq_nil_iff_forall_not_mem.mpr fun m hm => ?_
  obtain ⟨h1, h2, h3⟩ := mem_bdL.mp hm
  exact h3 (W.come hh h2)
theorem HandW.sib (W : HandW L a b) {h e : Str} (hh : h ∈ L.hs) (he : e ∈ L.hs) : sibO L h e = e := by
  unfold sibO
  rw [W.near hh, if_neg (W.ok.gate_ne e he), List.find?_cons_of_pos (by rw [W.near he]; simp)]
  rfl
theorem HandW.ne (W : HandW L a b) {x : Str} (hx : x ∈ L.hs) : x ≠ "" := fun z => pool_empty (z ▸ W.ok.pl x (by simp [hx]))
theorem HandW.sides (W : HandW L a b) {h : Str} (hh : h ∈ L.hs) (na : h ≠ a) (nb : h ≠ b) : ∀ t, t ∈ sidesO L h ↔ t = a ∨ t = b := fun t => by
  obtain ⟨l1, l2⟩ := W.lo h hh na nb
  constructor
  · intro ht
    obtain ⟨q, hq, rfl⟩ := List.mem_map.mp ht
    obtain ⟨u1, u2, u3⟩ := mem_useO.mp hq
    rw [u3]
    rcases W.al _ u1 na nb with e | e
    · have e : q.1 = a := e
      rw [e, W.sib hh W.ha]; exact .inl rfl
    · have e : q.1 = b := e
      rw [e, W.sib hh W.hb]; exact .inr rfl
  · rintro (rfl | rfl)
    · exact List.mem_map.mpr ⟨(t, t), mem_useO.mpr ⟨l1, W.come W.ha (Ne.symm na), (W.sib hh W.ha).symm⟩, rfl⟩
    · exact List.mem_map.mpr ⟨(t, t), mem_useO.mpr ⟨l2, W.come W.hb (Ne.symm nb), (W.sib hh W.hb).symm⟩, rfl⟩
end
end VL
namespace VL
open PySem PySem.Spec PyProof.Rows L2 TL
theorem tk_seqF {k : Nat} {f : Rho → M D} {ρ : Rho} {P : List D → Prop} (h : Tk k (f ρ) (fun d => ∃ l, d = .lst l ∧ P l)) : Tk k (seqF f ρ) P := by
  unfold seqF
  refine (h.bind (k2 := 0) fun d ⟨l, e, p⟩ => ?_).mono (by omega) fun _ h => h
  subst e
  exact Tk.ret p
section
variable {g a b c e : Str} {hs : List Str} {ls : List Lane}
end
end VL
namespace VL
open PySem PySem.Spec PyProof.Rows L2 TL
theorem law_runA {t : List D → M D} {k : Nat} (h : RightOk k t) (hk : k ≤ 100000) : ∀ s : Pot, Pk 0 s → ∃ s', t [.pot] s = .ok (.bl true) s' := by
  intro s hs
  obtain ⟨z, s', e, _, rfl⟩ := h 0 s hs (by omega)
  exact ⟨s', e⟩
end VL
namespace VL
open PySem PySem.Spec PyProof.Rows L2 TL
theorem char_ok (c : Char) : c.toNat < 0x110000 := by
  have h := c.valid
  have e : c.toNat = c.val.toNat := rfl
  unfold UInt32.isValidChar Nat.isValidChar at h
  omega
theorem okS_ofString (s : String) : OkS (PySem.Str.ofString s) := by
  unfold OkS
  rw [PySem.Str.ofString_eq_toList]
  rw [Array.all_eq_true']
  intro x hx
  have hx : x ∈ (s.toList.map Char.toNat) := by simpa using hx
  obtain ⟨c, _, rfl⟩ := List.mem_map.mp hx
  exact decide_eq_true (char_ok c)
theorem len_ofString (s : String) : (PySem.Str.ofString s).length = s.length := by
  rw [PySem.Str.ofString_eq_toList]
  show ((s.toList.map Char.toNat).toArray).size = s.length
  simp [String.length_toList]
theorem shows_int {i : Int} (h : i.natAbs < 10 ^ 20) : Shows (.int i) := by
  have hl : (PyData.shown (.int i)).length ≤ 30 := by
    show (PySem.Str.ofString (toString i)).length ≤ 30
    rw [len_ofString]
    have := int_text_length_le10 (a := i) (k := 20) (by decide) h
    omega
  have hb : i.natAbs.log2 < 1920 := by
    by_cases z : i.natAbs = 0
    · rw [z]; decide
    · refine (Nat.log2_lt z).mpr (Nat.lt_of_lt_of_le h ?_)
      exact Nat.le_trans (by decide : 10 ^ 20 ≤ 2 ^ 70) (Nat.pow_le_pow_right (by decide) (by decide))
  refine ⟨.int i, rfl, ?_, by simp [PyData.depth], ?_⟩
  · simp only [fineR, Bool.and_eq_true, decide_eq_true_eq]
    exact ⟨⟨okS_ofString (toString i), hl⟩, hb⟩
  · simp only [PyData.weight]
    split <;> omega
theorem range1_int {k : Nat} (h : k ≤ 1000000) : range1D [.int (k : Nat)] = some ((List.range k).map fun i => .int (i : Nat)) := by
  rw [range1_nat h]
  congr 1
  refine List.map_congr_left fun i _ => ?_
  rw [Int.zero_add]
end VL
namespace VL
open PySem PySem.Spec PyProof.Rows L2
def reprX : List D → Option D
  | [.dct []] => some (.str "{}")
  | ds => reprD ds
def rReprX (K : PySem.W.Frag) : List V → Hp → VK → Prop := fun xs H Q => rRepr K xs H Q ∨ (∃ a, xs = [.ref a] ∧ Rd H a (.dK []) ∧ Q (.str "{}") H)
theorem dk_reads {P : Program} {w : World} {H : Hp} {h : Heap} {a : Addr} (ok : ObjOk P w H h a (.dK [])) : Reads h (.ref a) (.dict []) [a] ∧ a ≠ sysModules := by
  obtain ⟨_, hs, vs, kv, o, es, ep, h1, h2, h3, _, h4, _⟩ := ok
  have ev : vs = [] := by
    have := kv.length
    cases vs with
    | nil => rfl
    | cons _ _ => simp at this
  subst ev
  have ee : es.toList = [] := List.length_eq_zero_iff.mp (by have := h4.length; simpa using this)
  refine ⟨.dict (as := []) (bs := []) h1 h2.1 h3 ?_ ?_, fun z => by rw [z] at hs; simp at hs⟩
  · rw [ee]; exact .nil
  · rw [ee]; exact .nil
theorem call_reprX {X : Cx} (hg : X.A.guards = some []) (hr : Room 0 X.A) : CallR X (.builtin "repr") (rReprX X.K) := by
  intro pins s σ H xs us Q I r h
  rcases h with h | ⟨a, rfl, hd, q⟩
  · exact call_reprG hg hr pins s σ H xs us Q I r h
  · obtain ⟨u, rfl, ru⟩ := vals1 r
    have un := hr.units
    obtain rfl : u = Value.ref a := ru
    obtain ⟨rd, ne⟩ : Reads s.heap (.ref a) (.dict []) [a] ∧ a ≠ sysModules := by
      rcases hd with hd | ⟨o, hd⟩
      · exact dk_reads (show ObjOk X.prog X.w H s.heap a (.dK []) from I.hok a _ hd)
      · exact dk_reads (show ObjOk X.prog X.w H s.heap a (.frz o (.dK [])) from I.hok a _ hd).2
    have sz : (PyData.dict []).shown.length ≤ sizeLine := by
      have : (PyData.dict []).shown.length = 2 := by decide +kernel
      rw [this, sizeLine_eq]; omega
    refine PySem.repr_of_reads' rd (by decide) (fun _ m => ?_) hg (by show X.A.units + 2 < _; omega) (fun _ _ e => e) (fun h' u tk hk => ⟨.str _, H, I.kept hk, ⟨_, rfl⟩, q⟩) sz
    simp only [List.mem_singleton] at m
    exact ne m.symm
theorem cd_reprX {W : Wd} : CallD W (rAt W) (rReprX W.K) reprX := by
  intro Hf H s xs ds z Q x0 hxs hg k
  unfold reprX at hg
  split at hg
  · cases hg
    obtain ⟨x, rfl, hx⟩ := hxs.one
    cases hx with
    | fr hx =>
      cases hx with
      | dct g _ r =>
        cases r
        exact .inr ⟨_, rfl, Same.rd x0.fh g, k _ _ _ x0 (.str _)⟩
    | dct _ g _ r =>
      cases r
      exact .inr ⟨_, rfl, .inl g, k _ _ _ x0 (.str _)⟩
  · exact .inl (cd_repr Hf H s xs ds z Q x0 hxs hg k)
section
variable {c : Ctx} {W : Wd} {Γ : Gam} {e : Expr} {pos : Pos}
theorem je_reprX {fs : Rho → M (List D)} {p : Pos} (ha : JAv c Γ [e] fs) (hgd : c.gd = true) (hg : c.sc.names.lookup ("repr" : Str) = some .globalImplicit) (hm : c.G.mg "repr" = none) (he : ∀ env, starEach [e] env = (false, eval e env) :: starEach [] env := by intro _; rfl) : JE c Γ (.Call (.Name "repr" p) [e] [] pos) (callF reprX fs) :=
  jx_callB (fun _ => elder_at) (fun X h => by
    have q := call_reprX (X := X) (h.gd hgd) (h.room.mono (Nat.zero_le _))
    rw [h.K] at q; exact q) cd_reprX (by decide +kernel) ha hg hm he
end
end VL
namespace VL
open PySem PySem.Spec PyProof.Rows L2
noncomputable def LB_l_made : Rho → M Fl := (seqS (setS 1 (lstF (consA (xmF 9 (slot 0)) (consA (xmF 12 (slot 0)) (consA (xmF 5 (slot 0)) (consA (xmF 26 (slot 0)) (consA (xmF 3 (slot 0)) nilA))))))) (seqS (extS 1 (lstF (consA (xmF 7 (slot 0)) (consA (xmF 13 (slot 0)) (consA (xmF 14 (slot 0)) (consA (xmF 10 (slot 0)) (consA (xmF 16 (slot 0)) nilA))))))) (seqS (extS 1 (lstF (consA (xmF 21 (slot 0)) (consA (xmF 27 (slot 0)) (consA (xmF 1 (slot 0)) (consA (xmF 17 (slot 0)) (consA (xmF 8 (slot 0)) (consA (xmF 19 (slot 0)) nilA)))))))) (seqS (extS 1 (lstF (consA (xmF 4 (slot 0)) (consA (xmF 22 (slot 0)) (consA (xmF 2 (slot 0)) (consA (xmF 18 (slot 0)) (consA (xmF 24 (slot 0)) nilA))))))) (seqS (extS 1 (lstF (consA (xmF 23 (slot 0)) (consA (xmF 25 (slot 0)) (consA (xmF 6 (slot 0)) (consA (xmF 11 (slot 0)) (consA (xmF 15 (slot 0)) nilA))))))) (seqS (extS 1 (lstF (consA (xmF 20 (slot 0)) nilA))) (retS (slot 1))))))))
noncomputable def LB_l_marks : Rho → M Fl := (seqS (setS 1 (lstF (consA (isiF (isExc [0, 1, 2, 3, 4, 5, 6, 7, 8, 9, 10, 11, 12, 13, 14, 15, 16, 17, 18, 19, 20, 21, 22, 23, 24, 25, 26, 27] (fun i => decide (i = 9)) false) (slot 0)) (consA (isiF (isExc [0, 1, 2, 3, 4, 5, 6, 7, 8, 9, 10, 11, 12, 13, 14, 15, 16, 17, 18, 19, 20, 21, 22, 23, 24, 25, 26, 27] (fun i => decide (i = 12)) false) (slot 0)) (consA (isiF (isExc [0, 1, 2, 3, 4, 5, 6, 7, 8, 9, 10, 11, 12, 13, 14, 15, 16, 17, 18, 19, 20, 21, 22, 23, 24, 25, 26, 27] (fun i => decide (i = 5)) false) (slot 0)) nilA))))) (seqS (extS 1 (lstF (consA (isiF (isExc [0, 1, 2, 3, 4, 5, 6, 7, 8, 9, 10, 11, 12, 13, 14, 15, 16, 17, 18, 19, 20, 21, 22, 23, 24, 25, 26, 27] (fun i => decide (i = 26)) false) (slot 0)) (consA (isiF (isExc [0, 1, 2, 3, 4, 5, 6, 7, 8, 9, 10, 11, 12, 13, 14, 15, 16, 17, 18, 19, 20, 21, 22, 23, 24, 25, 26, 27] (fun i => decide (i = 3)) false) (slot 0)) (consA (isiF (isExc [0, 1, 2, 3, 4, 5, 6, 7, 8, 9, 10, 11, 12, 13, 14, 15, 16, 17, 18, 19, 20, 21, 22, 23, 24, 25, 26, 27] (fun i => decide (i = 7)) false) (slot 0)) nilA))))) (seqS (extS 1 (lstF (consA (isiF (isExc [0, 1, 2, 3, 4, 5, 6, 7, 8, 9, 10, 11, 12, 13, 14, 15, 16, 17, 18, 19, 20, 21, 22, 23, 24, 25, 26, 27] (fun i => decide (i = 13)) false) (slot 0)) (consA (isiF (isExc [0, 1, 2, 3, 4, 5, 6, 7, 8, 9, 10, 11, 12, 13, 14, 15, 16, 17, 18, 19, 20, 21, 22, 23, 24, 25, 26, 27] (fun i => decide (i = 14)) false) (slot 0)) (consA (isiF (isExc [0, 1, 2, 3, 4, 5, 6, 7, 8, 9, 10, 11, 12, 13, 14, 15, 16, 17, 18, 19, 20, 21, 22, 23, 24, 25, 26, 27] (fun i => decide (i = 10)) false) (slot 0)) nilA))))) (seqS (extS 1 (lstF (consA (isiF (isExc [0, 1, 2, 3, 4, 5, 6, 7, 8, 9, 10, 11, 12, 13, 14, 15, 16, 17, 18, 19, 20, 21, 22, 23, 24, 25, 26, 27] (fun i => decide (i = 16)) false) (slot 0)) (consA (isiF (isExc [0, 1, 2, 3, 4, 5, 6, 7, 8, 9, 10, 11, 12, 13, 14, 15, 16, 17, 18, 19, 20, 21, 22, 23, 24, 25, 26, 27] (fun i => decide (i = 21)) false) (slot 0)) (consA (isiF (isExc [0, 1, 2, 3, 4, 5, 6, 7, 8, 9, 10, 11, 12, 13, 14, 15, 16, 17, 18, 19, 20, 21, 22, 23, 24, 25, 26, 27] (fun i => decide (i = 27)) false) (slot 0)) nilA))))) (seqS (extS 1 (lstF (consA (isiF (isExc [0, 1, 2, 3, 4, 5, 6, 7, 8, 9, 10, 11, 12, 13, 14, 15, 16, 17, 18, 19, 20, 21, 22, 23, 24, 25, 26, 27] (fun i => decide (i = 1)) false) (slot 0)) (consA (isiF (isExc [0, 1, 2, 3, 4, 5, 6, 7, 8, 9, 10, 11, 12, 13, 14, 15, 16, 17, 18, 19, 20, 21, 22, 23, 24, 25, 26, 27] (fun i => decide (i = 17)) false) (slot 0)) (consA (isiF (isExc [0, 1, 2, 3, 4, 5, 6, 7, 8, 9, 10, 11, 12, 13, 14, 15, 16, 17, 18, 19, 20, 21, 22, 23, 24, 25, 26, 27] (fun i => decide (i = 8)) false) (slot 0)) nilA))))) (seqS (extS 1 (lstF (consA (isiF (isExc [0, 1, 2, 3, 4, 5, 6, 7, 8, 9, 10, 11, 12, 13, 14, 15, 16, 17, 18, 19, 20, 21, 22, 23, 24, 25, 26, 27] (fun i => decide (i = 19)) false) (slot 0)) (consA (isiF (isExc [0, 1, 2, 3, 4, 5, 6, 7, 8, 9, 10, 11, 12, 13, 14, 15, 16, 17, 18, 19, 20, 21, 22, 23, 24, 25, 26, 27] (fun i => decide (i = 4)) false) (slot 0)) (consA (isiF (isExc [0, 1, 2, 3, 4, 5, 6, 7, 8, 9, 10, 11, 12, 13, 14, 15, 16, 17, 18, 19, 20, 21, 22, 23, 24, 25, 26, 27] (fun i => decide (i = 22)) false) (slot 0)) nilA))))) (seqS (extS 1 (lstF (consA (isiF (isExc [0, 1, 2, 3, 4, 5, 6, 7, 8, 9, 10, 11, 12, 13, 14, 15, 16, 17, 18, 19, 20, 21, 22, 23, 24, 25, 26, 27] (fun i => decide (i = 2)) false) (slot 0)) (consA (isiF (isExc [0, 1, 2, 3, 4, 5, 6, 7, 8, 9, 10, 11, 12, 13, 14, 15, 16, 17, 18, 19, 20, 21, 22, 23, 24, 25, 26, 27] (fun i => decide (i = 18)) false) (slot 0)) (consA (isiF (isExc [0, 1, 2, 3, 4, 5, 6, 7, 8, 9, 10, 11, 12, 13, 14, 15, 16, 17, 18, 19, 20, 21, 22, 23, 24, 25, 26, 27] (fun i => decide (i = 24)) false) (slot 0)) nilA))))) (seqS (extS 1 (lstF (consA (isiF (isExc [0, 1, 2, 3, 4, 5, 6, 7, 8, 9, 10, 11, 12, 13, 14, 15, 16, 17, 18, 19, 20, 21, 22, 23, 24, 25, 26, 27] (fun i => decide (i = 23)) false) (slot 0)) (consA (isiF (isExc [0, 1, 2, 3, 4, 5, 6, 7, 8, 9, 10, 11, 12, 13, 14, 15, 16, 17, 18, 19, 20, 21, 22, 23, 24, 25, 26, 27] (fun i => decide (i = 25)) false) (slot 0)) (consA (isiF (isExc [0, 1, 2, 3, 4, 5, 6, 7, 8, 9, 10, 11, 12, 13, 14, 15, 16, 17, 18, 19, 20, 21, 22, 23, 24, 25, 26, 27] (fun i => decide (i = 6)) false) (slot 0)) nilA))))) (seqS (extS 1 (lstF (consA (isiF (isExc [0, 1, 2, 3, 4, 5, 6, 7, 8, 9, 10, 11, 12, 13, 14, 15, 16, 17, 18, 19, 20, 21, 22, 23, 24, 25, 26, 27] (fun i => decide (i = 11)) false) (slot 0)) (consA (isiF (isExc [0, 1, 2, 3, 4, 5, 6, 7, 8, 9, 10, 11, 12, 13, 14, 15, 16, 17, 18, 19, 20, 21, 22, 23, 24, 25, 26, 27] (fun i => decide (i = 15)) false) (slot 0)) (consA (isiF (isExc [0, 1, 2, 3, 4, 5, 6, 7, 8, 9, 10, 11, 12, 13, 14, 15, 16, 17, 18, 19, 20, 21, 22, 23, 24, 25, 26, 27] (fun i => decide (i = 20)) false) (slot 0)) nilA))))) (retS (slot 1)))))))))))
noncomputable def LB_R00 (t_l_made : List D → M D) (t_l_marks : List D → M D) (t_l_odd : List D → M D) (t_l_take : List D → M D) : Rho → M Fl := (seqS (forS (seqF (bin catD (lcF [5] (rngF range1D (consA (fun _ => pure (.int 5)) nilA)) (tgN 5) (fun _ => pure true) (fnF 1 t_l_odd [] (consA (slot 0) nilA))) (lstF (consA (fnF 2 t_l_take [] (consA (slot 0) (consA (bin powD (fun _ => pure (.int 10)) (fun _ => pure (.int 9))) nilA))) nilA)))) (tgN 1) (seqS (forS (rngF enumD1 (consA (fnF 1 t_l_made [] (consA (slot 1) nilA)) nilA)) (tgT 2 (tgCons (tgN 2) (tgCons (tgN 3) tgNil))) (seqS (ifS (tst (bin neD (fnF 1 t_l_marks [] (consA (slot 3) nilA)) (lcF [6] (rngF range1D (consA (fun _ => pure (.int 27)) nilA)) (tgN 6) (fun _ => pure true) (bin eqD (slot 6) (slot 2))))) (retS (fun _ => pure (.bl false))) skip) (seqS (ifS (orB (notB (tst (isiF (isExc [0, 1, 2, 3, 4, 5, 6, 7, 8, 9, 10, 11, 12, 13, 14, 15, 16, 17, 18, 19, 20, 21, 22, 23, 24, 25, 26, 27] (fun _ => true) false) (slot 3)))) (notB (tst (isiF (isExc [0, 1, 2, 3, 4, 5, 6, 7, 8, 9, 10, 11, 12, 13, 14, 15, 16, 17, 18, 19, 20, 21, 22, 23, 24, 25, 26, 27] (fun _ => true) true) (slot 3))))) (retS (fun _ => pure (.bl false))) skip) (ifS (tst (bin neD (callF reprX (consA (xvF [0, 1, 2, 3, 4, 5, 6, 7, 8, 9, 10, 11, 12, 13, 14, 15, 16, 17, 18, 19, 20, 21, 22, 23, 24, 25, 26, 27] (slot 3)) nilA)) (callF reprX (consA (slot 1) nilA)))) (retS (fun _ => pure (.bl false))) skip)))) (seqS (setS 4 (xmF 0 (slot 1))) (ifS (orB (tst (bin neD (callF reprX (consA (xvF [0, 1, 2, 3, 4, 5, 6, 7, 8, 9, 10, 11, 12, 13, 14, 15, 16, 17, 18, 19, 20, 21, 22, 23, 24, 25, 26, 27] (slot 4)) nilA)) (callF reprX (consA (slot 1) nilA)))) (orB (tst (bin inD (fun _ => pure (.bl true)) (fnF 1 t_l_marks [] (consA (slot 4) nilA)))) (notB (tst (isiF (isExc [0, 1, 2, 3, 4, 5, 6, 7, 8, 9, 10, 11, 12, 13, 14, 15, 16, 17, 18, 19, 20, 21, 22, 23, 24, 25, 26, 27] (fun _ => true) true) (slot 4)))))) (retS (fun _ => pure (.bl false))) skip)))) (retS (andV (notV (isiF (isExc [0, 1, 2, 3, 4, 5, 6, 7, 8, 9, 10, 11, 12, 13, 14, 15, 16, 17, 18, 19, 20, 21, 22, 23, 24, 25, 26, 27] (fun _ => true) false) (vexF (fun _ => pure (.int 0))))) (bin notInD (fun _ => pure (.bl true)) (fnF 1 t_l_marks [] (consA (vexF (fun _ => pure (.int 0))) nilA))))))
end VL
namespace VL
open PySem PySem.Spec PyProof.Rows L2 TL
def codes : List Nat := [9, 12, 5, 26, 3, 7, 13, 14, 10, 16, 21, 27, 1, 17, 8, 19, 4, 22, 2, 18, 24, 23, 25, 6, 11, 15, 20]
theorem xmF_pure {ci : Nat} {f : Rho → M D} {ρ : Rho} {d : D} (h : f ρ = pure d) : xmF ci f ρ = pure (.exc ci d) := by
  unfold xmF
  rw [h, m_pure_bind]
theorem xvF_pure {cs : List Nat} {f : Rho → M D} {ρ : Rho} {d z : D} (h : f ρ = pure d) (k : xvD cs d = some z) : xvF cs f ρ = pure z := by
  unfold xvF
  rw [h, m_pure_bind, k, opt_some]
def MadeXOk (t : List D → M D) : Prop := ∀ d : D, t [d] = pure (.lst (codes.map fun c => .exc c d))
theorem madeX_ok : MadeXOk (runD 2 LB_l_made) := by
  intro d
  refine runD_pure ?_
  unfold LB_l_made
  refine seqS_go (setS_pure (lstF_pure (consA_pure (xmF_pure (slot_at (i := 0) rfl)) (consA_pure (xmF_pure (slot_at (i := 0) rfl)) (consA_pure (xmF_pure (slot_at (i := 0) rfl)) (consA_pure (xmF_pure (slot_at (i := 0) rfl)) (consA_pure (xmF_pure (slot_at (i := 0) rfl)) rfl))))) (by simp))) ?_
  refine seqS_go (extS_pure (slot_at (i := 1) rfl) (lstF_pure (consA_pure (xmF_pure (slot_at (i := 0) rfl)) (consA_pure (xmF_pure (slot_at (i := 0) rfl)) (consA_pure (xmF_pure (slot_at (i := 0) rfl)) (consA_pure (xmF_pure (slot_at (i := 0) rfl)) (consA_pure (xmF_pure (slot_at (i := 0) rfl)) rfl))))) (by simp)) (by simp)) ?_
  refine seqS_go (extS_pure (slot_at (i := 1) rfl) (lstF_pure (consA_pure (xmF_pure (slot_at (i := 0) rfl)) (consA_pure (xmF_pure (slot_at (i := 0) rfl)) (consA_pure (xmF_pure (slot_at (i := 0) rfl)) (consA_pure (xmF_pure (slot_at (i := 0) rfl)) (consA_pure (xmF_pure (slot_at (i := 0) rfl)) (consA_pure (xmF_pure (slot_at (i := 0) rfl)) rfl)))))) (by simp)) (by simp)) ?_
  refine seqS_go (extS_pure (slot_at (i := 1) rfl) (lstF_pure (consA_pure (xmF_pure (slot_at (i := 0) rfl)) (consA_pure (xmF_pure (slot_at (i := 0) rfl)) (consA_pure (xmF_pure (slot_at (i := 0) rfl)) (consA_pure (xmF_pure (slot_at (i := 0) rfl)) (consA_pure (xmF_pure (slot_at (i := 0) rfl)) rfl))))) (by simp)) (by simp)) ?_
  refine seqS_go (extS_pure (slot_at (i := 1) rfl) (lstF_pure (consA_pure (xmF_pure (slot_at (i := 0) rfl)) (consA_pure (xmF_pure (slot_at (i := 0) rfl)) (consA_pure (xmF_pure (slot_at (i := 0) rfl)) (consA_pure (xmF_pure (slot_at (i := 0) rfl)) (consA_pure (xmF_pure (slot_at (i := 0) rfl)) rfl))))) (by simp)) (by simp)) ?_
  refine seqS_go (extS_pure (slot_at (i := 1) rfl) (lstF_pure (consA_pure (xmF_pure (slot_at (i := 0) rfl)) rfl) (by simp)) (by simp)) ?_
  exact retS_pure (slot_at (i := 1) rfl)
def MarksXOk (t : List D → M D) : Prop := ∀ (e : D) (m : Nat → Bool), (∀ j, isExc [0, 1, 2, 3, 4, 5, 6, 7, 8, 9, 10, 11, 12, 13, 14, 15, 16, 17, 18, 19, 20, 21, 22, 23, 24, 25, 26, 27] (fun i => decide (i = j)) false e = some (.bl (m j))) → t [e] = pure (.lst (codes.map fun j => .bl (m j)))
theorem marksX_ok : MarksXOk (runD 2 LB_l_marks) := by
  intro e m h
  refine runD_pure ?_
  unfold LB_l_marks
  refine seqS_go (setS_pure (lstF_pure (consA_pure (isiF_pure (slot_at (i := 0) rfl) (h _)) (consA_pure (isiF_pure (slot_at (i := 0) rfl) (h _)) (consA_pure (isiF_pure (slot_at (i := 0) rfl) (h _)) rfl))) (by simp))) ?_
  refine seqS_go (extS_pure (slot_at (i := 1) rfl) (lstF_pure (consA_pure (isiF_pure (slot_at (i := 0) rfl) (h _)) (consA_pure (isiF_pure (slot_at (i := 0) rfl) (h _)) (consA_pure (isiF_pure (slot_at (i := 0) rfl) (h _)) rfl))) (by simp)) (by simp)) ?_
  refine seqS_go (extS_pure (slot_at (i := 1) rfl) (lstF_pure (consA_pure (isiF_pure (slot_at (i := 0) rfl) (h _)) (consA_pure (isiF_pure (slot_at (i := 0) rfl) (h _)) (consA_pure (isiF_pure (slot_at (i := 0) rfl) (h _)) rfl))) (by simp)) (by simp)) ?_
  refine seqS_go (extS_pure (slot_at (i := 1) rfl) (lstF_pure (consA_pure (isiF_pure (slot_at (i := 0) rfl) (h _)) (consA_pure (isiF_pure (slot_at (i := 0) rfl) (h _)) (consA_pure (isiF_pure (slot_at (i := 0) rfl) (h _)) rfl))) (by simp)) (by simp)) ?_
  refine seqS_go (extS_pure (slot_at (i := 1) rfl) (lstF_pure (consA_pure (isiF_pure (slot_at (i := 0) rfl) (h _)) (consA_pure (isiF_pure (slot_at (i := 0) rfl) (h _)) (consA_pure (isiF_pure (slot_at (i := 0) rfl) (h _)) rfl))) (by simp)) (by simp)) ?_
  refine seqS_go (extS_pure (slot_at (i := 1) rfl) (lstF_pure (consA_pure (isiF_pure (slot_at (i := 0) rfl) (h _)) (consA_pure (isiF_pure (slot_at (i := 0) rfl) (h _)) (consA_pure (isiF_pure (slot_at (i := 0) rfl) (h _)) rfl))) (by simp)) (by simp)) ?_
  refine seqS_go (extS_pure (slot_at (i := 1) rfl) (lstF_pure (consA_pure (isiF_pure (slot_at (i := 0) rfl) (h _)) (consA_pure (isiF_pure (slot_at (i := 0) rfl) (h _)) (consA_pure (isiF_pure (slot_at (i := 0) rfl) (h _)) rfl))) (by simp)) (by simp)) ?_
  refine seqS_go (extS_pure (slot_at (i := 1) rfl) (lstF_pure (consA_pure (isiF_pure (slot_at (i := 0) rfl) (h _)) (consA_pure (isiF_pure (slot_at (i := 0) rfl) (h _)) (consA_pure (isiF_pure (slot_at (i := 0) rfl) (h _)) rfl))) (by simp)) (by simp)) ?_
  refine seqS_go (extS_pure (slot_at (i := 1) rfl) (lstF_pure (consA_pure (isiF_pure (slot_at (i := 0) rfl) (h _)) (consA_pure (isiF_pure (slot_at (i := 0) rfl) (h _)) (consA_pure (isiF_pure (slot_at (i := 0) rfl) (h _)) rfl))) (by simp)) (by simp)) ?_
  exact retS_pure (slot_at (i := 1) rfl)
def LoddMem (t : List D → M D) : Prop := Tk 1 (t [.pot]) (fun d => d ∈ oddL ++ oddM)
theorem odd_mem {t : List D → M D} (hO : OfOk t) : LoddMem (runD 2 (LB_l_odd t)) := by
  refine tk_run ?_
  unfold LB_l_odd
  refine tk_go (setS_pure (d := .lst oddL) rfl) (tk_ret (tk_fn (ds := [.pot, .lst (oddL ++ oddM)]) ?_ rfl ((hO (oddL ++ oddM) (by decide) (by decide)).imp fun _ h => h)))
  refine consA_pure (slot_at rfl) (consA_pure (bin_pure (slot_at rfl) (show _ = pure (.lst oddM) from rfl) ?_) rfl)
  rfl
def ShX (d : D) : Prop := ∃ t, OkS t ∧ reprX [d] = some (.str t)
theorem shX_of {d : D} (h : Shows d) (n : d ≠ .dct []) : ShX d := by
  obtain ⟨t, h1, h2⟩ := h.repr
  refine ⟨t, h1, ?_⟩
  unfold reprX
  split
  · exact absurd (by assumption) (by intro e; cases e; exact n rfl)
  · exact h2
def shB (d : D) : Bool := match toPy d with
  | some p => fineR p && (decide (p.depth ≤ 60) && decide (p.weight ≤ 100000))
  | none => false
theorem shB_ok {d : D} (h : shB d = true) : Shows d := by
  unfold shB at h
  split at h
  · rename_i p hp
    simp only [Bool.and_eq_true, decide_eq_true_eq] at h
    exact ⟨p, hp, h.1, h.2.1, h.2.2⟩
  · cases h
theorem odd_shX : ∀ d ∈ oddL ++ oddM, ShX d := by
  intro d hd
  have h0 : ((oddL ++ oddM).filter fun d => match d with | .dct _ => false | _ => true).all shB = true := by decide +kernel
  cases d with
  | dct l =>
    have : l = [] := by
      simp only [oddL, oddM, List.cons_append, List.nil_append, List.mem_cons, List.not_mem_nil, or_false, D.dct.injEq, reduceCtorEq, false_or] at hd
      exact hd
    subst this
    exact ⟨_, okS_k _ (by decide +kernel), rfl⟩
  | _ => exact shX_of (shB_ok (List.all_eq_true.mp h0 _ (List.mem_filter.mpr ⟨hd, rfl⟩))) (by intro z; cases z)
def TakeBig (t : List D → M D) : Prop := ∀ u : Int, 1 ≤ u → u < 1073741824 → Tk 1 (t [.pot, .int u]) (fun d => ∃ r : Nat, d = .int (r : Nat) ∧ ((r : Nat) : Int) < u)
theorem take_okB {c1 c2 c3 : Int} (h1 : 0 ≤ c1 ∧ c1 < 1000000) (h2 : 0 ≤ c2 ∧ c2 < 1000000) (h3 : 0 ≤ c3 ∧ c3 < 1000000) : TakeBig (runD 5 (LB_l_take c1 c2 c3)) := by
  intro u hu hu2 b s ⟨p1, p2, p3, p4, p5⟩ hb
  have hm : (0 : Int) < u := by omega
  have hlt : u < 1073741824 := hu2
  by_cases hpos : 0 < s.1
  · have e : runD 5 (LB_l_take c1 c2 c3) [.pot, .int u] s = .ok (.int (s.1 % u)) (s.1 / u, s.2.1, s.2.2) := by
      simp [runD, rho0, LB_l_take, seqS, ifS, tst, bin, callF, intD, consA, nilA, potSet, potW, potPut, setS, retS, endD, gtD, intI, modD, fdivD, hpos, hm, hlt, opt]
    have h0 := Int.emod_nonneg s.1 (by omega : u ≠ 0)
    have h1 := Int.emod_lt_of_pos s.1 hm
    refine ⟨_, _, e, ⟨Int.ediv_nonneg p1 (by omega), p2, p3, p4, by simpa using (by omega : s.2.2 ≤ b + 1)⟩, (s.1 % u).toNat, ?_, by omega⟩
    rw [Int.toNat_of_nonneg h0]
  · obtain ⟨p, hp, hp0, hp1⟩ : ∃ p : Int, idxD (.lst [.int 2147483647, .int 2147483629, .int 2147483587, .int 2147483579, .int 2147483563]) (.int ((s.2.2 + 1) % 5)) = some (.int p) ∧ 0 < p ∧ p < 2147483648 := by
      have g0 := Int.emod_nonneg (s.2.2 + 1) (by decide : (5 : Int) ≠ 0)
      have g1 := Int.emod_lt_of_pos (s.2.2 + 1) (by decide : (0 : Int) < 5)
      generalize (s.2.2 + 1) % 5 = z at g0 g1
      have : z = 0 ∨ z = 1 ∨ z = 2 ∨ z = 3 ∨ z = 4 := by omega
      rcases this with rfl | rfl | rfl | rfl | rfl <;> exact ⟨_, rfl, by decide, by decide⟩
    have hc : s.2.2 + 1 ≤ 100001 := by omega
    have hc0 : 0 ≤ s.2.2 + 1 := by omega
    have q1 : 0 ≤ c1 * (s.2.2 + 1) ∧ c1 * (s.2.2 + 1) ≤ 1000000 * 100001 := ⟨Int.mul_nonneg h1.1 hc0, Int.mul_le_mul (by omega) hc hc0 (by decide)⟩
    have q2 : 0 ≤ c1 * (s.2.2 + 1) * (s.2.2 + 1) ∧ c1 * (s.2.2 + 1) * (s.2.2 + 1) ≤ 1000000 * 100001 * 100001 := ⟨Int.mul_nonneg q1.1 hc0, Int.mul_le_mul q1.2 hc hc0 (by decide)⟩
    have q3 : (s.2.1 + c1 * (s.2.2 + 1) * (s.2.2 + 1) + c2).natAbs < 2 ^ 64 := by omega
    have q4 : 0 ≤ c3 * (s.2.2 + 1) ∧ c3 * (s.2.2 + 1) ≤ 1000000 * 100001 := ⟨Int.mul_nonneg h3.1 hc0, Int.mul_le_mul (by omega) hc hc0 (by decide)⟩
    have hb1 : ∀ x : Int, 0 ≤ x % p ∧ x % p < 2147483648 := fun x => ⟨Int.emod_nonneg _ (by omega), by have := Int.emod_lt_of_pos x hp0; omega⟩
    have hb2 := hb1 ((s.2.1 + c1 * (s.2.2 + 1) * (s.2.2 + 1) + c2) ^ 3)
    obtain ⟨r, e, h0, h1'⟩ : ∃ r : Int, runD 5 (LB_l_take c1 c2 c3) [.pot, .int u] s = .ok (.int r) (s.1, s.2.1, s.2.2 + 1) ∧ 0 ≤ r ∧ r < u := by
      generalize hB : (s.2.1 + c1 * (s.2.2 + 1) * (s.2.2 + 1) + c2) ^ 3 % p = B at hb2
      refine ⟨(B * (B % 10427 + c3 * (s.2.2 + 1))) % 2305843009213693907 / 137 % u, ?_, Int.emod_nonneg _ (by omega), Int.emod_lt_of_pos _ hm⟩
      have m1 : (-18446744073709551616 < c1 ∧ c1 < 18446744073709551616) ∨ (-18446744073709551616 < s.2.2 + 1 ∧ s.2.2 + 1 < 18446744073709551616) := .inl (by omega)
      have m2 : (-18446744073709551616 < c1 * (s.2.2 + 1) ∧ c1 * (s.2.2 + 1) < 18446744073709551616) ∨ (-18446744073709551616 < s.2.2 + 1 ∧ s.2.2 + 1 < 18446744073709551616) := .inl (by omega)
      have m3 : (-18446744073709551616 < c3 ∧ c3 < 18446744073709551616) ∨ (-18446744073709551616 < s.2.2 + 1 ∧ s.2.2 + 1 < 18446744073709551616) := .inl (by omega)
      have m4 : (-18446744073709551616 < B ∧ B < 18446744073709551616) ∨ (-18446744073709551616 < B % 10427 + c3 * (s.2.2 + 1) ∧ B % 10427 + c3 * (s.2.2 + 1) < 18446744073709551616) := .inl (by omega)
      have hpw : powD (.int (s.2.1 + c1 * (s.2.2 + 1) * (s.2.2 + 1) + c2)) (.int 3) = some (.int ((s.2.1 + c1 * (s.2.2 + 1) * (s.2.2 + 1) + c2) ^ 3)) := by
        unfold powD intI
        show (if (0 : Int) ≤ 3 ∧ (3 : Int) ≤ 1000000 ∧ _ then _ else _) = _
        rw [if_pos ⟨by decide, by decide, q3⟩]
        rfl
      have hpw : powD (.int (s.2.1 + c1 * (s.2.2 + 1) * (s.2.2 + 1) + c2)) (.int 3) = some (.int ((s.2.1 + c1 * (s.2.2 + 1) * (s.2.2 + 1) + c2) ^ 3)) := by
        unfold powD intI
        show (if (0 : Int) ≤ 3 ∧ (3 : Int) ≤ 1000000 ∧ _ then _ else _) = _
        rw [if_pos ⟨by decide, by decide, q3⟩]
        rfl
      have z0 : ifS (tst (bin gtD (potGet (slot 0) (fun _ => pure (.int 0))) (fun _ => pure (.int 0)))) (seqS (setS 2 (bin modD (callF intD (consA (potGet (slot 0) (fun _ => pure (.int 0))) nilA)) (slot 1))) (seqS (potSet (slot 0) (fun _ => pure (.int 0)) (bin fdivD (potGet (slot 0) (fun _ => pure (.int 0))) (slot 1))) (retS (slot 2)))) skip [some .pot, some (.int u), none, none, none] s = .ok (.nx [some .pot, some (.int u), none, none, none]) s := by
        simp [ifS, tst, bin, gtD, intI, opt, hpos, skip]
      have z1 := tk_y0 s [some (.int u), none, none, none]
      have z2 := tk_y1 (s.1, s.2.1, s.2.2 + 1) p [some (.int u), none, none, none] hp sz5
      have z3 := tk_y2 (s.1, s.2.1, s.2.2 + 1) p c1 c2 u hp0 (mul_ok m1) (mul_ok m2) hpw
      rw [show (s.1, s.2.1, s.2.2 + 1).2.1 + c1 * (s.1, s.2.1, s.2.2 + 1).2.2 * (s.1, s.2.1, s.2.2 + 1).2.2 + c2 = s.2.1 + c1 * (s.2.2 + 1) * (s.2.2 + 1) + c2 from rfl, hB] at z3
      have z4 := tk_y3 (s.1, s.2.1, s.2.2 + 1) p c3 u B (mul_ok m3) (mul_ok m4)
      have z5 := tk_y4 (s.1, s.2.1, s.2.2 + 1) p u (B * (B % 10427 + c3 * (s.2.2 + 1)) % 2305843009213693907) hm
      refine runD_rt ?_
      unfold LB_l_take
      show seqS _ _ [some .pot, some (.int u), none, none, none] s = _
      rw [seqS_run z0, seqS_run z1, seqS_run z2]
      show seqS _ _ [some .pot, some (.int u), none, some (.int p), none] (s.1, s.2.1, s.2.2 + 1) = _
      rw [seqS_run z3, seqS_run z4]
      exact z5
    refine ⟨_, _, e, ⟨p1, p2, p3, by simpa using hc0, by simpa using (by omega : s.2.2 + 1 ≤ b + 1)⟩, r.toNat, ?_, by omega⟩
    rw [Int.toNat_of_nonneg h0]
end VL
namespace VL
open PySem PySem.Spec PyProof.Rows L2 TL
abbrev CS : List Nat := [0, 1, 2, 3, 4, 5, 6, 7, 8, 9, 10, 11, 12, 13, 14, 15, 16, 17, 18, 19, 20, 21, 22, 23, 24, 25, 26, 27]
def blF (d : Option D) : Bool := match d with
  | some (.bl b) => !b
  | _ => false
theorem blF_ok {d : Option D} (h : blF d = true) : d = some (.bl false) := by
  unfold blF at h
  split at h
  · rename_i b
    cases b
    · rfl
    · cases h
  · cases h
theorem codes_cs : ∀ p ∈ codes.zipIdx, p.1 ∈ CS := by decide +kernel
theorem marks_ne : ∀ p ∈ codes.zipIdx, neD (.lst (codes.map fun j => .bl (decide (p.1 = j)))) (.lst ((List.range 27).map fun i => .bl (decide (((i : Nat) : Int) = ((p.2 : Nat) : Int))))) = some (.bl false) := by
  have h : codes.zipIdx.all (fun p => blF (neD (.lst (codes.map fun j => .bl (decide (p.1 = j)))) (.lst ((List.range 27).map fun i => .bl (decide (((i : Nat) : Int) = ((p.2 : Nat) : Int))))))) = true := by decide +kernel
  exact fun p hp => blF_ok (List.all_eq_true.mp h p hp)
theorem marks_in0 : inD (.bl true) (.lst (codes.map fun j => .bl (decide (0 = j)))) = some (.bl false) := blF_ok (by decide +kernel)
theorem marks_notIn : notInD (.bl true) (.lst (codes.map fun _ => .bl false)) = some (.bl true) := by
  have h : inD (.bl true) (.lst (codes.map fun _ => .bl false)) = some (.bl false) := blF_ok (by decide +kernel)
  unfold inD at h
  unfold notInD
  cases e : hasD (.bl true) (.lst (codes.map fun _ => .bl false)) with
  | none => rw [e] at h; cases h
  | some b =>
    rw [e] at h
    cases h
    rfl
theorem isx_at {c : Nat} {v : D} {g : Nat → Bool} {vx : Bool} (h : c ∈ CS) : isExc CS g vx (.exc c v) = some (.bl (g c)) := by
  show (if c ∈ CS then _ else _) = _
  rw [if_pos h]
theorem xv_at {c : Nat} {v : D} (h : c ∈ CS) : xvD CS (.exc c v) = some v := by
  show (if c ∈ CS then _ else _) = _
  rw [if_pos h]
theorem ne_sh {d : D} {fa fb : Rho → M (List D)} {ρ : Rho} (h : ShX d) (ha : fa ρ = pure [d]) (hb : fb ρ = pure [d]) : bin neD (callF reprX fa) (callF reprX fb) ρ = pure (.bl false) := by
  obtain ⟨t, h1, h2⟩ := h
  refine (bin_pure (callF_pure ha h2) (callF_pure hb h2) (ne_str h1 h1)).trans ?_
  simp
theorem enum_codes (v : D) : enumD1 [.lst (codes.map fun c => .exc c v)] = some (codes.zipIdx.map fun p => .tup [.int ((p.2 : Nat) : Int), .exc p.1 v]) := rfl
theorem shX_int {i : Int} (h : i.natAbs < 10 ^ 20) : ShX (.int i) := shX_of (shows_int h) (by intro z; cases z)
theorem rng_made {t : List D → M D} (h : MadeXOk t) {v : D} {x2 x3 x4 x5 x6 : Option D} : rngF enumD1 (consA (fnF 1 t [] (consA (slot 1) nilA)) nilA) [some .pot, some v, x2, x3, x4, x5, x6] = pure (codes.zipIdx.map fun p => .tup [.int ((p.2 : Nat) : Int), .exc p.1 v]) := by
  have e : consA (fnF 1 t [] (consA (slot 1) nilA)) nilA [some .pot, some v, x2, x3, x4, x5, x6] = pure [.lst (codes.map fun c => .exc c v)] := consA_pure (fnF_pure0 (ds := [v]) rfl rfl (h v)) rfl
  unfold rngF
  rw [e, m_pure_bind, enum_codes, opt_some]
def Fr7 (ρ : Rho) : Prop := ∃ x1 x2 x3 x4 x5 x6, ρ = [some D.pot, x1, x2, x3, x4, x5, x6]
theorem tk_forS {k1 k2 : Nat} {fi : Rho → M (List D)} {tg : D → Rho → Option Rho} {body : Rho → M Fl} {ρ : Rho} {P : List D → Prop} {Q : Fl → Prop} (h : Tk k1 (fi ρ) P) (q : ∀ l, P l → Tk k2 (forL tg body l ρ) Q) : Tk (k1 + k2) (forS fi tg body ρ) Q := by
  unfold forS
  exact h.bind q
theorem tk_forInv {tg : D → Rho → Option Rho} {body : Rho → M Fl} (P : Rho → Prop) (V : D → Prop) (l : List D) (hl : ∀ d ∈ l, V d) (ρ : Rho) (h0 : P ρ)
    (h : ∀ v ρ, V v → P ρ → ∃ ρ1, tg v ρ = some ρ1 ∧ Nx (body ρ1) P) : Tk 0 (forL tg body l ρ) (fun z => ∃ ρ', z = .nx ρ' ∧ P ρ') := by
  obtain ⟨ρ', e, p⟩ := forL_pre (tg := tg) (body := body) (id : D → D) (fun _ ρ => P ρ) l ρ h0 fun done a rest ρ e p => by
    obtain ⟨ρ1, h1, ρ2, h2, h3⟩ := h a ρ (hl a (by rw [e]; simp)) p
    exact ⟨ρ1, ρ2, h1, h2, h3⟩
  rw [List.map_id] at e
  exact tk_pure e ⟨_, rfl, p⟩
theorem k00_right {t_l_made t_l_marks t_l_odd t_l_take : List D → M D} (hT : TakeBig t_l_take) (hOd : LoddMem t_l_odd) (hMd : MadeXOk t_l_made) (hMk : MarksXOk t_l_marks) : RightOk 6 (runD 7 (LB_R00 t_l_made t_l_marks t_l_odd t_l_take)) := by
  refine tk_run ?_
  unfold LB_R00
  refine (tk_seq (k1 := 6) (k2 := 0) (P := fun z => ∃ ρ', z = .nx ρ' ∧ Fr7 ρ') ?_ (fun z ⟨ρ', e, _⟩ => ⟨ρ', e⟩) fun ρ' ⟨ρ2, e, x1, x2, x3, x4, x5, x6, e2⟩ => ?_).mono (by omega) fun _ h => h
  · refine Tk.mono (k := 6 + 0) (tk_forS (P := fun l => ∀ d ∈ l, ShX d) ?_ fun l hl => ?_) (by omega) fun _ h => h
    · refine tk_seqF ?_
      refine Tk.mono (k := 1 * 5 + 1) (tk_bin (P := fun d => ∃ ds, d = .lst ds ∧ ds.length = 5 ∧ ∀ d ∈ ds, ShX d) (P' := fun d => ∃ ds, d = .lst ds ∧ ds.length = 1 ∧ ∀ d ∈ ds, ShX d) ?_ ?_ ?_) (by omega) fun _ h => h
      · refine tk_lcF (l := (List.range 5).map fun i => .int ((0 : Int) + (i : Nat))) ?_ fun d hd => ⟨_, rfl, tk_fn (ds := [.pot]) rfl rfl (hOd.imp odd_shX)⟩
        unfold rngF
        rfl
      · refine tk_lst (P := fun ds => ds.length = 1 ∧ ∀ d ∈ ds, ShX d) ?_ fun ds h => ⟨by omega, ds, rfl, h⟩
        refine Tk.mono (k := 1 + 0) (tk_cons (P := ShX) (Q := fun ds => ds = []) (tk_fn (ds := [.pot, .int ((10 ^ 9 : Nat) : Int)]) ?_ rfl ((hT (10 ^ 9) (by decide) (by decide)).imp ?_)) (Tk.ret rfl) ?_) (by omega) fun _ h => h
        · rfl
        · rintro d ⟨i, rfl, hi⟩
          exact shX_int (by omega)
        · rintro d ds hd rfl
          exact ⟨rfl, by simpa using hd⟩
      · rintro _ _ ⟨a, rfl, ha, qa⟩ ⟨b, rfl, hb, qb⟩
        refine ⟨.lst (a ++ b), ?_, a ++ b, rfl, fun d hd => (List.mem_append.mp hd).elim (qa d) (qb d)⟩
        show (if _ then _ else _) = _
        rw [if_pos (sz_of (by omega))]
    · refine tk_forInv Fr7 ShX l hl _ ⟨_, _, _, _, _, _, rfl⟩ fun v ρ hv h => ?_
      obtain ⟨x1, x2, x3, x4, x5, x6, rfl⟩ := h
      refine ⟨_, rfl, nx_seq (P := fun ρ => ∃ y2 y3 y6, ρ = [some .pot, some v, y2, y3, x4, x5, y6]) ?_ ?_⟩
      · refine nx_for (fun p : Nat × Nat => .tup [.int ((p.2 : Nat) : Int), .exc p.1 v]) (fun _ ρ => ∃ y2 y3 y6, ρ = [some .pot, some v, y2, y3, x4, x5, y6]) codes.zipIdx (rng_made hMd) ⟨_, _, _, rfl⟩ ?_
        rintro done a rest _ e ⟨y2, y3, y6, rfl⟩
        have ha : a ∈ codes.zipIdx := by rw [e]; simp
        have hc := codes_cs a ha
        refine ⟨_, rfl, ?_⟩
        refine nx_seq (P := fun ρ => ∃ y6, ρ = [some .pot, some v, some (.int ((a.2 : Nat) : Int)), some (.exc a.1 v), x4, x5, y6]) (nx_ifF (tst_pure (bin_pure (fnF_pure0 (ds := [.exc a.1 v]) rfl rfl (hMk (.exc a.1 v) (fun j => decide (a.1 = j)) fun j => isx_at hc)) ?_ (marks_ne a ha))) (nx_skip ⟨_, rfl⟩)) ?_
        · have hr : rngF range1D (consA (fun _ => pure (.int 27)) nilA) [some .pot, some v, some (.int ((a.2 : Nat) : Int)), some (.exc a.1 v), x4, x5, y6] = pure ((List.range 27).map fun i : Nat => .int (i : Nat)) := by
            have e : consA (fun _ => pure (.int 27)) nilA [some .pot, some v, some (.int ((a.2 : Nat) : Int)), some (.exc a.1 v), x4, x5, y6] = pure [.int ((27 : Nat) : Int)] := rfl
            unfold rngF
            rw [e, m_pure_bind, range1_int (k := 27) (by omega), opt_some]
          exact lcF_ev0 hr (isMap_map _ _) fun i _ => compAt_mk rfl rfl (fun _ => bin_pure (slot_at (i := 6) rfl) (slot_at (i := 2) rfl) (eq_int _ _)) rfl rfl
        · rintro _ ⟨z6, rfl⟩
          refine nx_go (ρ1 := [some .pot, some v, some (.int ((a.2 : Nat) : Int)), some (.exc a.1 v), x4, x5, z6]) (ifS_f (orB_pure (notB_pure (tst_pure (isiF_pure (slot_at (i := 3) rfl) (isx_at hc)))) fun _ => notB_pure (tst_pure (isiF_pure (slot_at (i := 3) rfl) (isx_at hc)))) rfl skip_pure) ?_
          refine nx_ifF (tst_pure (ne_sh hv (consA_pure (xvF_pure (slot_at (i := 3) rfl) (xv_at hc)) rfl) (consA_pure (slot_at (i := 1) rfl) rfl))) (nx_skip ⟨_, _, _, rfl⟩)
      · rintro _ ⟨y2, y3, y6, rfl⟩
        refine nx_go (setS_pure (xmF_pure (slot_at (i := 1) rfl))) ?_
        refine nx_ifF ?_ (nx_skip ⟨_, _, _, _, _, _, rfl⟩)
        have hc : 0 ∈ CS := by decide
        refine (orB_pure (a := false) (b := false) (tst_pure (ne_sh hv (consA_pure (xvF_pure (slot_at (i := 4) rfl) (xv_at hc)) rfl) (consA_pure (slot_at (i := 1) rfl) rfl))) fun _ => ?_)
        refine (orB_pure (a := false) (b := false) (tst_pure (bin_pure rfl (fnF_pure0 (ds := [.exc 0 v]) rfl rfl (hMk (.exc 0 v) (fun j => decide (0 = j)) fun j => isx_at hc)) marks_in0)) fun _ => ?_)
        exact notB_pure (a := true) (tst_pure (isiF_pure (slot_at (i := 4) rfl) (isx_at hc)))
  · obtain rfl : ρ' = ρ2 := Fl.nx.inj e
    subst e2
    have e1 : notV (isiF (isExc CS (fun _ => true) false) (vexF fun _ => pure (.int 0))) [some .pot, x1, x2, x3, x4, x5, x6] = pure (.bl true) := notV_pure (a := false) (isiF_pure (d := .vex) rfl rfl)
    have e2 : bin notInD (fun _ => pure (.bl true)) (fnF 1 t_l_marks [] (consA (vexF fun _ => pure (.int 0)) nilA)) [some .pot, x1, x2, x3, x4, x5, x6] = pure (.bl true) := bin_pure rfl (fnF_pure0 (ds := [.vex]) rfl rfl (hMk .vex (fun _ => false) fun j => rfl)) marks_notIn
    exact tk_ret (tk_pure (andV_pure e1 fun _ => e2) rfl)
end VL
namespace VL
open PySem PySem.Spec PyProof.Rows L2
noncomputable def B_l_take : Rho → M Fl := (LB_l_take 99901 61 97)
noncomputable def F_l_take : List D → M D := runD 5 B_l_take
noncomputable def t_l_take : List D → M D := F_l_take
noncomputable def B_l_of : Rho → M Fl := (LB_l_of t_l_take)
noncomputable def F_l_of : List D → M D := runD 2 B_l_of
noncomputable def t_l_of : List D → M D := F_l_of
noncomputable def B_l_odd : Rho → M Fl := (LB_l_odd t_l_of)
noncomputable def F_l_odd : List D → M D := runD 2 B_l_odd
noncomputable def t_l_odd : List D → M D := F_l_odd
noncomputable def B_l_made : Rho → M Fl := (LB_l_made)
noncomputable def F_l_made : List D → M D := runD 2 B_l_made
noncomputable def t_l_made : List D → M D := F_l_made
noncomputable def B_l_marks : Rho → M Fl := (LB_l_marks)
noncomputable def F_l_marks : List D → M D := runD 2 B_l_marks
noncomputable def t_l_marks : List D → M D := F_l_marks
noncomputable def B_l_right : Rho → M Fl := (LB_R00 t_l_made t_l_marks t_l_odd t_l_take)
noncomputable def F_l_right : List D → M D := runD 7 B_l_right
noncomputable def t_l_right : List D → M D := F_l_right
end VL
namespace VL
open PySem PySem.Spec PyProof.Rows L2
def top (i : Nat) : Stmt := PySem.Challenge.pw_sparebooks_k00_errors_and_what_they_keep.main.body.getD i (.Pass ⟨0, 0, 0, 0⟩)
structure Tx (G : Glob) : Prop where
  b_ValueError : G.mg "ValueError" = none
  b_all : G.mg "all" = none
  b_enumerate : G.mg "enumerate" = none
  b_int : G.mg "int" = none
  b_isinstance : G.mg "isinstance" = none
  b_len : G.mg "len" = none
  b_range : G.mg "range" = none
  b_repr : G.mg "repr" = none
  xm_BadBook : XmG G "BadBook" 9
  xm_BadChoice : XmG G "BadChoice" 12
  xm_BadFall : XmG G "BadFall" 5
  xm_BadJournal : XmG G "BadJournal" 26
  xm_BadLane : XmG G "BadLane" 3
  xm_BadLanes : XmG G "BadLanes" 7
  xm_BadLengths : XmG G "BadLengths" 13
  xm_BadLetters : XmG G "BadLetters" 14
  xm_BadNumbering : XmG G "BadNumbering" 10
  xm_BadOffers : XmG G "BadOffers" 16
  xm_BadPair : XmG G "BadPair" 21
  xm_BadSay : XmG G "BadSay" 27
  xm_BadWeb : XmG G "BadWeb" 1
  xm_BadWishes : XmG G "BadWishes" 17
  xm_Cut : XmG G "Cut" 8
  xm_Down : XmG G "Down" 19
  xm_Full : XmG G "Full" 4
  xm_NoBooks : XmG G "NoBooks" 22
  xm_NoHouse : XmG G "NoHouse" 2
  xm_NoLane : XmG G "NoLane" 18
  xm_NoTrial : XmG G "NoTrial" 25
  xm_NothingToRedo : XmG G "NothingToRedo" 24
  xm_NothingToUndo : XmG G "NothingToUndo" 23
  xm_OtherHouses : XmG G "OtherHouses" 6
  xm_OtherWeb : XmG G "OtherWeb" 11
  xm_PostError : XmG G "PostError" 0
  xm_TooMany : XmG G "TooMany" 15
  xm_Up : XmG G "Up" 20
  xcs : ∀ i ∈ ([0, 1, 2, 3, 4, 5, 6, 7, 8, 9, 10, 11, 12, 13, 14, 15, 16, 17, 18, 19, 20, 21, 22, 23, 24, 25, 26, 27] : List Nat), XcC G.K (G.cls i)
  isx_BadBook : IsiE G (.ref (G.cls 9)) [0, 1, 2, 3, 4, 5, 6, 7, 8, 9, 10, 11, 12, 13, 14, 15, 16, 17, 18, 19, 20, 21, 22, 23, 24, 25, 26, 27] (fun i => decide (i = 9)) false
  isx_BadChoice : IsiE G (.ref (G.cls 12)) [0, 1, 2, 3, 4, 5, 6, 7, 8, 9, 10, 11, 12, 13, 14, 15, 16, 17, 18, 19, 20, 21, 22, 23, 24, 25, 26, 27] (fun i => decide (i = 12)) false
  isx_BadFall : IsiE G (.ref (G.cls 5)) [0, 1, 2, 3, 4, 5, 6, 7, 8, 9, 10, 11, 12, 13, 14, 15, 16, 17, 18, 19, 20, 21, 22, 23, 24, 25, 26, 27] (fun i => decide (i = 5)) false
  isx_BadJournal : IsiE G (.ref (G.cls 26)) [0, 1, 2, 3, 4, 5, 6, 7, 8, 9, 10, 11, 12, 13, 14, 15, 16, 17, 18, 19, 20, 21, 22, 23, 24, 25, 26, 27] (fun i => decide (i = 26)) false
  isx_BadLane : IsiE G (.ref (G.cls 3)) [0, 1, 2, 3, 4, 5, 6, 7, 8, 9, 10, 11, 12, 13, 14, 15, 16, 17, 18, 19, 20, 21, 22, 23, 24, 25, 26, 27] (fun i => decide (i = 3)) false
  isx_BadLanes : IsiE G (.ref (G.cls 7)) [0, 1, 2, 3, 4, 5, 6, 7, 8, 9, 10, 11, 12, 13, 14, 15, 16, 17, 18, 19, 20, 21, 22, 23, 24, 25, 26, 27] (fun i => decide (i = 7)) false
  isx_BadLengths : IsiE G (.ref (G.cls 13)) [0, 1, 2, 3, 4, 5, 6, 7, 8, 9, 10, 11, 12, 13, 14, 15, 16, 17, 18, 19, 20, 21, 22, 23, 24, 25, 26, 27] (fun i => decide (i = 13)) false
  isx_BadLetters : IsiE G (.ref (G.cls 14)) [0, 1, 2, 3, 4, 5, 6, 7, 8, 9, 10, 11, 12, 13, 14, 15, 16, 17, 18, 19, 20, 21, 22, 23, 24, 25, 26, 27] (fun i => decide (i = 14)) false
  isx_BadNumbering : IsiE G (.ref (G.cls 10)) [0, 1, 2, 3, 4, 5, 6, 7, 8, 9, 10, 11, 12, 13, 14, 15, 16, 17, 18, 19, 20, 21, 22, 23, 24, 25, 26, 27] (fun i => decide (i = 10)) false
  isx_BadOffers : IsiE G (.ref (G.cls 16)) [0, 1, 2, 3, 4, 5, 6, 7, 8, 9, 10, 11, 12, 13, 14, 15, 16, 17, 18, 19, 20, 21, 22, 23, 24, 25, 26, 27] (fun i => decide (i = 16)) false
  isx_BadPair : IsiE G (.ref (G.cls 21)) [0, 1, 2, 3, 4, 5, 6, 7, 8, 9, 10, 11, 12, 13, 14, 15, 16, 17, 18, 19, 20, 21, 22, 23, 24, 25, 26, 27] (fun i => decide (i = 21)) false
  isx_BadSay : IsiE G (.ref (G.cls 27)) [0, 1, 2, 3, 4, 5, 6, 7, 8, 9, 10, 11, 12, 13, 14, 15, 16, 17, 18, 19, 20, 21, 22, 23, 24, 25, 26, 27] (fun i => decide (i = 27)) false
  isx_BadWeb : IsiE G (.ref (G.cls 1)) [0, 1, 2, 3, 4, 5, 6, 7, 8, 9, 10, 11, 12, 13, 14, 15, 16, 17, 18, 19, 20, 21, 22, 23, 24, 25, 26, 27] (fun i => decide (i = 1)) false
  isx_BadWishes : IsiE G (.ref (G.cls 17)) [0, 1, 2, 3, 4, 5, 6, 7, 8, 9, 10, 11, 12, 13, 14, 15, 16, 17, 18, 19, 20, 21, 22, 23, 24, 25, 26, 27] (fun i => decide (i = 17)) false
  isx_Cut : IsiE G (.ref (G.cls 8)) [0, 1, 2, 3, 4, 5, 6, 7, 8, 9, 10, 11, 12, 13, 14, 15, 16, 17, 18, 19, 20, 21, 22, 23, 24, 25, 26, 27] (fun i => decide (i = 8)) false
  isx_Down : IsiE G (.ref (G.cls 19)) [0, 1, 2, 3, 4, 5, 6, 7, 8, 9, 10, 11, 12, 13, 14, 15, 16, 17, 18, 19, 20, 21, 22, 23, 24, 25, 26, 27] (fun i => decide (i = 19)) false
  isx_Full : IsiE G (.ref (G.cls 4)) [0, 1, 2, 3, 4, 5, 6, 7, 8, 9, 10, 11, 12, 13, 14, 15, 16, 17, 18, 19, 20, 21, 22, 23, 24, 25, 26, 27] (fun i => decide (i = 4)) false
  isx_NoBooks : IsiE G (.ref (G.cls 22)) [0, 1, 2, 3, 4, 5, 6, 7, 8, 9, 10, 11, 12, 13, 14, 15, 16, 17, 18, 19, 20, 21, 22, 23, 24, 25, 26, 27] (fun i => decide (i = 22)) false
  isx_NoHouse : IsiE G (.ref (G.cls 2)) [0, 1, 2, 3, 4, 5, 6, 7, 8, 9, 10, 11, 12, 13, 14, 15, 16, 17, 18, 19, 20, 21, 22, 23, 24, 25, 26, 27] (fun i => decide (i = 2)) false
  isx_NoLane : IsiE G (.ref (G.cls 18)) [0, 1, 2, 3, 4, 5, 6, 7, 8, 9, 10, 11, 12, 13, 14, 15, 16, 17, 18, 19, 20, 21, 22, 23, 24, 25, 26, 27] (fun i => decide (i = 18)) false
  isx_NoTrial : IsiE G (.ref (G.cls 25)) [0, 1, 2, 3, 4, 5, 6, 7, 8, 9, 10, 11, 12, 13, 14, 15, 16, 17, 18, 19, 20, 21, 22, 23, 24, 25, 26, 27] (fun i => decide (i = 25)) false
  isx_NothingToRedo : IsiE G (.ref (G.cls 24)) [0, 1, 2, 3, 4, 5, 6, 7, 8, 9, 10, 11, 12, 13, 14, 15, 16, 17, 18, 19, 20, 21, 22, 23, 24, 25, 26, 27] (fun i => decide (i = 24)) false
  isx_NothingToUndo : IsiE G (.ref (G.cls 23)) [0, 1, 2, 3, 4, 5, 6, 7, 8, 9, 10, 11, 12, 13, 14, 15, 16, 17, 18, 19, 20, 21, 22, 23, 24, 25, 26, 27] (fun i => decide (i = 23)) false
  isx_OtherHouses : IsiE G (.ref (G.cls 6)) [0, 1, 2, 3, 4, 5, 6, 7, 8, 9, 10, 11, 12, 13, 14, 15, 16, 17, 18, 19, 20, 21, 22, 23, 24, 25, 26, 27] (fun i => decide (i = 6)) false
  isx_OtherWeb : IsiE G (.ref (G.cls 11)) [0, 1, 2, 3, 4, 5, 6, 7, 8, 9, 10, 11, 12, 13, 14, 15, 16, 17, 18, 19, 20, 21, 22, 23, 24, 25, 26, 27] (fun i => decide (i = 11)) false
  isx_PostError : IsiE G (.ref (G.cls 0)) [0, 1, 2, 3, 4, 5, 6, 7, 8, 9, 10, 11, 12, 13, 14, 15, 16, 17, 18, 19, 20, 21, 22, 23, 24, 25, 26, 27] (fun _ => true) false
  isx_TooMany : IsiE G (.ref (G.cls 15)) [0, 1, 2, 3, 4, 5, 6, 7, 8, 9, 10, 11, 12, 13, 14, 15, 16, 17, 18, 19, 20, 21, 22, 23, 24, 25, 26, 27] (fun i => decide (i = 15)) false
  isx_Up : IsiE G (.ref (G.cls 20)) [0, 1, 2, 3, 4, 5, 6, 7, 8, 9, 10, 11, 12, 13, 14, 15, 16, 17, 18, 19, 20, 21, 22, 23, 24, 25, 26, 27] (fun i => decide (i = 20)) false
  isx_ValueError : IsiE G (.type "ValueError") [0, 1, 2, 3, 4, 5, 6, 7, 8, 9, 10, 11, 12, 13, 14, 15, 16, 17, 18, 19, 20, 21, 22, 23, 24, 25, 26, 27] (fun _ => true) true
abbrev s_l_take : Stmt := top 31
theorem sc_l_take : FnScope ["_law_pot_here", "_law_upto", "_law_digit", "_law_prime", "_law_blend"] ["_law_pot_here", "_law_upto"] (defScope s_l_take) := ⟨rfl, rfl, rfl, by decide +kernel, rfl, by decide +kernel, by decide +kernel⟩
theorem d_l_take {G : Glob} (T : Tx G) : ∀ P E, JSs (ctxOf G ["_law_pot_here", "_law_upto", "_law_digit", "_law_prime", "_law_blend"] (defScope s_l_take) 0 P E) (gam0 5) (gam0 5) (gam0 5) (defBody s_l_take) B_l_take := fun P E =>
  (jss_cons (js_if (jt_gt (JX.v (je_potGet (je_var 0 rfl (vis_of rfl) rfl) je_int)) (JX.v je_int)) (jss_cons (js_set 2 (fun _ => fits_sh) (je_mod (JX.v (je_int' (jav_cons (JX.v (je_potGet (je_var 0 rfl (vis_of rfl) rfl) je_int)) jav_nil) rfl T.b_int)) (JX.v (je_var 1 rfl (vis_of rfl) rfl))) rfl (loc_of rfl)) (jss_cons (js_potSet (je_fdiv (JX.v (je_potGet (je_var 0 rfl (vis_of rfl) rfl) je_int)) (JX.v (je_var 1 rfl (vis_of rfl) rfl))) (je_var 0 rfl (vis_of rfl) rfl) je_int (hw := by kernel_rfl)) (jss_one (js_ret (je_var 2 rfl (vis_of rfl) rfl))))) jss_nil) (jss_cons (js_potSet (je_add (JX.v (je_potGet (je_var 0 rfl (vis_of rfl) rfl) je_int)) (JX.v je_int)) (je_var 0 rfl (vis_of rfl) rfl) je_int (hw := by kernel_rfl)) (jss_cons (js_set 3 (fun _ => fits_sh) (je_idx (JX.fv (jf_lst (ja_cons je_int (ja_cons je_int (ja_cons je_int (ja_cons je_int (ja_cons je_int ja_nil))))))) (JX.v (je_mod (JX.v (je_int' (jav_cons (JX.v (je_potGet (je_var 0 rfl (vis_of rfl) rfl) je_int)) jav_nil) rfl T.b_int)) (JX.v je_int)))) rfl (loc_of rfl)) (jss_cons (js_set 4 (fun _ => fits_sh) (je_mod (JX.v (je_int' (jav_cons (JX.v (je_pow (JX.v (je_int' (jav_cons (JX.v (je_add (JX.v (je_add (JX.v (je_potGet (je_var 0 rfl (vis_of rfl) rfl) je_int)) (JX.v (je_mul (JX.v (je_mul (JX.v je_int) (JX.v (je_potGet (je_var 0 rfl (vis_of rfl) rfl) je_int)))) (JX.v (je_potGet (je_var 0 rfl (vis_of rfl) rfl) je_int)))))) (JX.v je_int))) jav_nil) rfl T.b_int)) (JX.v je_int))) jav_nil) rfl T.b_int)) (JX.v (je_var 3 rfl (vis_of rfl) rfl))) rfl (loc_of rfl)) (jss_cons (js_set 4 (fun _ => fits_sh) (je_mod (JX.v (je_int' (jav_cons (JX.v (je_mul (JX.v (je_var 4 rfl (vis_of rfl) rfl)) (JX.v (je_add (JX.v (je_mod (JX.v (je_int' (jav_cons (JX.v (je_var 4 rfl (vis_of rfl) rfl)) jav_nil) rfl T.b_int)) (JX.v je_int))) (JX.v (je_mul (JX.v je_int) (JX.v (je_potGet (je_var 0 rfl (vis_of rfl) rfl) je_int)))))))) jav_nil) rfl T.b_int)) (JX.v je_int)) rfl (loc_of rfl)) (jss_one (js_ret (je_mod (JX.v (je_int' (jav_cons (JX.v (je_fdiv (JX.v (je_var 4 rfl (vis_of rfl) rfl)) (JX.v je_int))) jav_nil) rfl T.b_int)) (JX.v (je_var 1 rfl (vis_of rfl) rfl))))))))))
abbrev s_l_of : Stmt := top 32
theorem sc_l_of : FnScope ["_law_pot_here", "_law_some"] ["_law_pot_here", "_law_some"] (defScope s_l_of) := ⟨rfl, rfl, rfl, by decide +kernel, rfl, by decide +kernel, by decide +kernel⟩
theorem d_l_of {G : Glob} (T : Tx G) (c_l_take_2 : FnI G "_law_take" 1 2 [] t_l_take) : ∀ P E, JSs (ctxOf G ["_law_pot_here", "_law_some"] (defScope s_l_of) 1 P E) (gam0 2) (gam0 2) (gam0 2) (defBody s_l_of) B_l_of := fun P E =>
  (jss_one (js_ret (je_idx (JX.v (je_var 1 rfl (vis_of rfl) rfl)) (JX.v (je_call c_l_take_2 (Nat.le_of_ble_eq_true rfl) (ja_cons (je_var 0 rfl (vis_of rfl) rfl) (ja_cons (je_len (jav_cons (JX.v (je_var 1 rfl (vis_of rfl) rfl)) jav_nil) rfl T.b_len) ja_nil)) rfl)))))
abbrev s_l_odd : Stmt := top 34
theorem sc_l_odd : FnScope ["_law_pot_here", "_law_some"] ["_law_pot_here"] (defScope s_l_odd) := ⟨rfl, rfl, rfl, by decide +kernel, rfl, by decide +kernel, by decide +kernel⟩
theorem d_l_odd {G : Glob} (T : Tx G) (c_l_of_2 : FnI G "_law_of" 2 2 [] t_l_of) : ∀ P E, JSs (ctxOf G ["_law_pot_here", "_law_some"] (defScope s_l_odd) 2 P E) (gam0 2) (gam0 2) (gam0 2) (defBody s_l_odd) B_l_odd := fun P E =>
  (jss_cons (js_set 1 (fun _ => fits_sh) (JX.fe (jf_lst (ja_cons je_non (ja_cons je_bl (ja_cons je_bl (ja_cons je_int (ja_cons je_int (ja_cons (je_neg (JX.v je_int)) (ja_cons (je_pow (JX.v je_int) (JX.v je_int)) (ja_cons je_str (ja_cons je_str (ja_cons je_str (ja_cons je_str (ja_cons (je_tup ja_nil) (ja_cons (JX.fe (jf_lst ja_nil)) (ja_cons (JX.fde jfd_empty) (ja_cons (je_tup (ja_cons (je_tup ja_nil) ja_nil)) (ja_cons (je_tup (ja_cons je_int ja_nil)) (ja_cons (je_tup (ja_cons je_str ja_nil)) (ja_cons (JX.fe (jf_lst (ja_cons je_int ja_nil))) ja_nil)))))))))))))))))))) rfl (loc_of rfl)) (jss_one (js_ret (je_call c_l_of_2 (Nat.le_of_ble_eq_true rfl) (ja_cons (je_var 0 rfl (vis_of rfl) rfl) (ja_cons (JX.fe (jf_cat (JX.v (je_var 1 rfl (vis_of rfl) rfl)) (JX.fv (jf_lst (ja_cons (je_tup (ja_cons je_str (ja_cons je_str ja_nil))) (ja_cons (je_tup (ja_cons je_str (ja_cons je_str ja_nil))) (ja_cons (je_tup (ja_cons je_str ja_nil)) (ja_cons je_str (ja_cons (je_tup (ja_cons (je_tup ja_nil) (ja_cons (je_tup ja_nil) ja_nil))) (ja_cons (je_tup (ja_cons je_str (ja_cons je_str (ja_cons je_str ja_nil)))) ja_nil)))))))))) ja_nil)) rfl))))
abbrev s_l_made : Stmt := top 35
theorem sc_l_made : FnScope ["_law_value", "_law_found"] ["_law_value"] (defScope s_l_made) := ⟨rfl, rfl, rfl, by decide +kernel, rfl, by decide +kernel, by decide +kernel⟩
theorem d_l_made {G : Glob} (T : Tx G) : ∀ P E, JSs (ctxOf G ["_law_value", "_law_found"] (defScope s_l_made) 2 P E) (gam0 2) (gam0 2) (gam0 2) (defBody s_l_made) B_l_made := fun P E =>
  (jss_cons (js_set 1 (fun _ => fits_ol) (jf_lst (ja_cons (je_xm (T.xm_BadBook.at_) rfl (je_var 0 rfl (vis_of rfl) rfl)) (ja_cons (je_xm (T.xm_BadChoice.at_) rfl (je_var 0 rfl (vis_of rfl) rfl)) (ja_cons (je_xm (T.xm_BadFall.at_) rfl (je_var 0 rfl (vis_of rfl) rfl)) (ja_cons (je_xm (T.xm_BadJournal.at_) rfl (je_var 0 rfl (vis_of rfl) rfl)) (ja_cons (je_xm (T.xm_BadLane.at_) rfl (je_var 0 rfl (vis_of rfl) rfl)) ja_nil)))))) rfl (loc_of rfl)) (jss_cons (js_extend 1 (JX.fv (jf_lst (ja_cons (je_xm (T.xm_BadLanes.at_) rfl (je_var 0 rfl (vis_of rfl) rfl)) (ja_cons (je_xm (T.xm_BadLengths.at_) rfl (je_var 0 rfl (vis_of rfl) rfl)) (ja_cons (je_xm (T.xm_BadLetters.at_) rfl (je_var 0 rfl (vis_of rfl) rfl)) (ja_cons (je_xm (T.xm_BadNumbering.at_) rfl (je_var 0 rfl (vis_of rfl) rfl)) (ja_cons (je_xm (T.xm_BadOffers.at_) rfl (je_var 0 rfl (vis_of rfl) rfl)) ja_nil))))))) rfl (vis_of rfl) rfl) (jss_cons (js_extend 1 (JX.fv (jf_lst (ja_cons (je_xm (T.xm_BadPair.at_) rfl (je_var 0 rfl (vis_of rfl) rfl)) (ja_cons (je_xm (T.xm_BadSay.at_) rfl (je_var 0 rfl (vis_of rfl) rfl)) (ja_cons (je_xm (T.xm_BadWeb.at_) rfl (je_var 0 rfl (vis_of rfl) rfl)) (ja_cons (je_xm (T.xm_BadWishes.at_) rfl (je_var 0 rfl (vis_of rfl) rfl)) (ja_cons (je_xm (T.xm_Cut.at_) rfl (je_var 0 rfl (vis_of rfl) rfl)) (ja_cons (je_xm (T.xm_Down.at_) rfl (je_var 0 rfl (vis_of rfl) rfl)) ja_nil)))))))) rfl (vis_of rfl) rfl) (jss_cons (js_extend 1 (JX.fv (jf_lst (ja_cons (je_xm (T.xm_Full.at_) rfl (je_var 0 rfl (vis_of rfl) rfl)) (ja_cons (je_xm (T.xm_NoBooks.at_) rfl (je_var 0 rfl (vis_of rfl) rfl)) (ja_cons (je_xm (T.xm_NoHouse.at_) rfl (je_var 0 rfl (vis_of rfl) rfl)) (ja_cons (je_xm (T.xm_NoLane.at_) rfl (je_var 0 rfl (vis_of rfl) rfl)) (ja_cons (je_xm (T.xm_NothingToRedo.at_) rfl (je_var 0 rfl (vis_of rfl) rfl)) ja_nil))))))) rfl (vis_of rfl) rfl) (jss_cons (js_extend 1 (JX.fv (jf_lst (ja_cons (je_xm (T.xm_NothingToUndo.at_) rfl (je_var 0 rfl (vis_of rfl) rfl)) (ja_cons (je_xm (T.xm_NoTrial.at_) rfl (je_var 0 rfl (vis_of rfl) rfl)) (ja_cons (je_xm (T.xm_OtherHouses.at_) rfl (je_var 0 rfl (vis_of rfl) rfl)) (ja_cons (je_xm (T.xm_OtherWeb.at_) rfl (je_var 0 rfl (vis_of rfl) rfl)) (ja_cons (je_xm (T.xm_TooMany.at_) rfl (je_var 0 rfl (vis_of rfl) rfl)) ja_nil))))))) rfl (vis_of rfl) rfl) (jss_cons (js_extend 1 (JX.fv (jf_lst (ja_cons (je_xm (T.xm_Up.at_) rfl (je_var 0 rfl (vis_of rfl) rfl)) ja_nil))) rfl (vis_of rfl) rfl) (jss_freeze 1 (jss_one (js_ret (je_var 1 rfl (vis_of rfl) rfl))))))))))
abbrev s_l_marks : Stmt := top 36
theorem sc_l_marks : FnScope ["_law_error", "_law_found"] ["_law_error"] (defScope s_l_marks) := ⟨rfl, rfl, rfl, by decide +kernel, rfl, by decide +kernel, by decide +kernel⟩
theorem d_l_marks {G : Glob} (T : Tx G) : ∀ P E, JSs (ctxOf G ["_law_error", "_law_found"] (defScope s_l_marks) 0 P E) (gam0 2) (gam0 2) (gam0 2) (defBody s_l_marks) B_l_marks := fun P E =>
  (jss_cons (js_set 1 (fun _ => fits_ol) (jf_lst (ja_cons (je_isEC (cs := [0, 1, 2, 3, 4, 5, 6, 7, 8, 9, 10, 11, 12, 13, 14, 15, 16, 17, 18, 19, 20, 21, 22, 23, 24, 25, 26, 27]) (g := (fun i => decide (i = 9))) (vx := false) (j := 9) T.isx_BadBook rfl T.xm_BadBook.hm (JX.v (je_var 0 rfl (vis_of rfl) rfl)) rfl T.b_isinstance) (ja_cons (je_isEC (cs := [0, 1, 2, 3, 4, 5, 6, 7, 8, 9, 10, 11, 12, 13, 14, 15, 16, 17, 18, 19, 20, 21, 22, 23, 24, 25, 26, 27]) (g := (fun i => decide (i = 12))) (vx := false) (j := 12) T.isx_BadChoice rfl T.xm_BadChoice.hm (JX.v (je_var 0 rfl (vis_of rfl) rfl)) rfl T.b_isinstance) (ja_cons (je_isEC (cs := [0, 1, 2, 3, 4, 5, 6, 7, 8, 9, 10, 11, 12, 13, 14, 15, 16, 17, 18, 19, 20, 21, 22, 23, 24, 25, 26, 27]) (g := (fun i => decide (i = 5))) (vx := false) (j := 5) T.isx_BadFall rfl T.xm_BadFall.hm (JX.v (je_var 0 rfl (vis_of rfl) rfl)) rfl T.b_isinstance) ja_nil)))) rfl (loc_of rfl)) (jss_cons (js_extend 1 (JX.fv (jf_lst (ja_cons (je_isEC (cs := [0, 1, 2, 3, 4, 5, 6, 7, 8, 9, 10, 11, 12, 13, 14, 15, 16, 17, 18, 19, 20, 21, 22, 23, 24, 25, 26, 27]) (g := (fun i => decide (i = 26))) (vx := false) (j := 26) T.isx_BadJournal rfl T.xm_BadJournal.hm (JX.v (je_var 0 rfl (vis_of rfl) rfl)) rfl T.b_isinstance) (ja_cons (je_isEC (cs := [0, 1, 2, 3, 4, 5, 6, 7, 8, 9, 10, 11, 12, 13, 14, 15, 16, 17, 18, 19, 20, 21, 22, 23, 24, 25, 26, 27]) (g := (fun i => decide (i = 3))) (vx := false) (j := 3) T.isx_BadLane rfl T.xm_BadLane.hm (JX.v (je_var 0 rfl (vis_of rfl) rfl)) rfl T.b_isinstance) (ja_cons (je_isEC (cs := [0, 1, 2, 3, 4, 5, 6, 7, 8, 9, 10, 11, 12, 13, 14, 15, 16, 17, 18, 19, 20, 21, 22, 23, 24, 25, 26, 27]) (g := (fun i => decide (i = 7))) (vx := false) (j := 7) T.isx_BadLanes rfl T.xm_BadLanes.hm (JX.v (je_var 0 rfl (vis_of rfl) rfl)) rfl T.b_isinstance) ja_nil))))) rfl (vis_of rfl) rfl) (jss_cons (js_extend 1 (JX.fv (jf_lst (ja_cons (je_isEC (cs := [0, 1, 2, 3, 4, 5, 6, 7, 8, 9, 10, 11, 12, 13, 14, 15, 16, 17, 18, 19, 20, 21, 22, 23, 24, 25, 26, 27]) (g := (fun i => decide (i = 13))) (vx := false) (j := 13) T.isx_BadLengths rfl T.xm_BadLengths.hm (JX.v (je_var 0 rfl (vis_of rfl) rfl)) rfl T.b_isinstance) (ja_cons (je_isEC (cs := [0, 1, 2, 3, 4, 5, 6, 7, 8, 9, 10, 11, 12, 13, 14, 15, 16, 17, 18, 19, 20, 21, 22, 23, 24, 25, 26, 27]) (g := (fun i => decide (i = 14))) (vx := false) (j := 14) T.isx_BadLetters rfl T.xm_BadLetters.hm (JX.v (je_var 0 rfl (vis_of rfl) rfl)) rfl T.b_isinstance) (ja_cons (je_isEC (cs := [0, 1, 2, 3, 4, 5, 6, 7, 8, 9, 10, 11, 12, 13, 14, 15, 16, 17, 18, 19, 20, 21, 22, 23, 24, 25, 26, 27]) (g := (fun i => decide (i = 10))) (vx := false) (j := 10) T.isx_BadNumbering rfl T.xm_BadNumbering.hm (JX.v (je_var 0 rfl (vis_of rfl) rfl)) rfl T.b_isinstance) ja_nil))))) rfl (vis_of rfl) rfl) (jss_cons (js_extend 1 (JX.fv (jf_lst (ja_cons (je_isEC (cs := [0, 1, 2, 3, 4, 5, 6, 7, 8, 9, 10, 11, 12, 13, 14, 15, 16, 17, 18, 19, 20, 21, 22, 23, 24, 25, 26, 27]) (g := (fun i => decide (i = 16))) (vx := false) (j := 16) T.isx_BadOffers rfl T.xm_BadOffers.hm (JX.v (je_var 0 rfl (vis_of rfl) rfl)) rfl T.b_isinstance) (ja_cons (je_isEC (cs := [0, 1, 2, 3, 4, 5, 6, 7, 8, 9, 10, 11, 12, 13, 14, 15, 16, 17, 18, 19, 20, 21, 22, 23, 24, 25, 26, 27]) (g := (fun i => decide (i = 21))) (vx := false) (j := 21) T.isx_BadPair rfl T.xm_BadPair.hm (JX.v (je_var 0 rfl (vis_of rfl) rfl)) rfl T.b_isinstance) (ja_cons (je_isEC (cs := [0, 1, 2, 3, 4, 5, 6, 7, 8, 9, 10, 11, 12, 13, 14, 15, 16, 17, 18, 19, 20, 21, 22, 23, 24, 25, 26, 27]) (g := (fun i => decide (i = 27))) (vx := false) (j := 27) T.isx_BadSay rfl T.xm_BadSay.hm (JX.v (je_var 0 rfl (vis_of rfl) rfl)) rfl T.b_isinstance) ja_nil))))) rfl (vis_of rfl) rfl) (jss_cons (js_extend 1 (JX.fv (jf_lst (ja_cons (je_isEC (cs := [0, 1, 2, 3, 4, 5, 6, 7, 8, 9, 10, 11, 12, 13, 14, 15, 16, 17, 18, 19, 20, 21, 22, 23, 24, 25, 26, 27]) (g := (fun i => decide (i = 1))) (vx := false) (j := 1) T.isx_BadWeb rfl T.xm_BadWeb.hm (JX.v (je_var 0 rfl (vis_of rfl) rfl)) rfl T.b_isinstance) (ja_cons (je_isEC (cs := [0, 1, 2, 3, 4, 5, 6, 7, 8, 9, 10, 11, 12, 13, 14, 15, 16, 17, 18, 19, 20, 21, 22, 23, 24, 25, 26, 27]) (g := (fun i => decide (i = 17))) (vx := false) (j := 17) T.isx_BadWishes rfl T.xm_BadWishes.hm (JX.v (je_var 0 rfl (vis_of rfl) rfl)) rfl T.b_isinstance) (ja_cons (je_isEC (cs := [0, 1, 2, 3, 4, 5, 6, 7, 8, 9, 10, 11, 12, 13, 14, 15, 16, 17, 18, 19, 20, 21, 22, 23, 24, 25, 26, 27]) (g := (fun i => decide (i = 8))) (vx := false) (j := 8) T.isx_Cut rfl T.xm_Cut.hm (JX.v (je_var 0 rfl (vis_of rfl) rfl)) rfl T.b_isinstance) ja_nil))))) rfl (vis_of rfl) rfl) (jss_cons (js_extend 1 (JX.fv (jf_lst (ja_cons (je_isEC (cs := [0, 1, 2, 3, 4, 5, 6, 7, 8, 9, 10, 11, 12, 13, 14, 15, 16, 17, 18, 19, 20, 21, 22, 23, 24, 25, 26, 27]) (g := (fun i => decide (i = 19))) (vx := false) (j := 19) T.isx_Down rfl T.xm_Down.hm (JX.v (je_var 0 rfl (vis_of rfl) rfl)) rfl T.b_isinstance) (ja_cons (je_isEC (cs := [0, 1, 2, 3, 4, 5, 6, 7, 8, 9, 10, 11, 12, 13, 14, 15, 16, 17, 18, 19, 20, 21, 22, 23, 24, 25, 26, 27]) (g := (fun i => decide (i = 4))) (vx := false) (j := 4) T.isx_Full rfl T.xm_Full.hm (JX.v (je_var 0 rfl (vis_of rfl) rfl)) rfl T.b_isinstance) (ja_cons (je_isEC (cs := [0, 1, 2, 3, 4, 5, 6, 7, 8, 9, 10, 11, 12, 13, 14, 15, 16, 17, 18, 19, 20, 21, 22, 23, 24, 25, 26, 27]) (g := (fun i => decide (i = 22))) (vx := false) (j := 22) T.isx_NoBooks rfl T.xm_NoBooks.hm (JX.v (je_var 0 rfl (vis_of rfl) rfl)) rfl T.b_isinstance) ja_nil))))) rfl (vis_of rfl) rfl) (jss_cons (js_extend 1 (JX.fv (jf_lst (ja_cons (je_isEC (cs := [0, 1, 2, 3, 4, 5, 6, 7, 8, 9, 10, 11, 12, 13, 14, 15, 16, 17, 18, 19, 20, 21, 22, 23, 24, 25, 26, 27]) (g := (fun i => decide (i = 2))) (vx := false) (j := 2) T.isx_NoHouse rfl T.xm_NoHouse.hm (JX.v (je_var 0 rfl (vis_of rfl) rfl)) rfl T.b_isinstance) (ja_cons (je_isEC (cs := [0, 1, 2, 3, 4, 5, 6, 7, 8, 9, 10, 11, 12, 13, 14, 15, 16, 17, 18, 19, 20, 21, 22, 23, 24, 25, 26, 27]) (g := (fun i => decide (i = 18))) (vx := false) (j := 18) T.isx_NoLane rfl T.xm_NoLane.hm (JX.v (je_var 0 rfl (vis_of rfl) rfl)) rfl T.b_isinstance) (ja_cons (je_isEC (cs := [0, 1, 2, 3, 4, 5, 6, 7, 8, 9, 10, 11, 12, 13, 14, 15, 16, 17, 18, 19, 20, 21, 22, 23, 24, 25, 26, 27]) (g := (fun i => decide (i = 24))) (vx := false) (j := 24) T.isx_NothingToRedo rfl T.xm_NothingToRedo.hm (JX.v (je_var 0 rfl (vis_of rfl) rfl)) rfl T.b_isinstance) ja_nil))))) rfl (vis_of rfl) rfl) (jss_cons (js_extend 1 (JX.fv (jf_lst (ja_cons (je_isEC (cs := [0, 1, 2, 3, 4, 5, 6, 7, 8, 9, 10, 11, 12, 13, 14, 15, 16, 17, 18, 19, 20, 21, 22, 23, 24, 25, 26, 27]) (g := (fun i => decide (i = 23))) (vx := false) (j := 23) T.isx_NothingToUndo rfl T.xm_NothingToUndo.hm (JX.v (je_var 0 rfl (vis_of rfl) rfl)) rfl T.b_isinstance) (ja_cons (je_isEC (cs := [0, 1, 2, 3, 4, 5, 6, 7, 8, 9, 10, 11, 12, 13, 14, 15, 16, 17, 18, 19, 20, 21, 22, 23, 24, 25, 26, 27]) (g := (fun i => decide (i = 25))) (vx := false) (j := 25) T.isx_NoTrial rfl T.xm_NoTrial.hm (JX.v (je_var 0 rfl (vis_of rfl) rfl)) rfl T.b_isinstance) (ja_cons (je_isEC (cs := [0, 1, 2, 3, 4, 5, 6, 7, 8, 9, 10, 11, 12, 13, 14, 15, 16, 17, 18, 19, 20, 21, 22, 23, 24, 25, 26, 27]) (g := (fun i => decide (i = 6))) (vx := false) (j := 6) T.isx_OtherHouses rfl T.xm_OtherHouses.hm (JX.v (je_var 0 rfl (vis_of rfl) rfl)) rfl T.b_isinstance) ja_nil))))) rfl (vis_of rfl) rfl) (jss_cons (js_extend 1 (JX.fv (jf_lst (ja_cons (je_isEC (cs := [0, 1, 2, 3, 4, 5, 6, 7, 8, 9, 10, 11, 12, 13, 14, 15, 16, 17, 18, 19, 20, 21, 22, 23, 24, 25, 26, 27]) (g := (fun i => decide (i = 11))) (vx := false) (j := 11) T.isx_OtherWeb rfl T.xm_OtherWeb.hm (JX.v (je_var 0 rfl (vis_of rfl) rfl)) rfl T.b_isinstance) (ja_cons (je_isEC (cs := [0, 1, 2, 3, 4, 5, 6, 7, 8, 9, 10, 11, 12, 13, 14, 15, 16, 17, 18, 19, 20, 21, 22, 23, 24, 25, 26, 27]) (g := (fun i => decide (i = 15))) (vx := false) (j := 15) T.isx_TooMany rfl T.xm_TooMany.hm (JX.v (je_var 0 rfl (vis_of rfl) rfl)) rfl T.b_isinstance) (ja_cons (je_isEC (cs := [0, 1, 2, 3, 4, 5, 6, 7, 8, 9, 10, 11, 12, 13, 14, 15, 16, 17, 18, 19, 20, 21, 22, 23, 24, 25, 26, 27]) (g := (fun i => decide (i = 20))) (vx := false) (j := 20) T.isx_Up rfl T.xm_Up.hm (JX.v (je_var 0 rfl (vis_of rfl) rfl)) rfl T.b_isinstance) ja_nil))))) rfl (vis_of rfl) rfl) (jss_freeze 1 (jss_one (js_ret (je_var 1 rfl (vis_of rfl) rfl)))))))))))))
abbrev s_l_right : Stmt := top 37
theorem sc_l_right : FnScope ["_law_pot_here", "_law_value", "_law_number", "_law_error", "_law_base", "_law_lap", "_law_at"] ["_law_pot_here"] (defScope s_l_right) := ⟨rfl, rfl, rfl, by decide +kernel, rfl, by decide +kernel, by decide +kernel⟩
theorem d_l_right {G : Glob} (T : Tx G) (c_l_odd_1 : FnI G "_law_odd" 3 1 [] t_l_odd) (c_l_take_2 : FnI G "_law_take" 1 2 [] t_l_take) (c_l_made_1 : FnI G "_law_made" 3 1 [] t_l_made) (c_l_marks_1 : FnI G "_law_marks" 1 1 [] t_l_marks) : ∀ P E, JSs (ctxG G ["_law_pot_here", "_law_value", "_law_number", "_law_error", "_law_base", "_law_lap", "_law_at"] (defScope s_l_right) 3 P E) (gam0 7) (gam0 7) (gam0 7) (defBody s_l_right) B_l_right := fun P E =>
  (jss_cons (js_for (ji_seq (JX.fe (jf_cat (JX.fv (jf_lc (own := [("_law_lap", 5)]) (JI.v (ji_range1 (jav_cons (JX.v je_int) jav_nil) rfl T.b_range)) (blk_of (by kernel_rfl)) (jg_name 5 rfl (loc_of rfl) rfl) jts_nil (je_call c_l_odd_1 (Nat.le_of_ble_eq_true rfl) (ja_cons (je_var 0 rfl (vis_of rfl) rfl) ja_nil) rfl))) (JX.fv (jf_lst (ja_cons (je_call c_l_take_2 (Nat.le_of_ble_eq_true rfl) (ja_cons (je_var 0 rfl (vis_of rfl) rfl) (ja_cons (je_pow (JX.v je_int) (JX.v je_int)) ja_nil)) rfl) ja_nil)))))) (jg_name 1 rfl (loc_of rfl) rfl) (jss_cons (js_for (ji_enum1 (ja_cons (je_call c_l_made_1 (Nat.le_of_ble_eq_true rfl) (ja_cons (je_var 1 rfl (vis_of rfl) rfl) ja_nil) rfl) ja_nil) rfl T.b_enumerate) (jg_tup (n := 2) (jgs_cons (jg_name 2 rfl (loc_of rfl) rfl) (jgs_cons (jg_name 3 rfl (loc_of rfl) rfl) jgs_nil))) (jss_cons (js_if (jt_ne (JX.v (je_call c_l_marks_1 (Nat.le_of_ble_eq_true rfl) (ja_cons (je_var 3 rfl (vis_of rfl) rfl) ja_nil) rfl)) (JX.fv (jf_lc (own := [("_law_at", 6)]) (JI.v (ji_range1 (jav_cons (JX.v je_int) jav_nil) rfl T.b_range)) (blk_of (by kernel_rfl)) (jg_name 6 rfl (loc_of rfl) rfl) jts_nil (je_eq (JX.v (je_var 6 rfl (vis_of rfl) rfl)) (JX.v (je_var 2 rfl (vis_of rfl) rfl)))))) (jss_one (js_ret je_bl)) jss_nil) (jss_cons (js_if (JW.jt (jw_or (jt_not (jt_val (JX.v (je_isEC (cs := [0, 1, 2, 3, 4, 5, 6, 7, 8, 9, 10, 11, 12, 13, 14, 15, 16, 17, 18, 19, 20, 21, 22, 23, 24, 25, 26, 27]) (g := (fun _ => true)) (vx := false) (j := 0) T.isx_PostError rfl T.xm_PostError.hm (JX.v (je_var 3 rfl (vis_of rfl) rfl)) rfl T.b_isinstance)))) (jw_or1 (jt_not (jt_val (JX.v (je_isEB (cs := [0, 1, 2, 3, 4, 5, 6, 7, 8, 9, 10, 11, 12, 13, 14, 15, 16, 17, 18, 19, 20, 21, 22, 23, 24, 25, 26, 27]) (g := (fun _ => true)) (vx := true) T.isx_ValueError rfl T.b_ValueError btx_ValueError (JX.v (je_var 3 rfl (vis_of rfl) rfl)) rfl T.b_isinstance))))))) (jss_one (js_ret je_bl)) jss_nil) (jss_one (js_if (jt_ne (JX.v (je_reprX (jav_cons (JX.v (je_xv (cs := [0, 1, 2, 3, 4, 5, 6, 7, 8, 9, 10, 11, 12, 13, 14, 15, 16, 17, 18, 19, 20, 21, 22, 23, 24, 25, 26, 27]) T.xcs (je_var 3 rfl (vis_of rfl) rfl))) jav_nil) rfl rfl T.b_repr)) (JX.v (je_reprX (jav_cons (JX.v (je_var 1 rfl (vis_of rfl) rfl)) jav_nil) rfl rfl T.b_repr))) (jss_one (js_ret je_bl)) jss_nil))))) (jss_cons (js_set 4 (fun _ => fits_sh) (je_xm (T.xm_PostError.at_) rfl (je_var 1 rfl (vis_of rfl) rfl)) rfl (loc_of rfl)) (jss_one (js_if (JW.jt (jw_or (jt_ne (JX.v (je_reprX (jav_cons (JX.v (je_xv (cs := [0, 1, 2, 3, 4, 5, 6, 7, 8, 9, 10, 11, 12, 13, 14, 15, 16, 17, 18, 19, 20, 21, 22, 23, 24, 25, 26, 27]) T.xcs (je_var 4 rfl (vis_of rfl) rfl))) jav_nil) rfl rfl T.b_repr)) (JX.v (je_reprX (jav_cons (JX.v (je_var 1 rfl (vis_of rfl) rfl)) jav_nil) rfl rfl T.b_repr))) (jw_or (jt_in (JX.v je_bl) (JX.v (je_call c_l_marks_1 (Nat.le_of_ble_eq_true rfl) (ja_cons (je_var 4 rfl (vis_of rfl) rfl) ja_nil) rfl))) (jw_or1 (jt_not (jt_val (JX.v (je_isEB (cs := [0, 1, 2, 3, 4, 5, 6, 7, 8, 9, 10, 11, 12, 13, 14, 15, 16, 17, 18, 19, 20, 21, 22, 23, 24, 25, 26, 27]) (g := (fun _ => true)) (vx := true) T.isx_ValueError rfl T.b_ValueError btx_ValueError (JX.v (je_var 4 rfl (vis_of rfl) rfl)) rfl T.b_isinstance)))))))) (jss_one (js_ret je_bl)) jss_nil))))) (jss_one (js_ret (je_and (je_not (je_isEC (cs := [0, 1, 2, 3, 4, 5, 6, 7, 8, 9, 10, 11, 12, 13, 14, 15, 16, 17, 18, 19, 20, 21, 22, 23, 24, 25, 26, 27]) (g := (fun _ => true)) (vx := false) (j := 0) T.isx_PostError rfl T.xm_PostError.hm (JX.v (je_vex rfl T.b_ValueError btx_ValueError je_int)) rfl T.b_isinstance)) (je_one (je_notIn (JX.v je_bl) (JX.v (je_call c_l_marks_1 (Nat.le_of_ble_eq_true rfl) (ja_cons (je_vex rfl T.b_ValueError btx_ValueError je_int) ja_nil) rfl))))))))
end VL
namespace VL
open PySem PySem.Spec PyProof.Rows L2
theorem law_run : ∀ s : Pot, Pk 0 s → ∃ s', t_l_right [.pot] s = .ok (.bl true) s' := by
  have hT : TakeOk t_l_take := take_ok (by decide) (by decide) (by decide)
  have hO : OfOk t_l_of := of_ok hT
  have hTB : TakeBig t_l_take := take_okB (by decide) (by decide) (by decide)
  have hOM : LoddMem t_l_odd := odd_mem hO
  have hMX : MadeXOk t_l_made := madeX_ok
  have hMY : MarksXOk t_l_marks := marksX_ok
  have hR : RightOk 6 t_l_right := k00_right hTB hOM hMX hMY
  exact law_runA hR (by decide)
abbrev s_law : Stmt := top 38
abbrev s_l_cells : Stmt := top 33
abbrev s_l_pot : Stmt := top 30
theorem sc_law : FnScope ["_law_script", "_law_place"] ["_law_script"] (defScope s_law) := ⟨rfl, rfl, rfl, by decide +kernel, rfl, by decide +kernel, by decide +kernel⟩
theorem sc_l_cells : FnScope ["_law_script", "_law_limit"] ["_law_script", "_law_limit"] (defScope s_l_cells) := ⟨rfl, rfl, rfl, by decide +kernel, rfl, by decide +kernel, by decide +kernel⟩
theorem sc_l_pot : FnScope ["_law_script", "_law_place", "_law_cell", "_law_own", "_law_small"] ["_law_script", "_law_place"] (defScope s_l_pot) := ⟨rfl, rfl, rfl, by decide +kernel, rfl, by decide +kernel, by decide +kernel⟩
abbrev s_exc_init : Stmt := inClass (top 1) 0
theorem all_mk {l : PySem.W.OpenLaw} {w : World} {K : PySem.W.Frag} {h : Heap} {mg : Str → Option Value} {fa C_PostError C_BadWeb C_NoHouse C_BadLane C_Full C_BadFall C_OtherHouses C_BadLanes C_Cut C_BadBook C_BadNumbering C_OtherWeb C_BadChoice C_BadLengths C_BadLetters C_TooMany C_BadOffers C_BadWishes C_NoLane C_Down C_Up C_BadPair C_NoBooks C_NothingToUndo C_NothingToRedo C_NoTrial C_BadJournal C_BadSay f_xi cc_xi cda_xi f_l_cells f_l_pot f_law f_l_take f_l_of f_l_odd f_l_made f_l_marks f_l_right : Addr} (X : K.In h) (X2 : h.Ns mainGlobals mg) (hfa : mg "law" = some (.ref fa))
    {od_xi an_xi : Option Addr} {sl_xi : Array (Option Value)} {oc_xi kV_xi dc_xi pm_xi ct_xi : Value} {ccl_xi : Value} {cdd_xi : Option Addr} {vs_xi : Array Value} {ccs_xi : Array (Option Value)} {file_xi : Str} {tf_xi : Tok} {cl_xi : Value} {cld_xi : Option Addr} {csl_xi : Array (Option Value)} {cd_xi : ClassData} {od_l_cells an_l_cells : Option Addr} {sl_l_cells : Array (Option Value)} {oc_l_cells kV_l_cells dc_l_cells pm_l_cells cd_l_cells ct_l_cells : Value} {od_l_pot an_l_pot : Option Addr} {sl_l_pot : Array (Option Value)} {oc_l_pot kV_l_pot dc_l_pot pm_l_pot cd_l_pot ct_l_pot : Value} {od_law an_law : Option Addr} {sl_law : Array (Option Value)} {oc_law kV_law dc_law pm_law cd_law ct_law : Value} {od_l_take an_l_take : Option Addr} {sl_l_take : Array (Option Value)} {oc_l_take kV_l_take dc_l_take pm_l_take cd_l_take ct_l_take : Value} {od_l_of an_l_of : Option Addr} {sl_l_of : Array (Option Value)} {oc_l_of kV_l_of dc_l_of pm_l_of cd_l_of ct_l_of : Value} {od_l_odd an_l_odd : Option Addr} {sl_l_odd : Array (Option Value)} {oc_l_odd kV_l_odd dc_l_odd pm_l_odd cd_l_odd ct_l_odd : Value} {od_l_made an_l_made : Option Addr} {sl_l_made : Array (Option Value)} {oc_l_made kV_l_made dc_l_made pm_l_made cd_l_made ct_l_made : Value} {od_l_marks an_l_marks : Option Addr} {sl_l_marks : Array (Option Value)} {oc_l_marks kV_l_marks dc_l_marks pm_l_marks cd_l_marks ct_l_marks : Value} {od_l_right an_l_right : Option Addr} {sl_l_right : Array (Option Value)} {oc_l_right kV_l_right dc_l_right pm_l_right cd_l_right ct_l_right : Value}
    (aC_PostError : PySem.W.nsIn K mainGlobals "PostError" = some (some (.ref C_PostError)))
    (aC_BadWeb : PySem.W.nsIn K mainGlobals "BadWeb" = some (some (.ref C_BadWeb)))
    (aC_NoHouse : PySem.W.nsIn K mainGlobals "NoHouse" = some (some (.ref C_NoHouse)))
    (aC_BadLane : PySem.W.nsIn K mainGlobals "BadLane" = some (some (.ref C_BadLane)))
    (aC_Full : PySem.W.nsIn K mainGlobals "Full" = some (some (.ref C_Full)))
    (aC_BadFall : PySem.W.nsIn K mainGlobals "BadFall" = some (some (.ref C_BadFall)))
    (aC_OtherHouses : PySem.W.nsIn K mainGlobals "OtherHouses" = some (some (.ref C_OtherHouses)))
    (aC_BadLanes : PySem.W.nsIn K mainGlobals "BadLanes" = some (some (.ref C_BadLanes)))
    (aC_Cut : PySem.W.nsIn K mainGlobals "Cut" = some (some (.ref C_Cut)))
    (aC_BadBook : PySem.W.nsIn K mainGlobals "BadBook" = some (some (.ref C_BadBook)))
    (aC_BadNumbering : PySem.W.nsIn K mainGlobals "BadNumbering" = some (some (.ref C_BadNumbering)))
    (aC_OtherWeb : PySem.W.nsIn K mainGlobals "OtherWeb" = some (some (.ref C_OtherWeb)))
    (aC_BadChoice : PySem.W.nsIn K mainGlobals "BadChoice" = some (some (.ref C_BadChoice)))
    (aC_BadLengths : PySem.W.nsIn K mainGlobals "BadLengths" = some (some (.ref C_BadLengths)))
    (aC_BadLetters : PySem.W.nsIn K mainGlobals "BadLetters" = some (some (.ref C_BadLetters)))
    (aC_TooMany : PySem.W.nsIn K mainGlobals "TooMany" = some (some (.ref C_TooMany)))
    (aC_BadOffers : PySem.W.nsIn K mainGlobals "BadOffers" = some (some (.ref C_BadOffers)))
    (aC_BadWishes : PySem.W.nsIn K mainGlobals "BadWishes" = some (some (.ref C_BadWishes)))
    (aC_NoLane : PySem.W.nsIn K mainGlobals "NoLane" = some (some (.ref C_NoLane)))
    (aC_Down : PySem.W.nsIn K mainGlobals "Down" = some (some (.ref C_Down)))
    (aC_Up : PySem.W.nsIn K mainGlobals "Up" = some (some (.ref C_Up)))
    (aC_BadPair : PySem.W.nsIn K mainGlobals "BadPair" = some (some (.ref C_BadPair)))
    (aC_NoBooks : PySem.W.nsIn K mainGlobals "NoBooks" = some (some (.ref C_NoBooks)))
    (aC_NothingToUndo : PySem.W.nsIn K mainGlobals "NothingToUndo" = some (some (.ref C_NothingToUndo)))
    (aC_NothingToRedo : PySem.W.nsIn K mainGlobals "NothingToRedo" = some (some (.ref C_NothingToRedo)))
    (aC_NoTrial : PySem.W.nsIn K mainGlobals "NoTrial" = some (some (.ref C_NoTrial)))
    (aC_BadJournal : PySem.W.nsIn K mainGlobals "BadJournal" = some (some (.ref C_BadJournal)))
    (aC_BadSay : PySem.W.nsIn K mainGlobals "BadSay" = some (some (.ref C_BadSay)))
    (xi_f : PySem.W.findIn K (.ref C_PostError) "__init__" = some (some (.ref f_xi)))
    (xi_l : K.lookup f_xi = some ⟨oc_xi, od_xi, .func (PySem.W.ksFn "__init__" "PostError.__init__" (defArgs s_exc_init) (defBody s_exc_init) (defScope s_exc_init) .none kV_xi dc_xi pm_xi an_xi (.ref cda_xi) ct_xi cc_xi), sl_xi⟩)
    (xi_c : PySem.W.codeIn K (.ref cda_xi) "PostError.__init__" = true)
    (xi_d : K.lookup cda_xi = some ⟨ccl_xi, cdd_xi, .fields vs_xi, ccs_xi⟩)
    (xi_v : vs_xi[2]? = some (.str file_xi tf_xi))
    (xi_p : ((l.prog.main.file : Str) == file_xi) = true)
    (xi_t : (l.prog.main.scope.names.lookup ("super" : Str)).isSome = false)
    (xi_e : K.lookup cc_xi = some ⟨cl_xi, cld_xi, .cell (some (.ref C_PostError)), csl_xi⟩)
    (xi_o : PySem.W.clsIn K C_PostError = some cd_xi)
    (xi_a : PySem.W.nsIn K PySem.cStatics "thirdparty.any" = some none)
    (b_super : PySem.W.nsIn K mainGlobals "super" = some none)
    (xb_PostError : xmB K C_PostError f_xi C_PostError = true)
    (xb_BadWeb : xmB K C_PostError f_xi C_BadWeb = true)
    (xb_NoHouse : xmB K C_PostError f_xi C_NoHouse = true)
    (xb_BadLane : xmB K C_PostError f_xi C_BadLane = true)
    (xb_Full : xmB K C_PostError f_xi C_Full = true)
    (xb_BadFall : xmB K C_PostError f_xi C_BadFall = true)
    (xb_OtherHouses : xmB K C_PostError f_xi C_OtherHouses = true)
    (xb_BadLanes : xmB K C_PostError f_xi C_BadLanes = true)
    (xb_Cut : xmB K C_PostError f_xi C_Cut = true)
    (xb_BadBook : xmB K C_PostError f_xi C_BadBook = true)
    (xb_BadNumbering : xmB K C_PostError f_xi C_BadNumbering = true)
    (xb_OtherWeb : xmB K C_PostError f_xi C_OtherWeb = true)
    (xb_BadChoice : xmB K C_PostError f_xi C_BadChoice = true)
    (xb_BadLengths : xmB K C_PostError f_xi C_BadLengths = true)
    (xb_BadLetters : xmB K C_PostError f_xi C_BadLetters = true)
    (xb_TooMany : xmB K C_PostError f_xi C_TooMany = true)
    (xb_BadOffers : xmB K C_PostError f_xi C_BadOffers = true)
    (xb_BadWishes : xmB K C_PostError f_xi C_BadWishes = true)
    (xb_NoLane : xmB K C_PostError f_xi C_NoLane = true)
    (xb_Down : xmB K C_PostError f_xi C_Down = true)
    (xb_Up : xmB K C_PostError f_xi C_Up = true)
    (xb_BadPair : xmB K C_PostError f_xi C_BadPair = true)
    (xb_NoBooks : xmB K C_PostError f_xi C_NoBooks = true)
    (xb_NothingToUndo : xmB K C_PostError f_xi C_NothingToUndo = true)
    (xb_NothingToRedo : xmB K C_PostError f_xi C_NothingToRedo = true)
    (xb_NoTrial : xmB K C_PostError f_xi C_NoTrial = true)
    (xb_BadJournal : xmB K C_PostError f_xi C_BadJournal = true)
    (xb_BadSay : xmB K C_PostError f_xi C_BadSay = true)
    (isb_BadBook : isiB K (.ref C_BadBook) [(C_PostError, false), (C_BadWeb, false), (C_NoHouse, false), (C_BadLane, false), (C_Full, false), (C_BadFall, false), (C_OtherHouses, false), (C_BadLanes, false), (C_Cut, false), (C_BadBook, true), (C_BadNumbering, false), (C_OtherWeb, false), (C_BadChoice, false), (C_BadLengths, false), (C_BadLetters, false), (C_TooMany, false), (C_BadOffers, false), (C_BadWishes, false), (C_NoLane, false), (C_Down, false), (C_Up, false), (C_BadPair, false), (C_NoBooks, false), (C_NothingToUndo, false), (C_NothingToRedo, false), (C_NoTrial, false), (C_BadJournal, false), (C_BadSay, false)] false = true)
    (isb_BadChoice : isiB K (.ref C_BadChoice) [(C_PostError, false), (C_BadWeb, false), (C_NoHouse, false), (C_BadLane, false), (C_Full, false), (C_BadFall, false), (C_OtherHouses, false), (C_BadLanes, false), (C_Cut, false), (C_BadBook, false), (C_BadNumbering, false), (C_OtherWeb, false), (C_BadChoice, true), (C_BadLengths, false), (C_BadLetters, false), (C_TooMany, false), (C_BadOffers, false), (C_BadWishes, false), (C_NoLane, false), (C_Down, false), (C_Up, false), (C_BadPair, false), (C_NoBooks, false), (C_NothingToUndo, false), (C_NothingToRedo, false), (C_NoTrial, false), (C_BadJournal, false), (C_BadSay, false)] false = true)
    (isb_BadFall : isiB K (.ref C_BadFall) [(C_PostError, false), (C_BadWeb, false), (C_NoHouse, false), (C_BadLane, false), (C_Full, false), (C_BadFall, true), (C_OtherHouses, false), (C_BadLanes, false), (C_Cut, false), (C_BadBook, false), (C_BadNumbering, false), (C_OtherWeb, false), (C_BadChoice, false), (C_BadLengths, false), (C_BadLetters, false), (C_TooMany, false), (C_BadOffers, false), (C_BadWishes, false), (C_NoLane, false), (C_Down, false), (C_Up, false), (C_BadPair, false), (C_NoBooks, false), (C_NothingToUndo, false), (C_NothingToRedo, false), (C_NoTrial, false), (C_BadJournal, false), (C_BadSay, false)] false = true)
    (isb_BadJournal : isiB K (.ref C_BadJournal) [(C_PostError, false), (C_BadWeb, false), (C_NoHouse, false), (C_BadLane, false), (C_Full, false), (C_BadFall, false), (C_OtherHouses, false), (C_BadLanes, false), (C_Cut, false), (C_BadBook, false), (C_BadNumbering, false), (C_OtherWeb, false), (C_BadChoice, false), (C_BadLengths, false), (C_BadLetters, false), (C_TooMany, false), (C_BadOffers, false), (C_BadWishes, false), (C_NoLane, false), (C_Down, false), (C_Up, false), (C_BadPair, false), (C_NoBooks, false), (C_NothingToUndo, false), (C_NothingToRedo, false), (C_NoTrial, false), (C_BadJournal, true), (C_BadSay, false)] false = true)
    (isb_BadLane : isiB K (.ref C_BadLane) [(C_PostError, false), (C_BadWeb, false), (C_NoHouse, false), (C_BadLane, true), (C_Full, false), (C_BadFall, false), (C_OtherHouses, false), (C_BadLanes, false), (C_Cut, false), (C_BadBook, false), (C_BadNumbering, false), (C_OtherWeb, false), (C_BadChoice, false), (C_BadLengths, false), (C_BadLetters, false), (C_TooMany, false), (C_BadOffers, false), (C_BadWishes, false), (C_NoLane, false), (C_Down, false), (C_Up, false), (C_BadPair, false), (C_NoBooks, false), (C_NothingToUndo, false), (C_NothingToRedo, false), (C_NoTrial, false), (C_BadJournal, false), (C_BadSay, false)] false = true)
    (isb_BadLanes : isiB K (.ref C_BadLanes) [(C_PostError, false), (C_BadWeb, false), (C_NoHouse, false), (C_BadLane, false), (C_Full, false), (C_BadFall, false), (C_OtherHouses, false), (C_BadLanes, true), (C_Cut, false), (C_BadBook, false), (C_BadNumbering, false), (C_OtherWeb, false), (C_BadChoice, false), (C_BadLengths, false), (C_BadLetters, false), (C_TooMany, false), (C_BadOffers, false), (C_BadWishes, false), (C_NoLane, false), (C_Down, false), (C_Up, false), (C_BadPair, false), (C_NoBooks, false), (C_NothingToUndo, false), (C_NothingToRedo, false), (C_NoTrial, false), (C_BadJournal, false), (C_BadSay, false)] false = true)
    (isb_BadLengths : isiB K (.ref C_BadLengths) [(C_PostError, false), (C_BadWeb, false), (C_NoHouse, false), (C_BadLane, false), (C_Full, false), (C_BadFall, false), (C_OtherHouses, false), (C_BadLanes, false), (C_Cut, false), (C_BadBook, false), (C_BadNumbering, false), (C_OtherWeb, false), (C_BadChoice, false), (C_BadLengths, true), (C_BadLetters, false), (C_TooMany, false), (C_BadOffers, false), (C_BadWishes, false), (C_NoLane, false), (C_Down, false), (C_Up, false), (C_BadPair, false), (C_NoBooks, false), (C_NothingToUndo, false), (C_NothingToRedo, false), (C_NoTrial, false), (C_BadJournal, false), (C_BadSay, false)] false = true)
    (isb_BadLetters : isiB K (.ref C_BadLetters) [(C_PostError, false), (C_BadWeb, false), (C_NoHouse, false), (C_BadLane, false), (C_Full, false), (C_BadFall, false), (C_OtherHouses, false), (C_BadLanes, false), (C_Cut, false), (C_BadBook, false), (C_BadNumbering, false), (C_OtherWeb, false), (C_BadChoice, false), (C_BadLengths, false), (C_BadLetters, true), (C_TooMany, false), (C_BadOffers, false), (C_BadWishes, false), (C_NoLane, false), (C_Down, false), (C_Up, false), (C_BadPair, false), (C_NoBooks, false), (C_NothingToUndo, false), (C_NothingToRedo, false), (C_NoTrial, false), (C_BadJournal, false), (C_BadSay, false)] false = true)
    (isb_BadNumbering : isiB K (.ref C_BadNumbering) [(C_PostError, false), (C_BadWeb, false), (C_NoHouse, false), (C_BadLane, false), (C_Full, false), (C_BadFall, false), (C_OtherHouses, false), (C_BadLanes, false), (C_Cut, false), (C_BadBook, false), (C_BadNumbering, true), (C_OtherWeb, false), (C_BadChoice, false), (C_BadLengths, false), (C_BadLetters, false), (C_TooMany, false), (C_BadOffers, false), (C_BadWishes, false), (C_NoLane, false), (C_Down, false), (C_Up, false), (C_BadPair, false), (C_NoBooks, false), (C_NothingToUndo, false), (C_NothingToRedo, false), (C_NoTrial, false), (C_BadJournal, false), (C_BadSay, false)] false = true)
    (isb_BadOffers : isiB K (.ref C_BadOffers) [(C_PostError, false), (C_BadWeb, false), (C_NoHouse, false), (C_BadLane, false), (C_Full, false), (C_BadFall, false), (C_OtherHouses, false), (C_BadLanes, false), (C_Cut, false), (C_BadBook, false), (C_BadNumbering, false), (C_OtherWeb, false), (C_BadChoice, false), (C_BadLengths, false), (C_BadLetters, false), (C_TooMany, false), (C_BadOffers, true), (C_BadWishes, false), (C_NoLane, false), (C_Down, false), (C_Up, false), (C_BadPair, false), (C_NoBooks, false), (C_NothingToUndo, false), (C_NothingToRedo, false), (C_NoTrial, false), (C_BadJournal, false), (C_BadSay, false)] false = true)
    (isb_BadPair : isiB K (.ref C_BadPair) [(C_PostError, false), (C_BadWeb, false), (C_NoHouse, false), (C_BadLane, false), (C_Full, false), (C_BadFall, false), (C_OtherHouses, false), (C_BadLanes, false), (C_Cut, false), (C_BadBook, false), (C_BadNumbering, false), (C_OtherWeb, false), (C_BadChoice, false), (C_BadLengths, false), (C_BadLetters, false), (C_TooMany, false), (C_BadOffers, false), (C_BadWishes, false), (C_NoLane, false), (C_Down, false), (C_Up, false), (C_BadPair, true), (C_NoBooks, false), (C_NothingToUndo, false), (C_NothingToRedo, false), (C_NoTrial, false), (C_BadJournal, false), (C_BadSay, false)] false = true)
    (isb_BadSay : isiB K (.ref C_BadSay) [(C_PostError, false), (C_BadWeb, false), (C_NoHouse, false), (C_BadLane, false), (C_Full, false), (C_BadFall, false), (C_OtherHouses, false), (C_BadLanes, false), (C_Cut, false), (C_BadBook, false), (C_BadNumbering, false), (C_OtherWeb, false), (C_BadChoice, false), (C_BadLengths, false), (C_BadLetters, false), (C_TooMany, false), (C_BadOffers, false), (C_BadWishes, false), (C_NoLane, false), (C_Down, false), (C_Up, false), (C_BadPair, false), (C_NoBooks, false), (C_NothingToUndo, false), (C_NothingToRedo, false), (C_NoTrial, false), (C_BadJournal, false), (C_BadSay, true)] false = true)
    (isb_BadWeb : isiB K (.ref C_BadWeb) [(C_PostError, false), (C_BadWeb, true), (C_NoHouse, false), (C_BadLane, false), (C_Full, false), (C_BadFall, false), (C_OtherHouses, false), (C_BadLanes, false), (C_Cut, false), (C_BadBook, false), (C_BadNumbering, false), (C_OtherWeb, false), (C_BadChoice, false), (C_BadLengths, false), (C_BadLetters, false), (C_TooMany, false), (C_BadOffers, false), (C_BadWishes, false), (C_NoLane, false), (C_Down, false), (C_Up, false), (C_BadPair, false), (C_NoBooks, false), (C_NothingToUndo, false), (C_NothingToRedo, false), (C_NoTrial, false), (C_BadJournal, false), (C_BadSay, false)] false = true)
    (isb_BadWishes : isiB K (.ref C_BadWishes) [(C_PostError, false), (C_BadWeb, false), (C_NoHouse, false), (C_BadLane, false), (C_Full, false), (C_BadFall, false), (C_OtherHouses, false), (C_BadLanes, false), (C_Cut, false), (C_BadBook, false), (C_BadNumbering, false), (C_OtherWeb, false), (C_BadChoice, false), (C_BadLengths, false), (C_BadLetters, false), (C_TooMany, false), (C_BadOffers, false), (C_BadWishes, true), (C_NoLane, false), (C_Down, false), (C_Up, false), (C_BadPair, false), (C_NoBooks, false), (C_NothingToUndo, false), (C_NothingToRedo, false), (C_NoTrial, false), (C_BadJournal, false), (C_BadSay, false)] false = true)
    (isb_Cut : isiB K (.ref C_Cut) [(C_PostError, false), (C_BadWeb, false), (C_NoHouse, false), (C_BadLane, false), (C_Full, false), (C_BadFall, false), (C_OtherHouses, false), (C_BadLanes, false), (C_Cut, true), (C_BadBook, false), (C_BadNumbering, false), (C_OtherWeb, false), (C_BadChoice, false), (C_BadLengths, false), (C_BadLetters, false), (C_TooMany, false), (C_BadOffers, false), (C_BadWishes, false), (C_NoLane, false), (C_Down, false), (C_Up, false), (C_BadPair, false), (C_NoBooks, false), (C_NothingToUndo, false), (C_NothingToRedo, false), (C_NoTrial, false), (C_BadJournal, false), (C_BadSay, false)] false = true)
    (isb_Down : isiB K (.ref C_Down) [(C_PostError, false), (C_BadWeb, false), (C_NoHouse, false), (C_BadLane, false), (C_Full, false), (C_BadFall, false), (C_OtherHouses, false), (C_BadLanes, false), (C_Cut, false), (C_BadBook, false), (C_BadNumbering, false), (C_OtherWeb, false), (C_BadChoice, false), (C_BadLengths, false), (C_BadLetters, false), (C_TooMany, false), (C_BadOffers, false), (C_BadWishes, false), (C_NoLane, false), (C_Down, true), (C_Up, false), (C_BadPair, false), (C_NoBooks, false), (C_NothingToUndo, false), (C_NothingToRedo, false), (C_NoTrial, false), (C_BadJournal, false), (C_BadSay, false)] false = true)
    (isb_Full : isiB K (.ref C_Full) [(C_PostError, false), (C_BadWeb, false), (C_NoHouse, false), (C_BadLane, false), (C_Full, true), (C_BadFall, false), (C_OtherHouses, false), (C_BadLanes, false), (C_Cut, false), (C_BadBook, false), (C_BadNumbering, false), (C_OtherWeb, false), (C_BadChoice, false), (C_BadLengths, false), (C_BadLetters, false), (C_TooMany, false), (C_BadOffers, false), (C_BadWishes, false), (C_NoLane, false), (C_Down, false), (C_Up, false), (C_BadPair, false), (C_NoBooks, false), (C_NothingToUndo, false), (C_NothingToRedo, false), (C_NoTrial, false), (C_BadJournal, false), (C_BadSay, false)] false = true)
    (isb_NoBooks : isiB K (.ref C_NoBooks) [(C_PostError, false), (C_BadWeb, false), (C_NoHouse, false), (C_BadLane, false), (C_Full, false), (C_BadFall, false), (C_OtherHouses, false), (C_BadLanes, false), (C_Cut, false), (C_BadBook, false), (C_BadNumbering, false), (C_OtherWeb, false), (C_BadChoice, false), (C_BadLengths, false), (C_BadLetters, false), (C_TooMany, false), (C_BadOffers, false), (C_BadWishes, false), (C_NoLane, false), (C_Down, false), (C_Up, false), (C_BadPair, false), (C_NoBooks, true), (C_NothingToUndo, false), (C_NothingToRedo, false), (C_NoTrial, false), (C_BadJournal, false), (C_BadSay, false)] false = true)
    (isb_NoHouse : isiB K (.ref C_NoHouse) [(C_PostError, false), (C_BadWeb, false), (C_NoHouse, true), (C_BadLane, false), (C_Full, false), (C_BadFall, false), (C_OtherHouses, false), (C_BadLanes, false), (C_Cut, false), (C_BadBook, false), (C_BadNumbering, false), (C_OtherWeb, false), (C_BadChoice, false), (C_BadLengths, false), (C_BadLetters, false), (C_TooMany, false), (C_BadOffers, false), (C_BadWishes, false), (C_NoLane, false), (C_Down, false), (C_Up, false), (C_BadPair, false), (C_NoBooks, false), (C_NothingToUndo, false), (C_NothingToRedo, false), (C_NoTrial, false), (C_BadJournal, false), (C_BadSay, false)] false = true)
    (isb_NoLane : isiB K (.ref C_NoLane) [(C_PostError, false), (C_BadWeb, false), (C_NoHouse, false), (C_BadLane, false), (C_Full, false), (C_BadFall, false), (C_OtherHouses, false), (C_BadLanes, false), (C_Cut, false), (C_BadBook, false), (C_BadNumbering, false), (C_OtherWeb, false), (C_BadChoice, false), (C_BadLengths, false), (C_BadLetters, false), (C_TooMany, false), (C_BadOffers, false), (C_BadWishes, false), (C_NoLane, true), (C_Down, false), (C_Up, false), (C_BadPair, false), (C_NoBooks, false), (C_NothingToUndo, false), (C_NothingToRedo, false), (C_NoTrial, false), (C_BadJournal, false), (C_BadSay, false)] false = true)
    (isb_NoTrial : isiB K (.ref C_NoTrial) [(C_PostError, false), (C_BadWeb, false), (C_NoHouse, false), (C_BadLane, false), (C_Full, false), (C_BadFall, false), (C_OtherHouses, false), (C_BadLanes, false), (C_Cut, false), (C_BadBook, false), (C_BadNumbering, false), (C_OtherWeb, false), (C_BadChoice, false), (C_BadLengths, false), (C_BadLetters, false), (C_TooMany, false), (C_BadOffers, false), (C_BadWishes, false), (C_NoLane, false), (C_Down, false), (C_Up, false), (C_BadPair, false), (C_NoBooks, false), (C_NothingToUndo, false), (C_NothingToRedo, false), (C_NoTrial, true), (C_BadJournal, false), (C_BadSay, false)] false = true)
    (isb_NothingToRedo : isiB K (.ref C_NothingToRedo) [(C_PostError, false), (C_BadWeb, false), (C_NoHouse, false), (C_BadLane, false), (C_Full, false), (C_BadFall, false), (C_OtherHouses, false), (C_BadLanes, false), (C_Cut, false), (C_BadBook, false), (C_BadNumbering, false), (C_OtherWeb, false), (C_BadChoice, false), (C_BadLengths, false), (C_BadLetters, false), (C_TooMany, false), (C_BadOffers, false), (C_BadWishes, false), (C_NoLane, false), (C_Down, false), (C_Up, false), (C_BadPair, false), (C_NoBooks, false), (C_NothingToUndo, false), (C_NothingToRedo, true), (C_NoTrial, false), (C_BadJournal, false), (C_BadSay, false)] false = true)
    (isb_NothingToUndo : isiB K (.ref C_NothingToUndo) [(C_PostError, false), (C_BadWeb, false), (C_NoHouse, false), (C_BadLane, false), (C_Full, false), (C_BadFall, false), (C_OtherHouses, false), (C_BadLanes, false), (C_Cut, false), (C_BadBook, false), (C_BadNumbering, false), (C_OtherWeb, false), (C_BadChoice, false), (C_BadLengths, false), (C_BadLetters, false), (C_TooMany, false), (C_BadOffers, false), (C_BadWishes, false), (C_NoLane, false), (C_Down, false), (C_Up, false), (C_BadPair, false), (C_NoBooks, false), (C_NothingToUndo, true), (C_NothingToRedo, false), (C_NoTrial, false), (C_BadJournal, false), (C_BadSay, false)] false = true)
    (isb_OtherHouses : isiB K (.ref C_OtherHouses) [(C_PostError, false), (C_BadWeb, false), (C_NoHouse, false), (C_BadLane, false), (C_Full, false), (C_BadFall, false), (C_OtherHouses, true), (C_BadLanes, false), (C_Cut, false), (C_BadBook, false), (C_BadNumbering, false), (C_OtherWeb, false), (C_BadChoice, false), (C_BadLengths, false), (C_BadLetters, false), (C_TooMany, false), (C_BadOffers, false), (C_BadWishes, false), (C_NoLane, false), (C_Down, false), (C_Up, false), (C_BadPair, false), (C_NoBooks, false), (C_NothingToUndo, false), (C_NothingToRedo, false), (C_NoTrial, false), (C_BadJournal, false), (C_BadSay, false)] false = true)
    (isb_OtherWeb : isiB K (.ref C_OtherWeb) [(C_PostError, false), (C_BadWeb, false), (C_NoHouse, false), (C_BadLane, false), (C_Full, false), (C_BadFall, false), (C_OtherHouses, false), (C_BadLanes, false), (C_Cut, false), (C_BadBook, false), (C_BadNumbering, false), (C_OtherWeb, true), (C_BadChoice, false), (C_BadLengths, false), (C_BadLetters, false), (C_TooMany, false), (C_BadOffers, false), (C_BadWishes, false), (C_NoLane, false), (C_Down, false), (C_Up, false), (C_BadPair, false), (C_NoBooks, false), (C_NothingToUndo, false), (C_NothingToRedo, false), (C_NoTrial, false), (C_BadJournal, false), (C_BadSay, false)] false = true)
    (isb_PostError : isiB K (.ref C_PostError) [(C_PostError, true), (C_BadWeb, true), (C_NoHouse, true), (C_BadLane, true), (C_Full, true), (C_BadFall, true), (C_OtherHouses, true), (C_BadLanes, true), (C_Cut, true), (C_BadBook, true), (C_BadNumbering, true), (C_OtherWeb, true), (C_BadChoice, true), (C_BadLengths, true), (C_BadLetters, true), (C_TooMany, true), (C_BadOffers, true), (C_BadWishes, true), (C_NoLane, true), (C_Down, true), (C_Up, true), (C_BadPair, true), (C_NoBooks, true), (C_NothingToUndo, true), (C_NothingToRedo, true), (C_NoTrial, true), (C_BadJournal, true), (C_BadSay, true)] false = true)
    (isb_TooMany : isiB K (.ref C_TooMany) [(C_PostError, false), (C_BadWeb, false), (C_NoHouse, false), (C_BadLane, false), (C_Full, false), (C_BadFall, false), (C_OtherHouses, false), (C_BadLanes, false), (C_Cut, false), (C_BadBook, false), (C_BadNumbering, false), (C_OtherWeb, false), (C_BadChoice, false), (C_BadLengths, false), (C_BadLetters, false), (C_TooMany, true), (C_BadOffers, false), (C_BadWishes, false), (C_NoLane, false), (C_Down, false), (C_Up, false), (C_BadPair, false), (C_NoBooks, false), (C_NothingToUndo, false), (C_NothingToRedo, false), (C_NoTrial, false), (C_BadJournal, false), (C_BadSay, false)] false = true)
    (isb_Up : isiB K (.ref C_Up) [(C_PostError, false), (C_BadWeb, false), (C_NoHouse, false), (C_BadLane, false), (C_Full, false), (C_BadFall, false), (C_OtherHouses, false), (C_BadLanes, false), (C_Cut, false), (C_BadBook, false), (C_BadNumbering, false), (C_OtherWeb, false), (C_BadChoice, false), (C_BadLengths, false), (C_BadLetters, false), (C_TooMany, false), (C_BadOffers, false), (C_BadWishes, false), (C_NoLane, false), (C_Down, false), (C_Up, true), (C_BadPair, false), (C_NoBooks, false), (C_NothingToUndo, false), (C_NothingToRedo, false), (C_NoTrial, false), (C_BadJournal, false), (C_BadSay, false)] false = true)
    (isb_ValueError : isiB K (.type "ValueError") [(C_PostError, true), (C_BadWeb, true), (C_NoHouse, true), (C_BadLane, true), (C_Full, true), (C_BadFall, true), (C_OtherHouses, true), (C_BadLanes, true), (C_Cut, true), (C_BadBook, true), (C_BadNumbering, true), (C_OtherWeb, true), (C_BadChoice, true), (C_BadLengths, true), (C_BadLetters, true), (C_TooMany, true), (C_BadOffers, true), (C_BadWishes, true), (C_NoLane, true), (C_Down, true), (C_Up, true), (C_BadPair, true), (C_NoBooks, true), (C_NothingToUndo, true), (C_NothingToRedo, true), (C_NoTrial, true), (C_BadJournal, true), (C_BadSay, true)] true = true)
    (b_ValueError : PySem.W.nsIn K mainGlobals "ValueError" = some none)
    (b_all : PySem.W.nsIn K mainGlobals "all" = some none)
    (b_enumerate : PySem.W.nsIn K mainGlobals "enumerate" = some none)
    (b_int : PySem.W.nsIn K mainGlobals "int" = some none)
    (b_isinstance : PySem.W.nsIn K mainGlobals "isinstance" = some none)
    (b_len : PySem.W.nsIn K mainGlobals "len" = some none)
    (b_range : PySem.W.nsIn K mainGlobals "range" = some none)
    (b_repr : PySem.W.nsIn K mainGlobals "repr" = some none)
    (a_l_cells : PySem.W.nsIn K mainGlobals "_law_cells" = some (some (.ref f_l_cells)))
    (l_l_cells : K.lookup f_l_cells = some ⟨oc_l_cells, od_l_cells, .func (PySem.W.fnOf "_law_cells" "_law_cells" (defArgs s_l_cells) (defBody s_l_cells) (defScope s_l_cells) .none kV_l_cells dc_l_cells pm_l_cells an_l_cells cd_l_cells ct_l_cells), sl_l_cells⟩)
    (c_l_cells : PySem.W.codeIn K cd_l_cells "_law_cells" = true)
    (k_l_cells : PySem.W.keepIn K (.ref f_l_cells) = true)
    (a_l_pot : PySem.W.nsIn K mainGlobals "_law_pot" = some (some (.ref f_l_pot)))
    (l_l_pot : K.lookup f_l_pot = some ⟨oc_l_pot, od_l_pot, .func (PySem.W.fnOf "_law_pot" "_law_pot" (defArgs s_l_pot) (defBody s_l_pot) (defScope s_l_pot) .none kV_l_pot dc_l_pot pm_l_pot an_l_pot cd_l_pot ct_l_pot), sl_l_pot⟩)
    (c_l_pot : PySem.W.codeIn K cd_l_pot "_law_pot" = true)
    (k_l_pot : PySem.W.keepIn K (.ref f_l_pot) = true)
    (b_list : PySem.W.nsIn K mainGlobals "list" = some none)
    (b_max : PySem.W.nsIn K mainGlobals "max" = some none)
    (b_min : PySem.W.nsIn K mainGlobals "min" = some none)
    (b_abs : PySem.W.nsIn K mainGlobals "abs" = some none)
    (a_law : PySem.W.nsIn K mainGlobals "law" = some (some (.ref f_law)))
    (l_law : K.lookup f_law = some ⟨oc_law, od_law, .func (PySem.W.fnOf "law" "law" (defArgs s_law) (defBody s_law) (defScope s_law) .none kV_law dc_law pm_law an_law cd_law ct_law), sl_law⟩)
    (c_law : PySem.W.codeIn K cd_law "law" = true)
    (k_law : PySem.W.keepIn K (.ref f_law) = true)
    (a_l_take : PySem.W.nsIn K mainGlobals "_law_take" = some (some (.ref f_l_take)))
    (l_l_take : K.lookup f_l_take = some ⟨oc_l_take, od_l_take, .func (PySem.W.fnOf "_law_take" "_law_take" (defArgs s_l_take) (defBody s_l_take) (defScope s_l_take) .none kV_l_take dc_l_take pm_l_take an_l_take cd_l_take ct_l_take), sl_l_take⟩)
    (c_l_take : PySem.W.codeIn K cd_l_take "_law_take" = true)
    (k_l_take : PySem.W.keepIn K (.ref f_l_take) = true)
    (a_l_of : PySem.W.nsIn K mainGlobals "_law_of" = some (some (.ref f_l_of)))
    (l_l_of : K.lookup f_l_of = some ⟨oc_l_of, od_l_of, .func (PySem.W.fnOf "_law_of" "_law_of" (defArgs s_l_of) (defBody s_l_of) (defScope s_l_of) .none kV_l_of dc_l_of pm_l_of an_l_of cd_l_of ct_l_of), sl_l_of⟩)
    (c_l_of : PySem.W.codeIn K cd_l_of "_law_of" = true)
    (k_l_of : PySem.W.keepIn K (.ref f_l_of) = true)
    (a_l_odd : PySem.W.nsIn K mainGlobals "_law_odd" = some (some (.ref f_l_odd)))
    (l_l_odd : K.lookup f_l_odd = some ⟨oc_l_odd, od_l_odd, .func (PySem.W.fnOf "_law_odd" "_law_odd" (defArgs s_l_odd) (defBody s_l_odd) (defScope s_l_odd) .none kV_l_odd dc_l_odd pm_l_odd an_l_odd cd_l_odd ct_l_odd), sl_l_odd⟩)
    (c_l_odd : PySem.W.codeIn K cd_l_odd "_law_odd" = true)
    (k_l_odd : PySem.W.keepIn K (.ref f_l_odd) = true)
    (a_l_made : PySem.W.nsIn K mainGlobals "_law_made" = some (some (.ref f_l_made)))
    (l_l_made : K.lookup f_l_made = some ⟨oc_l_made, od_l_made, .func (PySem.W.fnOf "_law_made" "_law_made" (defArgs s_l_made) (defBody s_l_made) (defScope s_l_made) .none kV_l_made dc_l_made pm_l_made an_l_made cd_l_made ct_l_made), sl_l_made⟩)
    (c_l_made : PySem.W.codeIn K cd_l_made "_law_made" = true)
    (k_l_made : PySem.W.keepIn K (.ref f_l_made) = true)
    (a_l_marks : PySem.W.nsIn K mainGlobals "_law_marks" = some (some (.ref f_l_marks)))
    (l_l_marks : K.lookup f_l_marks = some ⟨oc_l_marks, od_l_marks, .func (PySem.W.fnOf "_law_marks" "_law_marks" (defArgs s_l_marks) (defBody s_l_marks) (defScope s_l_marks) .none kV_l_marks dc_l_marks pm_l_marks an_l_marks cd_l_marks ct_l_marks), sl_l_marks⟩)
    (c_l_marks : PySem.W.codeIn K cd_l_marks "_law_marks" = true)
    (k_l_marks : PySem.W.keepIn K (.ref f_l_marks) = true)
    (a_l_right : PySem.W.nsIn K mainGlobals "_law_right" = some (some (.ref f_l_right)))
    (l_l_right : K.lookup f_l_right = some ⟨oc_l_right, od_l_right, .func (PySem.W.fnOf "_law_right" "_law_right" (defArgs s_l_right) (defBody s_l_right) (defScope s_l_right) .none kV_l_right dc_l_right pm_l_right an_l_right cd_l_right ct_l_right), sl_l_right⟩)
    (c_l_right : PySem.W.codeIn K cd_l_right "_law_right" = true)
    (k_l_right : PySem.W.keepIn K (.ref f_l_right) = true) :
    ∃ fd : FuncData, (∀ (s : Shared) (v : Value), BindsTo s fd ⟨[v], []⟩ [("_law_script", v)]) ∧ ∀ base : Heap, K.In base → base.Ns mainGlobals mg → FnG l.prog w K mg base 5 fa fd ["_law_script"] (spLaw K) := by
  have e : f_law = fa := by
    have e := hfa.symm.trans (PySem.W.mg_of X X2 a_law)
    cases e
    rfl
  subst e
  have F_l_cells : FunD K "_law_cells" "_law_cells" (defArgs s_l_cells) (defBody s_l_cells) (defScope s_l_cells) [] [] f_l_cells _ := ⟨⟨_, _, _, _, _, _, _, _, _, _, rfl, l_l_cells, c_l_cells, .inl ⟨rfl, rfl⟩, .inl rfl⟩, k_l_cells⟩
  have F_l_pot : FunD K "_law_pot" "_law_pot" (defArgs s_l_pot) (defBody s_l_pot) (defScope s_l_pot) [] [] f_l_pot _ := ⟨⟨_, _, _, _, _, _, _, _, _, _, rfl, l_l_pot, c_l_pot, .inl ⟨rfl, rfl⟩, .inl rfl⟩, k_l_pot⟩
  have F_law : FunD K "law" "law" (defArgs s_law) (defBody s_law) (defScope s_law) [] [] f_law _ := ⟨⟨_, _, _, _, _, _, _, _, _, _, rfl, l_law, c_law, .inl ⟨rfl, rfl⟩, .inl rfl⟩, k_law⟩
  have F_l_take : FunD K "_law_take" "_law_take" (defArgs s_l_take) (defBody s_l_take) (defScope s_l_take) [] [] f_l_take _ := ⟨⟨_, _, _, _, _, _, _, _, _, _, rfl, l_l_take, c_l_take, .inl ⟨rfl, rfl⟩, .inl rfl⟩, k_l_take⟩
  have F_l_of : FunD K "_law_of" "_law_of" (defArgs s_l_of) (defBody s_l_of) (defScope s_l_of) [] [] f_l_of _ := ⟨⟨_, _, _, _, _, _, _, _, _, _, rfl, l_l_of, c_l_of, .inl ⟨rfl, rfl⟩, .inl rfl⟩, k_l_of⟩
  have F_l_odd : FunD K "_law_odd" "_law_odd" (defArgs s_l_odd) (defBody s_l_odd) (defScope s_l_odd) [] [] f_l_odd _ := ⟨⟨_, _, _, _, _, _, _, _, _, _, rfl, l_l_odd, c_l_odd, .inl ⟨rfl, rfl⟩, .inl rfl⟩, k_l_odd⟩
  have F_l_made : FunD K "_law_made" "_law_made" (defArgs s_l_made) (defBody s_l_made) (defScope s_l_made) [] [] f_l_made _ := ⟨⟨_, _, _, _, _, _, _, _, _, _, rfl, l_l_made, c_l_made, .inl ⟨rfl, rfl⟩, .inl rfl⟩, k_l_made⟩
  have F_l_marks : FunD K "_law_marks" "_law_marks" (defArgs s_l_marks) (defBody s_l_marks) (defScope s_l_marks) [] [] f_l_marks _ := ⟨⟨_, _, _, _, _, _, _, _, _, _, rfl, l_l_marks, c_l_marks, .inl ⟨rfl, rfl⟩, .inl rfl⟩, k_l_marks⟩
  have F_l_right : FunD K "_law_right" "_law_right" (defArgs s_l_right) (defBody s_l_right) (defScope s_l_right) [] [] f_l_right _ := ⟨⟨_, _, _, _, _, _, _, _, _, _, rfl, l_l_right, c_l_right, .inl ⟨rfl, rfl⟩, .inl rfl⟩, k_l_right⟩
  refine ⟨_, fun s v => F_law.bindsA (ps := ["_law_script"]) (fun _ _ _ _ _ _ us hl => match us, hl with | [_], _ => rfl) s [v] rfl, fun base _ _ => ?_⟩
  let G : Glob := ⟨l.prog, w, K, mg, base, fun i => if i = 0 then C_PostError else if i = 1 then C_BadWeb else if i = 2 then C_NoHouse else if i = 3 then C_BadLane else if i = 4 then C_Full else if i = 5 then C_BadFall else if i = 6 then C_OtherHouses else if i = 7 then C_BadLanes else if i = 8 then C_Cut else if i = 9 then C_BadBook else if i = 10 then C_BadNumbering else if i = 11 then C_OtherWeb else if i = 12 then C_BadChoice else if i = 13 then C_BadLengths else if i = 14 then C_BadLetters else if i = 15 then C_TooMany else if i = 16 then C_BadOffers else if i = 17 then C_BadWishes else if i = 18 then C_NoLane else if i = 19 then C_Down else if i = 20 then C_Up else if i = 21 then C_BadPair else if i = 22 then C_NoBooks else if i = 23 then C_NothingToUndo else if i = 24 then C_NothingToRedo else if i = 25 then C_NoTrial else if i = 26 then C_BadJournal else if i = 27 then C_BadSay else 0⟩
  have XF : FnOk G.prog G.w G.K G.mg G.base (L2.CX G.prog G.w) 1 f_xi _ ["self", "value"] (spPost G.K C_PostError) := fn_post (k := 0) xi_l xi_c (supSc_by (by decide +kernel)) ⟨⟨_, _, _, xi_l⟩, ⟨_, rfl, rfl⟩, ⟨_, _, _, _, _, _, xi_d, xi_v, xi_p⟩, ⟨_, _, _, xi_e⟩, ⟨_, xi_o⟩, xi_t, PySem.W.mg_none_of X X2 b_super, xi_a⟩ rfl
  have XB : Binds G.K _ ["self", "value"] [] := Binds.all (fd := PySem.W.ksFn "__init__" "PostError.__init__" (defArgs s_exc_init) (defBody s_exc_init) (defScope s_exc_init) .none kV_xi dc_xi pm_xi an_xi (.ref cda_xi) ct_xi cc_xi) fun us hl => match us, hl with | [_, _], _ => rfl
  have XC : ∀ i ∈ ([0, 1, 2, 3, 4, 5, 6, 7, 8, 9, 10, 11, 12, 13, 14, 15, 16, 17, 18, 19, 20, 21, 22, 23, 24, 25, 26, 27] : List Nat), XcC G.K (G.cls i) := fun i hi => by
      simp only [List.mem_cons, List.not_mem_nil, or_false] at hi
      rcases hi with rfl | rfl | rfl | rfl | rfl | rfl | rfl | rfl | rfl | rfl | rfl | rfl | rfl | rfl | rfl | rfl | rfl | rfl | rfl | rfl | rfl | rfl | rfl | rfl | rfl | rfl | rfl | rfl
      · exact (xmB_ok xb_PostError).xc
      · exact (xmB_ok xb_BadWeb).xc
      · exact (xmB_ok xb_NoHouse).xc
      · exact (xmB_ok xb_BadLane).xc
      · exact (xmB_ok xb_Full).xc
      · exact (xmB_ok xb_BadFall).xc
      · exact (xmB_ok xb_OtherHouses).xc
      · exact (xmB_ok xb_BadLanes).xc
      · exact (xmB_ok xb_Cut).xc
      · exact (xmB_ok xb_BadBook).xc
      · exact (xmB_ok xb_BadNumbering).xc
      · exact (xmB_ok xb_OtherWeb).xc
      · exact (xmB_ok xb_BadChoice).xc
      · exact (xmB_ok xb_BadLengths).xc
      · exact (xmB_ok xb_BadLetters).xc
      · exact (xmB_ok xb_TooMany).xc
      · exact (xmB_ok xb_BadOffers).xc
      · exact (xmB_ok xb_BadWishes).xc
      · exact (xmB_ok xb_NoLane).xc
      · exact (xmB_ok xb_Down).xc
      · exact (xmB_ok xb_Up).xc
      · exact (xmB_ok xb_BadPair).xc
      · exact (xmB_ok xb_NoBooks).xc
      · exact (xmB_ok xb_NothingToUndo).xc
      · exact (xmB_ok xb_NothingToRedo).xc
      · exact (xmB_ok xb_NoTrial).xc
      · exact (xmB_ok xb_BadJournal).xc
      · exact (xmB_ok xb_BadSay).xc
  have T : Tx G := {
    b_ValueError := PySem.W.mg_none_of X X2 b_ValueError,
    b_all := PySem.W.mg_none_of X X2 b_all,
    b_enumerate := PySem.W.mg_none_of X X2 b_enumerate,
    b_int := PySem.W.mg_none_of X X2 b_int,
    b_isinstance := PySem.W.mg_none_of X X2 b_isinstance,
    b_len := PySem.W.mg_none_of X X2 b_len,
    b_range := PySem.W.mg_none_of X X2 b_range,
    b_repr := PySem.W.mg_none_of X X2 b_repr,
    xm_BadBook := ⟨PySem.W.mg_of X X2 aC_BadBook, f_xi, C_PostError, _, xmB_ok xb_BadBook, XF, XB⟩,
    xm_BadChoice := ⟨PySem.W.mg_of X X2 aC_BadChoice, f_xi, C_PostError, _, xmB_ok xb_BadChoice, XF, XB⟩,
    xm_BadFall := ⟨PySem.W.mg_of X X2 aC_BadFall, f_xi, C_PostError, _, xmB_ok xb_BadFall, XF, XB⟩,
    xm_BadJournal := ⟨PySem.W.mg_of X X2 aC_BadJournal, f_xi, C_PostError, _, xmB_ok xb_BadJournal, XF, XB⟩,
    xm_BadLane := ⟨PySem.W.mg_of X X2 aC_BadLane, f_xi, C_PostError, _, xmB_ok xb_BadLane, XF, XB⟩,
    xm_BadLanes := ⟨PySem.W.mg_of X X2 aC_BadLanes, f_xi, C_PostError, _, xmB_ok xb_BadLanes, XF, XB⟩,
    xm_BadLengths := ⟨PySem.W.mg_of X X2 aC_BadLengths, f_xi, C_PostError, _, xmB_ok xb_BadLengths, XF, XB⟩,
    xm_BadLetters := ⟨PySem.W.mg_of X X2 aC_BadLetters, f_xi, C_PostError, _, xmB_ok xb_BadLetters, XF, XB⟩,
    xm_BadNumbering := ⟨PySem.W.mg_of X X2 aC_BadNumbering, f_xi, C_PostError, _, xmB_ok xb_BadNumbering, XF, XB⟩,
    xm_BadOffers := ⟨PySem.W.mg_of X X2 aC_BadOffers, f_xi, C_PostError, _, xmB_ok xb_BadOffers, XF, XB⟩,
    xm_BadPair := ⟨PySem.W.mg_of X X2 aC_BadPair, f_xi, C_PostError, _, xmB_ok xb_BadPair, XF, XB⟩,
    xm_BadSay := ⟨PySem.W.mg_of X X2 aC_BadSay, f_xi, C_PostError, _, xmB_ok xb_BadSay, XF, XB⟩,
    xm_BadWeb := ⟨PySem.W.mg_of X X2 aC_BadWeb, f_xi, C_PostError, _, xmB_ok xb_BadWeb, XF, XB⟩,
    xm_BadWishes := ⟨PySem.W.mg_of X X2 aC_BadWishes, f_xi, C_PostError, _, xmB_ok xb_BadWishes, XF, XB⟩,
    xm_Cut := ⟨PySem.W.mg_of X X2 aC_Cut, f_xi, C_PostError, _, xmB_ok xb_Cut, XF, XB⟩,
    xm_Down := ⟨PySem.W.mg_of X X2 aC_Down, f_xi, C_PostError, _, xmB_ok xb_Down, XF, XB⟩,
    xm_Full := ⟨PySem.W.mg_of X X2 aC_Full, f_xi, C_PostError, _, xmB_ok xb_Full, XF, XB⟩,
    xm_NoBooks := ⟨PySem.W.mg_of X X2 aC_NoBooks, f_xi, C_PostError, _, xmB_ok xb_NoBooks, XF, XB⟩,
    xm_NoHouse := ⟨PySem.W.mg_of X X2 aC_NoHouse, f_xi, C_PostError, _, xmB_ok xb_NoHouse, XF, XB⟩,
    xm_NoLane := ⟨PySem.W.mg_of X X2 aC_NoLane, f_xi, C_PostError, _, xmB_ok xb_NoLane, XF, XB⟩,
    xm_NoTrial := ⟨PySem.W.mg_of X X2 aC_NoTrial, f_xi, C_PostError, _, xmB_ok xb_NoTrial, XF, XB⟩,
    xm_NothingToRedo := ⟨PySem.W.mg_of X X2 aC_NothingToRedo, f_xi, C_PostError, _, xmB_ok xb_NothingToRedo, XF, XB⟩,
    xm_NothingToUndo := ⟨PySem.W.mg_of X X2 aC_NothingToUndo, f_xi, C_PostError, _, xmB_ok xb_NothingToUndo, XF, XB⟩,
    xm_OtherHouses := ⟨PySem.W.mg_of X X2 aC_OtherHouses, f_xi, C_PostError, _, xmB_ok xb_OtherHouses, XF, XB⟩,
    xm_OtherWeb := ⟨PySem.W.mg_of X X2 aC_OtherWeb, f_xi, C_PostError, _, xmB_ok xb_OtherWeb, XF, XB⟩,
    xm_PostError := ⟨PySem.W.mg_of X X2 aC_PostError, f_xi, C_PostError, _, xmB_ok xb_PostError, XF, XB⟩,
    xm_TooMany := ⟨PySem.W.mg_of X X2 aC_TooMany, f_xi, C_PostError, _, xmB_ok xb_TooMany, XF, XB⟩,
    xm_Up := ⟨PySem.W.mg_of X X2 aC_Up, f_xi, C_PostError, _, xmB_ok xb_Up, XF, XB⟩,
    xcs := XC,
    isx_BadBook := isiB_ok (cs := [0, 1, 2, 3, 4, 5, 6, 7, 8, 9, 10, 11, 12, 13, 14, 15, 16, 17, 18, 19, 20, 21, 22, 23, 24, 25, 26, 27]) isb_BadBook XC,
    isx_BadChoice := isiB_ok (cs := [0, 1, 2, 3, 4, 5, 6, 7, 8, 9, 10, 11, 12, 13, 14, 15, 16, 17, 18, 19, 20, 21, 22, 23, 24, 25, 26, 27]) isb_BadChoice XC,
    isx_BadFall := isiB_ok (cs := [0, 1, 2, 3, 4, 5, 6, 7, 8, 9, 10, 11, 12, 13, 14, 15, 16, 17, 18, 19, 20, 21, 22, 23, 24, 25, 26, 27]) isb_BadFall XC,
    isx_BadJournal := isiB_ok (cs := [0, 1, 2, 3, 4, 5, 6, 7, 8, 9, 10, 11, 12, 13, 14, 15, 16, 17, 18, 19, 20, 21, 22, 23, 24, 25, 26, 27]) isb_BadJournal XC,
    isx_BadLane := isiB_ok (cs := [0, 1, 2, 3, 4, 5, 6, 7, 8, 9, 10, 11, 12, 13, 14, 15, 16, 17, 18, 19, 20, 21, 22, 23, 24, 25, 26, 27]) isb_BadLane XC,
    isx_BadLanes := isiB_ok (cs := [0, 1, 2, 3, 4, 5, 6, 7, 8, 9, 10, 11, 12, 13, 14, 15, 16, 17, 18, 19, 20, 21, 22, 23, 24, 25, 26, 27]) isb_BadLanes XC,
    isx_BadLengths := isiB_ok (cs := [0, 1, 2, 3, 4, 5, 6, 7, 8, 9, 10, 11, 12, 13, 14, 15, 16, 17, 18, 19, 20, 21, 22, 23, 24, 25, 26, 27]) isb_BadLengths XC,
    isx_BadLetters := isiB_ok (cs := [0, 1, 2, 3, 4, 5, 6, 7, 8, 9, 10, 11, 12, 13, 14, 15, 16, 17, 18, 19, 20, 21, 22, 23, 24, 25, 26, 27]) isb_BadLetters XC,
    isx_BadNumbering := isiB_ok (cs := [0, 1, 2, 3, 4, 5, 6, 7, 8, 9, 10, 11, 12, 13, 14, 15, 16, 17, 18, 19, 20, 21, 22, 23, 24, 25, 26, 27]) isb_BadNumbering XC,
    isx_BadOffers := isiB_ok (cs := [0, 1, 2, 3, 4, 5, 6, 7, 8, 9, 10, 11, 12, 13, 14, 15, 16, 17, 18, 19, 20, 21, 22, 23, 24, 25, 26, 27]) isb_BadOffers XC,
    isx_BadPair := isiB_ok (cs := [0, 1, 2, 3, 4, 5, 6, 7, 8, 9, 10, 11, 12, 13, 14, 15, 16, 17, 18, 19, 20, 21, 22, 23, 24, 25, 26, 27]) isb_BadPair XC,
    isx_BadSay := isiB_ok (cs := [0, 1, 2, 3, 4, 5, 6, 7, 8, 9, 10, 11, 12, 13, 14, 15, 16, 17, 18, 19, 20, 21, 22, 23, 24, 25, 26, 27]) isb_BadSay XC,
    isx_BadWeb := isiB_ok (cs := [0, 1, 2, 3, 4, 5, 6, 7, 8, 9, 10, 11, 12, 13, 14, 15, 16, 17, 18, 19, 20, 21, 22, 23, 24, 25, 26, 27]) isb_BadWeb XC,
    isx_BadWishes := isiB_ok (cs := [0, 1, 2, 3, 4, 5, 6, 7, 8, 9, 10, 11, 12, 13, 14, 15, 16, 17, 18, 19, 20, 21, 22, 23, 24, 25, 26, 27]) isb_BadWishes XC,
    isx_Cut := isiB_ok (cs := [0, 1, 2, 3, 4, 5, 6, 7, 8, 9, 10, 11, 12, 13, 14, 15, 16, 17, 18, 19, 20, 21, 22, 23, 24, 25, 26, 27]) isb_Cut XC,
    isx_Down := isiB_ok (cs := [0, 1, 2, 3, 4, 5, 6, 7, 8, 9, 10, 11, 12, 13, 14, 15, 16, 17, 18, 19, 20, 21, 22, 23, 24, 25, 26, 27]) isb_Down XC,
    isx_Full := isiB_ok (cs := [0, 1, 2, 3, 4, 5, 6, 7, 8, 9, 10, 11, 12, 13, 14, 15, 16, 17, 18, 19, 20, 21, 22, 23, 24, 25, 26, 27]) isb_Full XC,
    isx_NoBooks := isiB_ok (cs := [0, 1, 2, 3, 4, 5, 6, 7, 8, 9, 10, 11, 12, 13, 14, 15, 16, 17, 18, 19, 20, 21, 22, 23, 24, 25, 26, 27]) isb_NoBooks XC,
    isx_NoHouse := isiB_ok (cs := [0, 1, 2, 3, 4, 5, 6, 7, 8, 9, 10, 11, 12, 13, 14, 15, 16, 17, 18, 19, 20, 21, 22, 23, 24, 25, 26, 27]) isb_NoHouse XC,
    isx_NoLane := isiB_ok (cs := [0, 1, 2, 3, 4, 5, 6, 7, 8, 9, 10, 11, 12, 13, 14, 15, 16, 17, 18, 19, 20, 21, 22, 23, 24, 25, 26, 27]) isb_NoLane XC,
    isx_NoTrial := isiB_ok (cs := [0, 1, 2, 3, 4, 5, 6, 7, 8, 9, 10, 11, 12, 13, 14, 15, 16, 17, 18, 19, 20, 21, 22, 23, 24, 25, 26, 27]) isb_NoTrial XC,
    isx_NothingToRedo := isiB_ok (cs := [0, 1, 2, 3, 4, 5, 6, 7, 8, 9, 10, 11, 12, 13, 14, 15, 16, 17, 18, 19, 20, 21, 22, 23, 24, 25, 26, 27]) isb_NothingToRedo XC,
    isx_NothingToUndo := isiB_ok (cs := [0, 1, 2, 3, 4, 5, 6, 7, 8, 9, 10, 11, 12, 13, 14, 15, 16, 17, 18, 19, 20, 21, 22, 23, 24, 25, 26, 27]) isb_NothingToUndo XC,
    isx_OtherHouses := isiB_ok (cs := [0, 1, 2, 3, 4, 5, 6, 7, 8, 9, 10, 11, 12, 13, 14, 15, 16, 17, 18, 19, 20, 21, 22, 23, 24, 25, 26, 27]) isb_OtherHouses XC,
    isx_OtherWeb := isiB_ok (cs := [0, 1, 2, 3, 4, 5, 6, 7, 8, 9, 10, 11, 12, 13, 14, 15, 16, 17, 18, 19, 20, 21, 22, 23, 24, 25, 26, 27]) isb_OtherWeb XC,
    isx_PostError := isiB_ok (cs := [0, 1, 2, 3, 4, 5, 6, 7, 8, 9, 10, 11, 12, 13, 14, 15, 16, 17, 18, 19, 20, 21, 22, 23, 24, 25, 26, 27]) isb_PostError XC,
    isx_TooMany := isiB_ok (cs := [0, 1, 2, 3, 4, 5, 6, 7, 8, 9, 10, 11, 12, 13, 14, 15, 16, 17, 18, 19, 20, 21, 22, 23, 24, 25, 26, 27]) isb_TooMany XC,
    isx_Up := isiB_ok (cs := [0, 1, 2, 3, 4, 5, 6, 7, 8, 9, 10, 11, 12, 13, 14, 15, 16, 17, 18, 19, 20, 21, 22, 23, 24, 25, 26, 27]) isb_Up XC,
    isx_ValueError := isiB_ok (cs := [0, 1, 2, 3, 4, 5, 6, 7, 8, 9, 10, 11, 12, 13, 14, 15, 16, 17, 18, 19, 20, 21, 22, 23, 24, 25, 26, 27]) isb_ValueError XC }
  have o_l_take : FnOk G.prog G.w G.K G.mg G.base (L2.CX G.prog G.w) 1 f_l_take _ ["_law_pot_here", "_law_upto"] (spOf G.K G.cls 2 VL.F_l_take) := def_okD F_l_take sc_l_take rfl (d_l_take T ) (by decide)
  have B_l_take_2 : Binds K _ ["_law_pot_here", "_law_upto"] [] := F_l_take.bindsN fun _ _ _ _ _ _ us hl => match us, hl with | [_, _], _ => rfl
  have c_l_take_2 : FnI G "_law_take" 1 2 [] t_l_take := (fnI_mk o_l_take (PySem.W.mg_of X X2 a_l_take) k_l_take rfl B_l_take_2 .nil (fun P H => .nil)).imp (fun ds => Le.refl _)
  have o_l_of : FnOk G.prog G.w G.K G.mg G.base (L2.CX G.prog G.w) 2 f_l_of _ ["_law_pot_here", "_law_some"] (spOf G.K G.cls 2 VL.F_l_of) := def_okD F_l_of sc_l_of rfl (d_l_of T c_l_take_2) (by decide)
  have B_l_of_2 : Binds K _ ["_law_pot_here", "_law_some"] [] := F_l_of.bindsN fun _ _ _ _ _ _ us hl => match us, hl with | [_, _], _ => rfl
  have c_l_of_2 : FnI G "_law_of" 2 2 [] t_l_of := (fnI_mk o_l_of (PySem.W.mg_of X X2 a_l_of) k_l_of rfl B_l_of_2 .nil (fun P H => .nil)).imp (fun ds => Le.refl _)
  have o_l_odd : FnOk G.prog G.w G.K G.mg G.base (L2.CX G.prog G.w) 3 f_l_odd _ ["_law_pot_here"] (spOf G.K G.cls 1 VL.F_l_odd) := def_okD F_l_odd sc_l_odd rfl (d_l_odd T c_l_of_2) (by decide)
  have B_l_odd_1 : Binds K _ ["_law_pot_here"] [] := F_l_odd.bindsN fun _ _ _ _ _ _ us hl => match us, hl with | [_], _ => rfl
  have c_l_odd_1 : FnI G "_law_odd" 3 1 [] t_l_odd := (fnI_mk o_l_odd (PySem.W.mg_of X X2 a_l_odd) k_l_odd rfl B_l_odd_1 .nil (fun P H => .nil)).imp (fun ds => Le.refl _)
  have o_l_made : FnOk G.prog G.w G.K G.mg G.base (L2.CX G.prog G.w) 3 f_l_made _ ["_law_value"] (spOf G.K G.cls 1 VL.F_l_made) := def_okD F_l_made sc_l_made rfl (d_l_made T ) (by decide)
  have B_l_made_1 : Binds K _ ["_law_value"] [] := F_l_made.bindsN fun _ _ _ _ _ _ us hl => match us, hl with | [_], _ => rfl
  have c_l_made_1 : FnI G "_law_made" 3 1 [] t_l_made := (fnI_mk o_l_made (PySem.W.mg_of X X2 a_l_made) k_l_made rfl B_l_made_1 .nil (fun P H => .nil)).imp (fun ds => Le.refl _)
  have o_l_marks : FnOk G.prog G.w G.K G.mg G.base (L2.CX G.prog G.w) 1 f_l_marks _ ["_law_error"] (spOf G.K G.cls 1 VL.F_l_marks) := def_okD F_l_marks sc_l_marks rfl (d_l_marks T ) (by decide)
  have B_l_marks_1 : Binds K _ ["_law_error"] [] := F_l_marks.bindsN fun _ _ _ _ _ _ us hl => match us, hl with | [_], _ => rfl
  have c_l_marks_1 : FnI G "_law_marks" 1 1 [] t_l_marks := (fnI_mk o_l_marks (PySem.W.mg_of X X2 a_l_marks) k_l_marks rfl B_l_marks_1 .nil (fun P H => .nil)).imp (fun ds => Le.refl _)
  have o_l_right : FnG G.prog G.w G.K G.mg G.base 4 f_l_right _ ["_law_pot_here"] (spOf G.K G.cls 1 VL.F_l_right) := def_okG F_l_right sc_l_right rfl (d_l_right T c_l_odd_1 c_l_take_2 c_l_made_1 c_l_marks_1) (by decide)
  have B_l_right_1 : Binds K _ ["_law_pot_here"] [] := F_l_right.bindsN fun _ _ _ _ _ _ us hl => match us, hl with | [_], _ => rfl
  have c_l_right_1 : FnIG G "_law_right" 4 1 [] t_l_right := (fnIG_mk o_l_right (PySem.W.mg_of X X2 a_l_right) k_l_right rfl B_l_right_1 .nil (fun P H => .nil)).imp (fun ds => Le.refl _)
  have bC : Binds K _ ["_law_script", "_law_limit"] [] := F_l_cells.bindsN fun _ _ _ _ _ _ us hl => match us, hl with | [_, _], _ => rfl
  have bP : Binds K _ ["_law_script", "_law_place"] [] := F_l_pot.bindsN fun _ _ _ _ _ _ us hl => match us, hl with | [_, _], _ => rfl
  have oC : FnOk G.prog G.w G.K G.mg G.base (L2.CX G.prog G.w) 1 f_l_cells _ ["_law_script", "_law_limit"] (spCells G.K) := ok_cells F_l_cells sc_l_cells rfl rfl rfl rfl rfl rfl (PySem.W.mg_none_of X X2 b_list) (PySem.W.mg_none_of X X2 b_range) (PySem.W.mg_none_of X X2 b_max) (PySem.W.mg_none_of X X2 b_min) (PySem.W.mg_none_of X X2 b_len)
  have oP : FnOk G.prog G.w G.K G.mg G.base (L2.CX G.prog G.w) 1 f_l_pot _ ["_law_script", "_law_place"] (spPot G.K) := ok_pot F_l_pot sc_l_pot rfl (by decide) (by decide) rfl rfl rfl rfl rfl rfl (PySem.W.mg_none_of X X2 b_int) (PySem.W.mg_none_of X X2 b_abs) (PySem.W.mg_none_of X X2 b_len)
  exact ok_lawAG (G := G) F_law sc_law rfl (blkOk_by (by decide +kernel)) (by decide) (by decide) (by decide) rfl rfl rfl rfl rfl (vis_of rfl) (PySem.W.mg_none_of X X2 b_all) oC (PySem.W.mg_of X X2 a_l_cells) k_l_cells bC oP (PySem.W.mg_of X X2 a_l_pot) k_l_pot bP c_l_right_1 law_run
theorem walk {l : PySem.W.OpenLaw} {q : Program} {loose : List Str} {XP : (Str → Option Value) → Heap → Prop} {YP : World → Heap → Prop} {d : DefRec} {K : Params → PySem.W.Frag} (hn : l.most = some 63) (hdf : d.params.defaults = [])
    (hY : ∀ (w : World) (h : Heap), YP w h → (K w.params).In h)
    (F : ∀ (w : World) (mg : Str → Option Value) (fa : Addr) (h : Heap), (K w.params).In h → h.Ns mainGlobals mg → mg d.name = some (.ref fa) →
      ∃ fd : FuncData, (∀ (s : Shared) (u : Value), BindsTo s fd ⟨[u], []⟩ [("_law_script", u)]) ∧ ∀ base : Heap, (K w.params).In base → base.Ns mainGlobals mg → FnG l.prog w (K w.params) mg base 5 fa fd ["_law_script"] (spLaw (K w.params))) :
    PySem.W.WalkO q loose XP YP l.row.toRowW d [] (fun f vs => PySem.call f vs) :=
  VL.walkG (k := 5) hn hdf ⟨rfl, by decide, by decide⟩ hY F
end VL
open PySem PySem.W PyProof.Rows
set_option maxRecDepth 100000 in
set_option maxHeartbeats 0 in
theorem PySem.Challenge.cw_sparebooks_k00_errors_and_what_they_keep_holds : PySem.Challenge.rw_sparebooks_k00_errors_and_what_they_keep.Holds := by
  w_on; o_law; k_head; (case hw => w_witness2)
  k_fill
  refine VL.walk (l := PySem.Challenge.rw_sparebooks_k00_errors_and_what_they_keep) rfl rfl (fun w h Y => PySem.W.kIn_of Y) ?F
  case F =>
    intro w mg fa h KX X2 hmg
    refine' VL.all_mk KX X2 hmg ?aC_PostError ?aC_BadWeb ?aC_NoHouse ?aC_BadLane ?aC_Full ?aC_BadFall ?aC_OtherHouses ?aC_BadLanes ?aC_Cut ?aC_BadBook ?aC_BadNumbering ?aC_OtherWeb ?aC_BadChoice ?aC_BadLengths ?aC_BadLetters ?aC_TooMany ?aC_BadOffers ?aC_BadWishes ?aC_NoLane ?aC_Down ?aC_Up ?aC_BadPair ?aC_NoBooks ?aC_NothingToUndo ?aC_NothingToRedo ?aC_NoTrial ?aC_BadJournal ?aC_BadSay ?xi_f ?xi_l ?xi_c ?xi_d ?xi_v ?xi_p ?xi_t ?xi_e ?xi_o ?xi_a ?b_super ?xb_PostError ?xb_BadWeb ?xb_NoHouse ?xb_BadLane ?xb_Full ?xb_BadFall ?xb_OtherHouses ?xb_BadLanes ?xb_Cut ?xb_BadBook ?xb_BadNumbering ?xb_OtherWeb ?xb_BadChoice ?xb_BadLengths ?xb_BadLetters ?xb_TooMany ?xb_BadOffers ?xb_BadWishes ?xb_NoLane ?xb_Down ?xb_Up ?xb_BadPair ?xb_NoBooks ?xb_NothingToUndo ?xb_NothingToRedo ?xb_NoTrial ?xb_BadJournal ?xb_BadSay ?isb_BadBook ?isb_BadChoice ?isb_BadFall ?isb_BadJournal ?isb_BadLane ?isb_BadLanes ?isb_BadLengths ?isb_BadLetters ?isb_BadNumbering ?isb_BadOffers ?isb_BadPair ?isb_BadSay ?isb_BadWeb ?isb_BadWishes ?isb_Cut ?isb_Down ?isb_Full ?isb_NoBooks ?isb_NoHouse ?isb_NoLane ?isb_NoTrial ?isb_NothingToRedo ?isb_NothingToUndo ?isb_OtherHouses ?isb_OtherWeb ?isb_PostError ?isb_TooMany ?isb_Up ?isb_ValueError ?b_ValueError ?b_all ?b_enumerate ?b_int ?b_isinstance ?b_len ?b_range ?b_repr ?a_l_cells ?l_l_cells ?c_l_cells ?k_l_cells ?a_l_pot ?l_l_pot ?c_l_pot ?k_l_pot ?b_list ?b_max ?b_min ?b_abs ?a_law ?l_law ?c_law ?k_law ?a_l_take ?l_l_take ?c_l_take ?k_l_take ?a_l_of ?l_l_of ?c_l_of ?k_l_of ?a_l_odd ?l_l_odd ?c_l_odd ?k_l_odd ?a_l_made ?l_l_made ?c_l_made ?k_l_made ?a_l_marks ?l_l_marks ?c_l_marks ?k_l_marks ?a_l_right ?l_l_right ?c_l_right ?k_l_right
    (case aC_PostError => k_is); (case aC_BadWeb => k_is); (case aC_NoHouse => k_is); (case aC_BadLane => k_is); (case aC_Full => k_is); (case aC_BadFall => k_is); (case aC_OtherHouses => k_is); (case aC_BadLanes => k_is)
    (case aC_Cut => k_is); (case aC_BadBook => k_is); (case aC_BadNumbering => k_is); (case aC_OtherWeb => k_is); (case aC_BadChoice => k_is); (case aC_BadLengths => k_is); (case aC_BadLetters => k_is); (case aC_TooMany => k_is)
    (case aC_BadOffers => k_is); (case aC_BadWishes => k_is); (case aC_NoLane => k_is); (case aC_Down => k_is); (case aC_Up => k_is); (case aC_BadPair => k_is); (case aC_NoBooks => k_is); (case aC_NothingToUndo => k_is)
    (case aC_NothingToRedo => k_is); (case aC_NoTrial => k_is); (case aC_BadJournal => k_is); (case aC_BadSay => k_is); (case xi_f => k_is); (case xi_l => k_is); (case xi_c => k_is); (case xi_d => k_is)
    (case xi_v => rfl); (case xi_p => kernel_rfl); (case xi_t => kernel_rfl); (case xi_e => k_is); (case xi_o => k_is); (case xi_a => k_is); (case b_super => k_is); (case xb_PostError => kernel_rfl)
    (case xb_BadWeb => kernel_rfl); (case xb_NoHouse => kernel_rfl); (case xb_BadLane => kernel_rfl); (case xb_Full => kernel_rfl); (case xb_BadFall => kernel_rfl); (case xb_OtherHouses => kernel_rfl); (case xb_BadLanes => kernel_rfl); (case xb_Cut => kernel_rfl)
    (case xb_BadBook => kernel_rfl); (case xb_BadNumbering => kernel_rfl); (case xb_OtherWeb => kernel_rfl); (case xb_BadChoice => kernel_rfl); (case xb_BadLengths => kernel_rfl); (case xb_BadLetters => kernel_rfl); (case xb_TooMany => kernel_rfl); (case xb_BadOffers => kernel_rfl)
    (case xb_BadWishes => kernel_rfl); (case xb_NoLane => kernel_rfl); (case xb_Down => kernel_rfl); (case xb_Up => kernel_rfl); (case xb_BadPair => kernel_rfl); (case xb_NoBooks => kernel_rfl); (case xb_NothingToUndo => kernel_rfl); (case xb_NothingToRedo => kernel_rfl)
    (case xb_NoTrial => kernel_rfl); (case xb_BadJournal => kernel_rfl); (case xb_BadSay => kernel_rfl); (case isb_BadBook => kernel_rfl); (case isb_BadChoice => kernel_rfl); (case isb_BadFall => kernel_rfl); (case isb_BadJournal => kernel_rfl); (case isb_BadLane => kernel_rfl)
    (case isb_BadLanes => kernel_rfl); (case isb_BadLengths => kernel_rfl); (case isb_BadLetters => kernel_rfl); (case isb_BadNumbering => kernel_rfl); (case isb_BadOffers => kernel_rfl); (case isb_BadPair => kernel_rfl); (case isb_BadSay => kernel_rfl); (case isb_BadWeb => kernel_rfl)
    (case isb_BadWishes => kernel_rfl); (case isb_Cut => kernel_rfl); (case isb_Down => kernel_rfl); (case isb_Full => kernel_rfl); (case isb_NoBooks => kernel_rfl); (case isb_NoHouse => kernel_rfl); (case isb_NoLane => kernel_rfl); (case isb_NoTrial => kernel_rfl)
    (case isb_NothingToRedo => kernel_rfl); (case isb_NothingToUndo => kernel_rfl); (case isb_OtherHouses => kernel_rfl); (case isb_OtherWeb => kernel_rfl); (case isb_PostError => kernel_rfl); (case isb_TooMany => kernel_rfl); (case isb_Up => kernel_rfl); (case isb_ValueError => kernel_rfl)
    (case b_ValueError => k_is); (case b_all => k_is); (case b_enumerate => k_is); (case b_int => k_is); (case b_isinstance => k_is); (case b_len => k_is); (case b_range => k_is); (case b_repr => k_is)
    (case a_l_cells => k_is); (case l_l_cells => k_is); (case c_l_cells => k_is); (case k_l_cells => k_is); (case a_l_pot => k_is); (case l_l_pot => k_is); (case c_l_pot => k_is); (case k_l_pot => k_is)
    (case b_list => k_is); (case b_max => k_is); (case b_min => k_is); (case b_abs => k_is); (case a_law => k_is); (case l_law => k_is); (case c_law => k_is); (case k_law => k_is)
    (case a_l_take => k_is); (case l_l_take => k_is); (case c_l_take => k_is); (case k_l_take => k_is); (case a_l_of => k_is); (case l_l_of => k_is); (case c_l_of => k_is); (case k_l_of => k_is)
    (case a_l_odd => k_is); (case l_l_odd => k_is); (case c_l_odd => k_is); (case k_l_odd => k_is); (case a_l_made => k_is); (case l_l_made => k_is); (case c_l_made => k_is); (case k_l_made => k_is)
    (case a_l_marks => k_is); (case l_l_marks => k_is); (case c_l_marks => k_is); (case k_l_marks => k_is); (case a_l_right => k_is); (case l_l_right => k_is); (case c_l_right => k_is); (case k_l_right => k_is)
#print axioms PySem.Challenge.cw_sparebooks_k00_errors_and_what_they_keep_holds
