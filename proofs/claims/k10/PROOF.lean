import PyProof.Rows.All
import Wide.All
import OpenK.AllK
import Wide.FinOn
import HandS.ForMost
import HandS.Star
import HandS.SlotsOwn
import HandS.DictComp
import HandS.Deep
import HandS.IsInst
import HandS.Exc
import HandS.ExcOwn
import HandS.WordsExc
import HandS.TupAny
import HandS.Conv
import HandS.SetKeys
import HandS.Zip
import HandS.Style
import HandS.Walk
import KE.GoesEnum
import HandS.NoneIn
import HandS.Defaults
import HandS.Iter
import HandS.Small
import PyProof.ReprRoads
import PySem.Challenge.RW_sparebooks_k10_ways_around_and_lots
set_option Elab.async false
set_option linter.all false
set_option maxRecDepth 100000
set_option maxHeartbeats 4000000
namespace VL
open PySem PySem.Spec PyProof.Rows L2
inductive D where
  | non | bl (b : Bool) | int (i : Int) | str (s : Str)
  | tup (l : List D) | lst (l : List D) | dct (l : List (Key × D))
  | obj (c : Nat) (l : List D) | exc (c : Nat) (v : D) | clo (c : Nat) (l : List D) | pot | tok (a : Nat)
instance : Inhabited D := ⟨.non⟩
structure Wd where
  K : PySem.W.Frag
  cls : Nat → Addr
  P : Addr
mutual
/-- in the heap H the value v reads as d -/
inductive At (W : Wd) (H : Hp) : V → D → Prop
  | non : At W H .non .non
  | bl (b : Bool) : At W H (.bl b) (.bl b)
  | int (i : Int) : At W H (.int i) (.int i)
  | str (x : Str) : At W H (.str x) (.str x)
  | tup {a : Addr} {xs : List V} {ds : List D} : SqT W.K H a xs → xs.length ≤ sizeLine → AtAll W H xs ds → At W H (.ref a) (.tup ds)
  | lst {a : Addr} {xs : List V} {ds : List D} : H a = some (.lst xs) → xs.length ≤ sizeLine → AtAll W H xs ds → At W H (.ref a) (.lst ds)
  | dct {a : Addr} {ks : List (Key × V)} {ds : List (Key × D)} : Rd H a (.dK ks) → ks.length ≤ sizeLine → AtKv W H ks ds → At W H (.ref a) (.dct ds)
  | obj {a dx : Addr} {c : Nat} {xs : List V} {ds : List D} : SlX.Slt H a (W.cls c) dx (xs.map some) → AtAll W H xs ds → At W H (.ref a) (.obj c ds)
  | pot : At W H (.ref W.P) .pot
  | tok (a : Addr) : At W H (.ref a) (.tok a)
inductive AtAll (W : Wd) (H : Hp) : List V → List D → Prop
  | nil : AtAll W H [] []
  | cons {v : V} {d : D} {vs : List V} {ds : List D} : At W H v d → AtAll W H vs ds → AtAll W H (v :: vs) (d :: ds)
inductive AtKv (W : Wd) (H : Hp) : List (Key × V) → List (Key × D) → Prop
  | nil : AtKv W H [] []
  | cons {k : Key} {v : V} {d : D} {vs : List (Key × V)} {ds : List (Key × D)} : At W H v d → AtKv W H vs ds → AtKv W H ((k, v) :: vs) ((k, d) :: ds)
end
section
variable {W : Wd} {H H' : Hp}
theorem Same.rd {a : Addr} {u : HO} (e : Same H H') : Rd H a u → Rd H' a u
  | .inl h => .inl (e _ _ h)
  | .inr ⟨o, h⟩ => .inr ⟨o, e _ _ h⟩
theorem Same.sqT {K : PySem.W.Frag} {a : Addr} {xs : List V} (e : Same H H') : SqT K H a xs → SqT K H' a xs
  | .inl h => .inl (Same.rd e h)
  | .inr h => .inr h
theorem Same.slt {a C dx : Addr} {vs : List (Option V)} (e : Same H H') : SlX.Slt H a C dx vs → SlX.Slt H' a C dx vs
  | .inl ⟨h, z⟩ => .inl ⟨e _ _ h, z⟩
  | .inr ⟨h, z⟩ => .inr ⟨e _ _ h, e _ _ z⟩
mutual
theorem At.mono (e : Same H H') : ∀ {v : V} {d : D}, At W H v d → At W H' v d
  | _, _, .non => .non
  | _, _, .bl b => .bl b
  | _, _, .int i => .int i
  | _, _, .str x => .str x
  | _, _, .tup h z r => .tup (Same.sqT e h) z (AtAll.mono e r)
  | _, _, .lst h z r => .lst (e _ _ h) z (AtAll.mono e r)
  | _, _, .dct h z r => .dct (Same.rd e h) z (AtKv.mono e r)
  | _, _, .obj h r => .obj (Same.slt e h) (AtAll.mono e r)
  | _, _, .pot => .pot
  | _, _, .tok a => .tok a
theorem AtAll.mono (e : Same H H') : ∀ {v : List V} {d : List D}, AtAll W H v d → AtAll W H' v d
  | _, _, .nil => .nil
  | _, _, .cons h r => .cons (At.mono e h) (AtAll.mono e r)
theorem AtKv.mono (e : Same H H') : ∀ {v : List (Key × V)} {d : List (Key × D)}, AtKv W H v d → AtKv W H' v d
  | _, _, .nil => .nil
  | _, _, .cons h r => .cons (At.mono e h) (AtKv.mono e r)
end
theorem AtAll.len : ∀ {v : List V} {d : List D}, AtAll W H v d → v.length = d.length
  | _, _, .nil => rfl
  | _, _, .cons _ r => by simp [r.len]
theorem AtAll.get : ∀ {v : List V} {d : List D} {i : Nat} {x : V}, AtAll W H v d → v[i]? = some x → ∃ y, d[i]? = some y ∧ At W H x y
  | _, _, _, _, .nil, e => by simp at e
  | _, _, 0, _, .cons h _, e => by simp at e; subst e; exact ⟨_, rfl, h⟩
  | _, _, i + 1, x, .cons _ r, e => by
    obtain ⟨y, e1, h⟩ := r.get (i := i) (x := x) (by simpa using e)
    exact ⟨y, by simpa using e1, h⟩
theorem AtAll.get' : ∀ {v : List V} {d : List D} {i : Nat} {y : D}, AtAll W H v d → d[i]? = some y → ∃ x, v[i]? = some x ∧ At W H x y
  | _, _, _, _, .nil, e => by simp at e
  | _, _, 0, _, .cons h _, e => by simp at e; subst e; exact ⟨_, rfl, h⟩
  | _, _, i + 1, x, .cons _ r, e => by
    obtain ⟨y, e1, h⟩ := r.get' (i := i) (y := x) (by simpa using e)
    exact ⟨y, by simpa using e1, h⟩
theorem AtAll.append : ∀ {v v' : List V} {d d' : List D}, AtAll W H v d → AtAll W H v' d' → AtAll W H (v ++ v') (d ++ d')
  | _, _, _, _, .nil, s => s
  | _, _, _, _, .cons h r, s => .cons h (r.append s)
theorem AtAll.take : ∀ {v : List V} {d : List D} (n : Nat), AtAll W H v d → AtAll W H (v.take n) (d.take n)
  | _, _, 0, _ => by simp; exact .nil
  | _, _, n + 1, .nil => .nil
  | _, _, n + 1, .cons h r => .cons h (r.take n)
theorem AtAll.drop : ∀ {v : List V} {d : List D} (n : Nat), AtAll W H v d → AtAll W H (v.drop n) (d.drop n)
  | _, _, 0, h => h
  | _, _, n + 1, .nil => .nil
  | _, _, n + 1, .cons h r => r.drop n
theorem AtAll.rev : ∀ {v : List V} {d : List D}, AtAll W H v d → AtAll W H v.reverse d.reverse
  | _, _, .nil => .nil
  | _, _, .cons h r => by simp only [List.reverse_cons]; exact r.rev.append (.cons h .nil)
theorem AtAll.set : ∀ {v : List V} {d : List D} {x : V} {y : D} (n : Nat), At W H x y → AtAll W H v d → AtAll W H (v.set n x) (d.set n y)
  | _, _, _, _, _, _, .nil => .nil
  | _, _, _, _, 0, h, .cons _ r => .cons h r
  | _, _, _, _, n + 1, h, .cons a r => .cons a (r.set n h)
theorem AtKv.len : ∀ {v : List (Key × V)} {d : List (Key × D)}, AtKv W H v d → v.length = d.length
  | _, _, .nil => rfl
  | _, _, .cons _ r => by simp [r.len]
end
abbrev Pot := Int × Int × Int
inductive R (α : Type) where
  | ok (a : α) (s : Pot)
  | err (c : Nat) (v : D) (s : Pot)
  | fail
def M (α : Type) : Type := Pot → R α
def M.bnd {α β : Type} (m : M α) (f : α → M β) : M β := fun s => match m s with
  | .ok a s' => f a s'
  | .err c v s' => .err c v s'
  | .fail => .fail
def M.ret {α : Type} (a : α) : M α := fun s => .ok a s
def nope {α : Type} : M α := fun _ => .fail
def boom {α : Type} (c : Nat) (v : D) : M α := fun s => .err c v s
instance : Monad M where
  pure := M.ret
  bind := M.bnd
def chk (b : Bool) : M Unit := fun s => if b = true then .ok () s else .fail
@[simp] theorem bind_run {α β : Type} (m : M α) (f : α → M β) (s : Pot) : (m >>= f) s = (match m s with | .ok a s' => f a s' | .err c v s' => .err c v s' | .fail => .fail) := rfl
@[simp] theorem pure_run {α : Type} (a : α) (s : Pot) : (pure a : M α) s = .ok a s := rfl
@[simp] theorem nope_run {α : Type} (s : Pot) : (nope : M α) s = .fail := rfl
@[simp] theorem boom_run {α : Type} (c : Nat) (v : D) (s : Pot) : (boom c v : M α) s = .err c v s := rfl
@[simp] theorem chk_run (b : Bool) (s : Pot) : chk b s = if b = true then .ok () s else .fail := rfl
def Post {α : Type} (A : α → Pot → Prop) (B : Nat → D → Pot → Prop) : R α → Prop
  | .ok a s => A a s
  | .err c v s => B c v s
  | .fail => False
theorem post_bind {α β : Type} {A : β → Pot → Prop} {B : Nat → D → Pot → Prop} {m : M α} {f : α → M β} {s : Pot} : Post A B ((m >>= f) s) ↔ Post (fun a s' => Post A B (f a s')) B (m s) := by
  rw [bind_run]
  cases m s <;> exact Iff.rfl
theorem post_pure {α : Type} {A : α → Pot → Prop} {B : Nat → D → Pot → Prop} {a : α} {s : Pot} : Post A B ((pure a : M α) s) ↔ A a s := by rw [pure_run]; exact Iff.rfl
theorem Post.imp {α : Type} {A A' : α → Pot → Prop} {B B' : Nat → D → Pot → Prop} {r : R α} (h : Post A B r) (ha : ∀ a s, A a s → A' a s) (hb : ∀ c v s, B c v s → B' c v s) : Post A' B' r := by
  cases r with
  | ok a s => exact ha _ _ h
  | err c v s => exact hb _ _ _ h
  | fail => exact h
def potO (s : Pot) : HO := .lst [.int s.1, .int s.2.1, .int s.2.2]
structure Ext (W : Wd) (Hf H Hf' H' : Hp) (s : Pot) : Prop where
  ff : Same Hf Hf'
  fh : Same Hf' H'
  potF : Hf' W.P = none
  pot : H' W.P = some (potO s)
  old : ∀ b o, b ≠ W.P → H b = some o → H' b = some o
  unf : ∀ b o, H b = some o → Hf b = none → Hf' b = none
theorem Ext.trans {W : Wd} {Hf H Hf1 H1 Hf2 H2 : Hp} {s s' : Pot} (a : Ext W Hf H Hf1 H1 s) (b : Ext W Hf1 H1 Hf2 H2 s') : Ext W Hf H Hf2 H2 s' where
  ff := a.ff.trans b.ff
  fh := b.fh
  potF := b.potF
  pot := b.pot
  old := fun c o hc e => b.old c o hc (a.old c o hc e)
  unf := fun c o e n => by
    by_cases hc : c = W.P
    · rw [hc]; exact b.potF
    · exact b.unf c o (a.old c o hc e) (a.unf c o e n)
theorem Ext.refl {W : Wd} {Hf H Hf1 H1 : Hp} {s : Pot} (a : Ext W Hf H Hf1 H1 s) : Ext W Hf1 H1 Hf1 H1 s where
  ff := Same.refl _
  fh := a.fh
  potF := a.potF
  pot := a.pot
  old := fun _ _ _ e => e
  unf := fun _ _ _ n => n
theorem Ext.newF {W : Wd} {Hf H Hf1 H1 : Hp} {s : Pot} {p : Addr} {o : HO} (a : Ext W Hf H Hf1 H1 s) (hp : H1 p = none) : Ext W Hf1 H1 (upd Hf1 p o) (upd H1 p o) s := by
  have nP : W.P ≠ p := fun e => by have := a.pot; rw [e, hp] at this; cases this
  have nf : Hf1 p = none := by
    cases e : Hf1 p with
    | none => rfl
    | some u => rw [a.fh _ _ e] at hp; cases hp
  refine ⟨fun b u e => ?_, fun b u e => ?_, ?_, ?_, fun b u _ e => ?_, fun b u e n => ?_⟩
  · rw [upd_ne (fun z => by rw [z, nf] at e; cases e)]; exact e
  · by_cases hb : b = p
    · subst hb; rw [upd_same] at e ⊢; exact e
    · rw [upd_ne hb] at e ⊢; exact a.fh _ _ e
  · rw [upd_ne nP]; exact a.potF
  · rw [upd_ne nP]; exact a.pot
  · rw [upd_ne (fun z => by rw [z, hp] at e; cases e)]; exact e
  · rw [upd_ne (fun z => by rw [z, hp] at e; cases e)]; exact n
theorem Ext.newU {W : Wd} {Hf H Hf1 H1 : Hp} {s : Pot} {p : Addr} {o : HO} (a : Ext W Hf H Hf1 H1 s) (hp : H1 p = none) : Ext W Hf1 H1 Hf1 (upd H1 p o) s ∧ Hf1 p = none ∧ p ≠ W.P := by
  have nP : W.P ≠ p := fun e => by have := a.pot; rw [e, hp] at this; cases this
  have nf : Hf1 p = none := by
    cases e : Hf1 p with
    | none => rfl
    | some u => rw [a.fh _ _ e] at hp; cases hp
  refine ⟨⟨Same.refl _, fun b u e => ?_, a.potF, ?_, fun b u _ e => ?_, fun b u e n => n⟩, nf, Ne.symm nP⟩
  · rw [upd_ne (fun z => by rw [z, nf] at e; cases e)]; exact a.fh _ _ e
  · rw [upd_ne nP]; exact a.pot
  · rw [upd_ne (fun z => by rw [z, hp] at e; cases e)]; exact e
theorem Ext.freeze {W : Wd} {Hf H Hf1 H1 : Hp} {s : Pot} {p : Addr} {o : HO} (a : Ext W Hf H Hf1 H1 s) (hp : H1 p = some o) (hf : Hf1 p = none) (hP : p ≠ W.P) (h0 : H p = none) : Ext W Hf H (upd Hf1 p o) H1 s := by
  refine ⟨fun b u e => ?_, fun b u e => ?_, ?_, a.pot, a.old, fun b u e n => ?_⟩
  · rw [upd_ne (fun z => by have q := a.ff _ _ e; rw [z, hf] at q; cases q)]; exact a.ff _ _ e
  · by_cases hb : b = p
    · subst hb; rw [upd_same] at e; cases e; exact hp
    · rw [upd_ne hb] at e; exact a.fh _ _ e
  · rw [upd_ne (Ne.symm hP)]; exact a.potF
  · rw [upd_ne (fun z => by rw [z, h0] at e; cases e)]; exact a.unf _ _ e n
theorem Ext.write {W : Wd} {Hf H Hf1 H1 : Hp} {s : Pot} {p : Addr} {o : HO} (a : Ext W Hf H Hf1 H1 s) (hf : Hf1 p = none) (hP : p ≠ W.P) (h0 : H p = none) : Ext W Hf H Hf1 (upd H1 p o) s := by
  refine ⟨a.ff, fun b u e => ?_, a.potF, ?_, fun b u hb e => ?_, a.unf⟩
  · rw [upd_ne (fun z => by rw [z, hf] at e; cases e)]; exact a.fh _ _ e
  · rw [upd_ne (Ne.symm hP)]; exact a.pot
  · rw [upd_ne (fun z => by rw [z, h0] at e; cases e)]; exact a.old _ _ hb e
inductive Own where
  | sh | ol | od | odl | lk
  deriving DecidableEq
abbrev Rho := List (Option D)
def OwnAt (W : Wd) (Hf H : Hp) (ow : Addr → Option Nat) (i : Nat) : Own → V → D → Prop
  | .sh, v, d => At W Hf v d
  | .ol, v, d => ∃ p xs ds, v = .ref p ∧ d = .lst ds ∧ ow p = some i ∧ H p = some (.lst xs) ∧ xs.length ≤ sizeLine ∧ AtAll W Hf xs ds
  | .od, v, d => ∃ p ks ds, v = .ref p ∧ d = .dct ds ∧ ow p = some i ∧ H p = some (.dK ks) ∧ ks.length ≤ sizeLine ∧ AtKv W Hf ks ds
  | .odl, v, d => ∃ (p : Addr) (qs : List (Key × Addr)) (ds : List (Key × List D)), v = .ref p ∧ d = .dct (ds.map fun z => (z.1, .lst z.2)) ∧ ow p = some i ∧ H p = some (.dK (qs.map fun z => (z.1, .ref z.2))) ∧ qs.length ≤ sizeLine ∧
      (p :: qs.map (·.2)).Nodup ∧ Paired (fun (q : Key × Addr) (z : Key × List D) => q.1 = z.1 ∧ ow q.2 = some i ∧ ∃ xs, H q.2 = some (.lst xs) ∧ xs.length ≤ sizeLine ∧ AtAll W Hf xs z.2) qs ds
  | .lk, v, d => ∃ (p : Addr) (od : Obj) (ks : List (Key × V)) (ds : List (Key × D)), v = .ref p ∧ d = .dct ds ∧ Hf p = some (.frz od (.dK ks)) ∧ ks.length ≤ sizeLine ∧ AtKv W Hf ks ds
abbrev Gam := List Own
structure EnvAt (W : Wd) (B : Hp × Hp) (Γ : Gam) (ρ : Rho) (s : Pot) (σ : L2.St) (Hf H : Hp) : Prop where
  ext : Ext W B.1 B.2 Hf H s
  len : σ.length = ρ.length
  own : ∃ ow : Addr → Option Nat, (∀ i d, ρ[i]? = some (some d) → ∃ v, σ[i]? = some (some v) ∧ OwnAt W Hf H ow i (Γ.getD i .sh) v d) ∧ ∀ q i, ow q = some i → Hf q = none ∧ q ≠ W.P ∧ B.2 q = none ∧ ∃ o, H q = some o
theorem OwnAt.ext {W : Wd} {Hf H Hf' H' : Hp} {s : Pot} {ow : Addr → Option Nat} {i : Nat} (x : Ext W Hf H Hf' H' s) (h : ∀ q j, ow q = some j → q ≠ W.P) : ∀ {o : Own} {v : V} {d : D}, OwnAt W Hf H ow i o v d → OwnAt W Hf' H' ow i o v d
  | .sh, _, _, a => At.mono x.ff a
  | .ol, _, _, ⟨p, xs, ds, e1, e2, e3, e4, e5, e6⟩ => ⟨p, xs, ds, e1, e2, e3, x.old _ _ (h _ _ e3) e4, e5, e6.mono x.ff⟩
  | .od, _, _, ⟨p, xs, ds, e1, e2, e3, e4, e5, e6⟩ => ⟨p, xs, ds, e1, e2, e3, x.old _ _ (h _ _ e3) e4, e5, e6.mono x.ff⟩
  | .odl, _, _, ⟨p, qs, ds, e1, e2, e3, e4, e5, e6, e7⟩ => ⟨p, qs, ds, e1, e2, e3, x.old _ _ (h _ _ e3) e4, e5, e6, Paired.mapP e7 fun a b ⟨z1, z2, xs, z3, z4, z5⟩ => ⟨z1, z2, xs, x.old _ _ (h _ _ z2) z3, z4, z5.mono x.ff⟩⟩
  | .lk, _, _, ⟨p, od, ks, ds, e1, e2, e3, e4, e5⟩ => ⟨p, od, ks, ds, e1, e2, x.ff _ _ e3, e4, e5.mono x.ff⟩
theorem EnvAt.ext' {W : Wd} {B : Hp × Hp} {Γ : Gam} {ρ : Rho} {s s' : Pot} {σ : L2.St} {Hf H Hf' H' : Hp} (a : EnvAt W B Γ ρ s σ Hf H) (x : Ext W Hf H Hf' H' s') : EnvAt W B Γ ρ s' σ Hf' H' := by
  obtain ⟨ow, h1, h2⟩ := a.own
  refine ⟨a.ext.trans x, a.len, ow, fun i d e => ?_, fun q i e => ?_⟩
  · obtain ⟨v, e1, z⟩ := h1 i d e
    exact ⟨v, e1, z.ext x fun q j e => (h2 q j e).2.1⟩
  · obtain ⟨z1, z2, z3, o, z4⟩ := h2 q i e
    exact ⟨x.unf _ _ z4 z1, z2, z3, o, x.old _ _ z2 z4⟩
end VL
namespace VL
open PySem PySem.Spec PyProof.Rows L2
def opt {α : Type} : Option α → M α
  | some a => pure a
  | none => nope
theorem post_opt {α : Type} {A : α → Pot → Prop} {B : Nat → D → Pot → Prop} {o : Option α} {s : Pot} : Post A B (opt o s) ↔ ∃ a, o = some a ∧ A a s := by
  cases o with
  | none => constructor
            · intro h; exact h.elim
            · intro ⟨a, e, _⟩; cases e
  | some a => constructor
              · intro h; exact ⟨a, rfl, h⟩
              · intro ⟨b, e, h⟩; cases e; exact h
@[simp] theorem opt_some {α : Type} (a : α) : (opt (some a) : M α) = pure a := by funext s; rfl
@[simp] theorem opt_none {α : Type} : (opt none : M α) = nope := by funext s; rfl
structure Glob where
  prog : Program
  w : World
  K : PySem.W.Frag
  mg : Str → Option Value
  base : Heap
  cls : Nat → Addr
structure Ctx where
  G : Glob
  N : List Str
  sc : Scope
  k : Nat
  P : Addr
  E : XK
  fnf : Str → Bool
  /-- no guarded code runs below (what repr of a list asks) -/
  gd : Bool
abbrev Ctx.W (c : Ctx) : Wd := ⟨c.G.K, c.G.cls, c.P⟩
structure Is (c : Ctx) (X : Cx) : Prop where
  prog : X.prog = c.G.prog
  w : X.w = c.G.w
  K : X.K = c.G.K
  mg : X.mg = c.G.mg
  base : X.base = c.G.base
  N : X.N = c.N
  sc : X.env.scope = c.sc
  room : Room c.k X.A
  calm : X.calm = true
  nd : X.N.Nodup
  fn : X.fn = c.fnf
  pass : Passes (L2.CX X.prog X.w) X c.E
  own : PassesOwn (model X.prog X.w) X.A X.env X.xe
  kind : X.env.scope.kind = .function
  gd : c.gd = true → X.A.guards = some []
def ErrOk (W : Wd) (B : Hp × Hp) (E : XK) (c : Nat) (v : D) (s : Pot) : Prop :=
  ∀ dx u Hf' H', Ext W B.1 B.2 Hf' H' s → H' dx = some (.xd [(("value" : Str), u)]) → At W Hf' u v → E (.ref (W.cls c)) (some dx) H'
abbrev Res := Hp → Hp → Hp → V → D → Prop
def RX (W : Wd) (E : XK) (Γ : Gam) (Rs : Res) (t : TE) (f : Rho → M D) : Prop :=
  ∀ B ρ s σ Hf H Q, EnvAt W B Γ ρ s σ Hf H → Post (fun d s' => ∀ v Hf' H', Ext W Hf H Hf' H' s' → Rs H Hf' H' v d → Q v H') (ErrOk W B E) (f ρ s) → t σ H Q
def RT (W : Wd) (E : XK) (Γ : Gam) (t : TT) (f : Rho → M Bool) : Prop :=
  ∀ B ρ s σ Hf H Q, EnvAt W B Γ ρ s σ Hf H → Post (fun d s' => ∀ Hf' H', Ext W Hf H Hf' H' s' → Q d H') (ErrOk W B E) (f ρ s) → t σ H Q
inductive VAt (W : Wd) (Hf H : Hp) : V → D → Prop
  | fr {v : V} {d : D} : At W Hf v d → VAt W Hf H v d
  | lst {p : Addr} {xs : List V} {ds : List D} : p ≠ W.P → H p = some (.lst xs) → xs.length ≤ sizeLine → AtAll W Hf xs ds → VAt W Hf H (.ref p) (.lst ds)
  | dct {p : Addr} {ks : List (Key × V)} {ds : List (Key × D)} : p ≠ W.P → H p = some (.dK ks) → ks.length ≤ sizeLine → AtKv W Hf ks ds → VAt W Hf H (.ref p) (.dct ds)
inductive VAll (W : Wd) (Hf H : Hp) : List V → List D → Prop
  | nil : VAll W Hf H [] []
  | cons {v : V} {d : D} {vs : List V} {ds : List D} : VAt W Hf H v d → VAll W Hf H vs ds → VAll W Hf H (v :: vs) (d :: ds)
theorem VAt.ext {W : Wd} {Hf H Hf' H' : Hp} {s : Pot} {v : V} {d : D} (x : Ext W Hf H Hf' H' s) : VAt W Hf H v d → VAt W Hf' H' v d
  | .fr h => .fr (h.mono x.ff)
  | .lst h1 h2 h3 h4 => .lst h1 (x.old _ _ h1 h2) h3 (h4.mono x.ff)
  | .dct h1 h2 h3 h4 => .dct h1 (x.old _ _ h1 h2) h3 (h4.mono x.ff)
theorem VAll.ext {W : Wd} {Hf H Hf' H' : Hp} {s : Pot} (x : Ext W Hf H Hf' H' s) : ∀ {v : List V} {d : List D}, VAll W Hf H v d → VAll W Hf' H' v d
  | _, _, .nil => .nil
  | _, _, .cons a r => .cons (a.ext x) (r.ext x)
def rAt (W : Wd) : Res := fun _ Hf' _ v d => At W Hf' v d
def rV (W : Wd) : Res := fun _ Hf' H' v d => VAt W Hf' H' v d
def rF (W : Wd) : Res := fun H Hf' H' v d => ∃ p xs ds, v = .ref p ∧ d = .lst ds ∧ H p = none ∧ Hf' p = none ∧ p ≠ W.P ∧ H' p = some (.lst xs) ∧ xs.length ≤ sizeLine ∧ AtAll W Hf' xs ds
def rFd (W : Wd) : Res := fun H Hf' H' v d => ∃ p ks ds, v = .ref p ∧ d = .dct ds ∧ H p = none ∧ Hf' p = none ∧ p ≠ W.P ∧ H' p = some (.dK ks) ∧ ks.length ≤ sizeLine ∧ AtKv W Hf' ks ds
def rFdl (W : Wd) : Res := fun H Hf' H' v d => ∃ (p : Addr) (qs : List (Key × Addr)) (ds : List (Key × List D)), v = .ref p ∧ d = .dct (ds.map fun z => (z.1, .lst z.2)) ∧ H p = none ∧ Hf' p = none ∧ p ≠ W.P ∧ H' p = some (.dK (qs.map fun z => (z.1, .ref z.2))) ∧ qs.length ≤ sizeLine ∧
  (p :: qs.map (·.2)).Nodup ∧ Paired (fun (q : Key × Addr) (z : Key × List D) => q.1 = z.1 ∧ H q.2 = none ∧ Hf' q.2 = none ∧ q.2 ≠ W.P ∧ ∃ xs, H' q.2 = some (.lst xs) ∧ xs.length ≤ sizeLine ∧ AtAll W Hf' xs z.2) qs ds
def JX (c : Ctx) (Rs : Wd → Res) (Γ : Gam) (e : Expr) (f : Rho → M D) : Prop := ∃ t, (∀ X, Is c X → PE X e t) ∧ RX c.W c.E Γ (Rs c.W) t f
abbrev JE (c : Ctx) := JX c rAt
abbrev JV (c : Ctx) := JX c rV
abbrev JF (c : Ctx) := JX c rF
abbrev JFd (c : Ctx) := JX c rFd
def JT (c : Ctx) (Γ : Gam) (e : Expr) (f : Rho → M Bool) : Prop := ∃ t, (∀ X, Is c X → PT X e t) ∧ RT c.W c.E Γ t f
section
variable {c : Ctx} {W : Wd} {E : XK} {Γ : Gam} {e a b : Expr} {f fa fb : Rho → M D} {pos : Pos}
theorem JX.imp {Rs Rs' : Wd → Res} (h : JX c Rs Γ e f) (i : ∀ W H Hf' H' s v d, Ext W Hf' H' Hf' H' s → (∀ b o, b ≠ W.P → H b = some o → H' b = some o) → Rs W H Hf' H' v d → Rs' W H Hf' H' v d) : JX c Rs' Γ e f := by
  obtain ⟨t, h1, h2⟩ := h
  refine ⟨t, h1, fun B ρ s σ Hf H Q V p => h2 B ρ s σ Hf H Q V (p.imp (fun d s' k v Hf' H' x r => k v Hf' H' x ?_) fun _ _ _ z => z)⟩
  exact i _ _ _ _ s' _ _ x.refl x.old r
theorem JX.v (h : JX c rAt Γ e f) : JX c rV Γ e f := h.imp fun _ _ _ _ _ _ _ _ _ r => .fr r
theorem JX.fv (h : JX c rF Γ e f) : JX c rV Γ e f := h.imp fun _ _ _ _ _ _ _ _ _ ⟨p, xs, ds, e1, e2, _, _, nP, h1, h2, h3⟩ => by subst e1; subst e2; exact .lst nP h1 h2 h3
theorem JX.fdv (h : JX c rFd Γ e f) : JX c rV Γ e f := h.imp fun _ _ _ _ _ _ _ _ _ ⟨p, xs, ds, e1, e2, _, _, nP, h1, h2, h3⟩ => by subst e1; subst e2; exact .dct nP h1 h2 h3
theorem JX.fe (h : JX c rF Γ e f) : JX c rAt Γ e f := by
  obtain ⟨t, h1, h2⟩ := h
  refine ⟨t, h1, fun B ρ s σ Hf H Q V p => h2 B ρ s σ Hf H Q V (p.imp (fun d s' k v Hf' H' x r => ?_) fun _ _ _ z => z)⟩
  obtain ⟨q, xs, ds, e1, e2, n0, nf, nP, hq, hl, ha⟩ := r
  subst e1; subst e2
  have y := x.freeze hq nf nP n0
  refine k _ _ _ y (.lst upd_same hl (ha.mono ?_))
  intro b o hb
  rw [upd_ne (fun z => by rw [z, nf] at hb; cases hb)]; exact hb
theorem JX.fde (h : JX c rFd Γ e f) : JX c rAt Γ e f := by
  obtain ⟨t, h1, h2⟩ := h
  refine ⟨t, h1, fun B ρ s σ Hf H Q V p => h2 B ρ s σ Hf H Q V (p.imp (fun d s' k v Hf' H' x r => ?_) fun _ _ _ z => z)⟩
  obtain ⟨q, xs, ds, e1, e2, n0, nf, nP, hq, hl, ha⟩ := r
  subst e1; subst e2
  have y := x.freeze hq nf nP n0
  refine k _ _ _ y (.dct (.inl upd_same) hl (ha.mono ?_))
  intro b o hb
  rw [upd_ne (fun z => by rw [z, nf] at hb; cases hb)]; exact hb
def slot (i : Nat) (ρ : Rho) : M D := match ρ[i]? with
  | some (some d) => pure d
  | _ => nope
theorem post_slot {A : D → Pot → Prop} {B : Nat → D → Pot → Prop} {i : Nat} {ρ : Rho} {s : Pot} (h : Post A B (slot i ρ s)) : ∃ d, ρ[i]? = some (some d) ∧ A d s := by
  unfold slot at h
  cases e : ρ[i]? with
  | none => rw [e] at h; exact h.elim
  | some o => cases o with
    | none => rw [e] at h; exact h.elim
    | some d => rw [e] at h; exact ⟨d, rfl, h⟩
theorem Is.vis {X : Cx} (h : Is c X) {x : Str} (hv : Vis c.sc x) : Vis X.env.scope x := by rw [h.sc]; exact hv
theorem Is.gl {X : Cx} (h : Is c X) {x : Str} (hv : c.sc.names.lookup x = some .globalImplicit) : Gl X x := by
  unfold Gl Env.kindOf; rw [h.sc]; exact hv
theorem EnvAt.ext0 {B : Hp × Hp} {ρ : Rho} {s : Pot} {σ : L2.St} {Hf H : Hp} (V : EnvAt W B Γ ρ s σ Hf H) : Ext W Hf H Hf H s := V.ext.refl
theorem je_var (i : Nat) {x : Str} (hN : c.N[i]? = some x) (hv : Vis c.sc x) (hΓ : Γ.getD i .sh = .sh) (hd : (x == ("__debug__" : Str)) = false := by decide) (hcd : (x == ("__classdict__" : Str)) = false := by decide) : JE c Γ (.Name x pos) (slot i) := by
  refine ⟨tVar i, fun X h => pe_var (by rw [h.N]; exact hN) (h.vis hv) hd hcd, fun B ρ s σ Hf H Q V p => ?_⟩
  obtain ⟨d, e, k⟩ := post_slot p
  obtain ⟨ow, h1, _⟩ := V.own
  obtain ⟨v, e1, z⟩ := h1 i d e
  rw [hΓ] at z
  exact ⟨v, e1, k v Hf H V.ext0 z⟩
theorem je_varL (i : Nat) {x : Str} (hN : c.N[i]? = some x) (hv : Vis c.sc x) (hΓ : Γ.getD i .sh = .lk) (hd : (x == ("__debug__" : Str)) = false := by decide) (hcd : (x == ("__classdict__" : Str)) = false := by decide) : JE c Γ (.Name x pos) (slot i) := by
  refine ⟨tVar i, fun X h => pe_var (by rw [h.N]; exact hN) (h.vis hv) hd hcd, fun B ρ s σ Hf H Q V p => ?_⟩
  obtain ⟨d, e, k⟩ := post_slot p
  obtain ⟨ow, h1, _⟩ := V.own
  obtain ⟨v, e1, z⟩ := h1 i d e
  rw [hΓ] at z
  obtain ⟨p, od, ks, ds, a1, a2, a3, a4, a5⟩ := z
  subst a1; subst a2
  exact ⟨_, e1, k _ Hf H V.ext0 (.dct (.inr ⟨_, a3⟩) a4 a5)⟩
theorem jv_var (i : Nat) {x : Str} (hN : c.N[i]? = some x) (hv : Vis c.sc x) (hΓ : Γ.getD i .sh ≠ .odl) (hd : (x == ("__debug__" : Str)) = false := by decide) (hcd : (x == ("__classdict__" : Str)) = false := by decide) : JV c Γ (.Name x pos) (slot i) := by
  refine ⟨tVar i, fun X h => pe_var (by rw [h.N]; exact hN) (h.vis hv) hd hcd, fun B ρ s σ Hf H Q V p => ?_⟩
  obtain ⟨d, e, k⟩ := post_slot p
  obtain ⟨ow, h1, h2⟩ := V.own
  obtain ⟨v, e1, z⟩ := h1 i d e
  refine ⟨v, e1, k v Hf H V.ext0 ?_⟩
  cases ho : Γ.getD i .sh with
  | sh => rw [ho] at z; exact .fr z
  | ol => rw [ho] at z
          obtain ⟨p, xs, ds, e1, e2, e3, e4, e5, e6⟩ := z
          subst e1; subst e2
          exact .lst (h2 _ _ e3).2.1 e4 e5 e6
  | od => rw [ho] at z
          obtain ⟨p, xs, ds, e1, e2, e3, e4, e5, e6⟩ := z
          subst e1; subst e2
          exact .dct (h2 _ _ e3).2.1 e4 e5 e6
  | odl => exact absurd ho hΓ
  | lk => rw [ho] at z
          obtain ⟨p, od, ks, ds, e1, e2, e3, e4, e5⟩ := z
          subst e1; subst e2
          exact .fr (.dct (.inr ⟨_, e3⟩) e4 e5)
theorem je_int {i : Int} {j} : JE c Γ (.Constant (.int i) j pos) (fun _ => pure (.int i)) :=
  ⟨tC (.int i), fun X _ => pe_int, fun B ρ s σ Hf H Q V p => p _ _ _ V.ext0 (.int i)⟩
theorem je_bl {i : Bool} {j} : JE c Γ (.Constant (.bool i) j pos) (fun _ => pure (.bl i)) :=
  ⟨tC (.bl i), fun X _ => pe_bl, fun B ρ s σ Hf H Q V p => p _ _ _ V.ext0 (.bl i)⟩
theorem je_str {i : Str} {j} : JE c Γ (.Constant (.str i) j pos) (fun _ => pure (.str i)) :=
  ⟨tC (.str i), fun X _ => pe_str, fun B ρ s σ Hf H Q V p => p _ _ _ V.ext0 (.str i)⟩
theorem je_non {j} : JE c Γ (.Constant .none j pos) (fun _ => pure .non) :=
  ⟨tC .non, fun X _ => pe_non, fun B ρ s σ Hf H Q V p => p _ _ _ V.ext0 .non⟩
theorem je_gstr {x : Str} {z : Str} (hg : c.sc.names.lookup x = some .globalImplicit) (hm : ∃ t, c.G.mg x = some (.str z t)) (hd : (x == ("__debug__" : Str)) = false := by decide) : JE c Γ (.Name x pos) (fun _ => pure (.str z)) := by
  obtain ⟨t, hm⟩ := hm
  exact ⟨tC (.str z), fun X h => pe_glob (h.gl hg) (by rw [h.mg]; exact hm) ⟨t, rfl⟩ hd, fun B ρ s σ Hf H Q V p => p _ _ _ V.ext0 (.str z)⟩
theorem je_gint {x : Str} {z : Int} (hg : c.sc.names.lookup x = some .globalImplicit) (hm : ∃ t, c.G.mg x = some (.int z t)) (hd : (x == ("__debug__" : Str)) = false := by decide) : JE c Γ (.Name x pos) (fun _ => pure (.int z)) := by
  obtain ⟨t, hm⟩ := hm
  exact ⟨tC (.int z), fun X h => pe_glob (h.gl hg) (by rw [h.mg]; exact hm) ⟨t, rfl⟩ hd, fun B ρ s σ Hf H Q V p => p _ _ _ V.ext0 (.int z)⟩
def OpD (W : Wd) (Rs : Res) (r : R2) (g : D → D → Option D) : Prop :=
  ∀ Hf H s x y d e z Q, Ext W Hf H Hf H s → VAt W Hf H x d → VAt W Hf H y e → g d e = some z → (∀ v Hf' H', Ext W Hf H Hf' H' s → Rs H Hf' H' v z → Q v H') → r x y H Q
def bin (g : D → D → Option D) (fa fb : Rho → M D) : Rho → M D := fun ρ => do
  let d ← fa ρ
  let e ← fb ρ
  opt (g d e)
theorem Rs_old {Hf0 H0 Hf H : Hp} {s : Pot} (x : Ext W Hf0 H0 Hf H s) {p : Addr} (h : H p = none) (hp : p ≠ W.P) : H0 p = none := by
  cases e : H0 p with
  | none => rfl
  | some o => rw [x.old _ _ hp e] at h; cases h
def Elder (W : Wd) (Rs : Res) : Prop := ∀ Hf0 H0 Hf H s Hf' H' s' v d, Ext W Hf0 H0 Hf H s → Ext W Hf H Hf' H' s' → Rs H Hf' H' v d → Rs H0 Hf' H' v d
theorem elder_at : Elder W (rAt W) := fun _ _ _ _ _ _ _ _ _ _ _ _ r => r
theorem elder_f : Elder W (rF W) := fun _ _ _ _ _ _ _ _ _ _ x _ ⟨p, xs, ds, e1, e2, n0, nf, nP, r⟩ => ⟨p, xs, ds, e1, e2, Rs_old x n0 nP, nf, nP, r⟩
theorem elder_fd : Elder W (rFd W) := fun _ _ _ _ _ _ _ _ _ _ x _ ⟨p, xs, ds, e1, e2, n0, nf, nP, r⟩ => ⟨p, xs, ds, e1, e2, Rs_old x n0 nP, nf, nP, r⟩
theorem rx_bin {Rs : Res} {r : R2} {g : D → D → Option D} {ta tb : TE} (el : Elder W Rs) (ho : OpD W Rs r g) (ha : RX W E Γ (rV W) ta fa) (hb : RX W E Γ (rV W) tb fb) : RX W E Γ Rs (tOp r ta tb) (bin g fa fb) := by
  intro B ρ s σ Hf H Q V p
  unfold bin at p
  rw [post_bind] at p
  refine ha B ρ s σ Hf H _ V (p.imp (fun d s1 p1 v Hf1 H1 x1 r1 => ?_) fun _ _ _ z => z)
  rw [post_bind] at p1
  have V1 := V.ext' x1
  refine hb B ρ s1 σ Hf1 H1 _ V1 (p1.imp (fun d2 s2 p2 v2 Hf2 H2 x2 r2 => ?_) fun _ _ _ z => z)
  rw [post_opt] at p2
  obtain ⟨z, e, k⟩ := p2
  refine ho Hf2 H2 s2 v v2 d d2 z Q x2.refl (VAt.ext x2 r1) r2 e fun u Hf3 H3 x3 r3 => k u Hf3 H3 ((x1.trans x2).trans x3) (el _ _ _ _ _ _ _ _ _ _ (x1.trans x2) x3 r3)
theorem jx_op {Rs : Wd → Res} {op : Operator} {r : R2} {g : D → D → Option D} (el : ∀ W, Elder W (Rs W)) (hr : ∀ X, Is c X → OpR X (binaryOp op) r) (ho : OpD c.W (Rs c.W) r g) (ha : JV c Γ a fa) (hb : JV c Γ b fb) : JX c Rs Γ (.BinOp a op b pos) (bin g fa fb) := by
  obtain ⟨ta, a1, a2⟩ := ha
  obtain ⟨tb, b1, b2⟩ := hb
  exact ⟨tOp r ta tb, fun X h => pe_op (hr X h) (a1 X h) (b1 X h), rx_bin (el _) ho a2 b2⟩
theorem jx_cmp {op : CmpOp} {r : R2} {g : D → D → Option D} (hr : ∀ X, Is c X → OpR X (compareOp op) r) (ho : OpD c.W (rAt c.W) r g) (ha : JV c Γ a fa) (hb : JV c Γ b fb) (hm : behindInMarks op b = false) : JE c Γ (.Compare a [op] [b] pos) (bin g fa fb) := by
  obtain ⟨ta, a1, a2⟩ := ha
  obtain ⟨tb, b1, b2⟩ := hb
  exact ⟨tOp r ta tb, fun X h => pe_cmpR (hr X h) (a1 X h) (b1 X h) hm, rx_bin elder_at ho a2 b2⟩
def asBl (d : D) : M Bool := match d with
  | .bl b => pure b
  | _ => nope
theorem post_asBl {A : Bool → Pot → Prop} {B : Nat → D → Pot → Prop} {d : D} {s : Pot} (h : Post A B (asBl d s)) : ∃ b, d = .bl b ∧ A b s := by
  cases d with
  | bl b => exact ⟨b, rfl, h⟩
  | _ => exact h.elim
def tst (f : Rho → M D) : Rho → M Bool := fun ρ => do asBl (← f ρ)
theorem VAt.bl' {Hf H : Hp} {v : V} {b : Bool} (h : VAt W Hf H v (.bl b)) : v = .bl b := by
  cases h with
  | fr h => cases h; rfl
theorem VAt.int' {Hf H : Hp} {v : V} {b : Int} (h : VAt W Hf H v (.int b)) : v = .int b := by
  cases h with
  | fr h => cases h; rfl
theorem VAt.str' {Hf H : Hp} {v : V} {b : Str} (h : VAt W Hf H v (.str b)) : v = .str b := by
  cases h with
  | fr h => cases h; rfl
theorem VAt.non' {Hf H : Hp} {v : V} (h : VAt W Hf H v .non) : v = .non := by
  cases h with
  | fr h => cases h; rfl
theorem VAt.lst' {Hf H : Hp} {v : V} {ds : List D} (e : Same Hf H) (h : VAt W Hf H v (.lst ds)) : ∃ p xs, v = .ref p ∧ H p = some (.lst xs) ∧ xs.length ≤ sizeLine ∧ AtAll W Hf xs ds := by
  cases h with
  | fr h => cases h with
    | lst h1 h2 h3 => exact ⟨_, _, rfl, e _ _ h1, h2, h3⟩
  | lst h0 h1 h2 h3 => exact ⟨_, _, rfl, h1, h2, h3⟩
theorem VAt.tup' {Hf H : Hp} {v : V} {ds : List D} (e : Same Hf H) (h : VAt W Hf H v (.tup ds)) : ∃ p xs, v = .ref p ∧ SqT W.K H p xs ∧ xs.length ≤ sizeLine ∧ AtAll W Hf xs ds := by
  cases h with
  | fr h => cases h with
    | tup h1 h2 h3 => exact ⟨_, _, rfl, Same.sqT e h1, h2, h3⟩
theorem VAt.dct' {Hf H : Hp} {v : V} {ds : List (Key × D)} (e : Same Hf H) (h : VAt W Hf H v (.dct ds)) : ∃ p xs, v = .ref p ∧ Rd H p (.dK xs) ∧ xs.length ≤ sizeLine ∧ AtKv W Hf xs ds := by
  cases h with
  | fr h => cases h with
    | dct h1 h2 h3 => exact ⟨_, _, rfl, Same.rd e h1, h2, h3⟩
  | dct h0 h1 h2 h3 => exact ⟨_, _, rfl, .inl h1, h2, h3⟩
theorem rt_of {t : TE} (h : RX W E Γ (rV W) t f) : RT W E Γ (tTest t) (tst f) := by
  intro B ρ s σ Hf H Q V p
  unfold tst at p
  rw [post_bind] at p
  refine h B ρ s σ Hf H _ V (p.imp (fun d s1 p1 v Hf1 H1 x1 r1 => ?_) fun _ _ _ z => z)
  obtain ⟨b, rfl, k⟩ := post_asBl p1
  exact ⟨b, r1.bl', k _ _ x1⟩
theorem jt_val (h : JV c Γ e f) (he : ∀ (env : Env) whole, isTrue e env whole = (do let v ← whole; standAt e.pos; holding [v] (truthy v)) := by intro _ _; rfl) : JT c Γ e (tst f) := by
  obtain ⟨t, h1, h2⟩ := h
  exact ⟨tTest t, fun X hX => by
    have := pt_val (h1 X hX) (he X.env)
    exact this, rt_of h2⟩
theorem jt_cmp {op : CmpOp} {r : R2} {g : D → D → Option D} (hr : ∀ X, Is c X → OpR X (compareOp op) r) (ho : OpD c.W (rAt c.W) r g) (ha : JV c Γ a fa) (hb : JV c Γ b fb) (hm : behindInMarks op b = false) : JT c Γ (.Compare a [op] [b] pos) (tst (bin g fa fb)) := by
  obtain ⟨ta, a1, a2⟩ := ha
  obtain ⟨tb, b1, b2⟩ := hb
  refine ⟨tTest (tOp r ta tb), fun X h => pt_cmpR (hr X h) (a1 X h) (b1 X h) hm, rt_of ?_⟩
  have q := rx_bin elder_at ho a2 b2
  intro B ρ s σ Hf H Q V p
  exact q B ρ s σ Hf H Q V (p.imp (fun d s' k v Hf' H' x r => k v Hf' H' x (.fr r)) fun _ _ _ z => z)
def andB (f g : Rho → M Bool) : Rho → M Bool := fun ρ => do
  let b ← f ρ
  if b = true then g ρ else pure false
def orB (f g : Rho → M Bool) : Rho → M Bool := fun ρ => do
  let b ← f ρ
  if b = true then pure true else g ρ
def notB (f : Rho → M Bool) : Rho → M Bool := fun ρ => do
  let b ← f ρ
  pure !b
def JW (c : Ctx) (Γ : Gam) (e : Expr) (f : Rho → M Bool) : Prop := ∃ t, (∀ X, Is c X → PW X e t) ∧ RT c.W c.E Γ t f
theorem JW.jt {f : Rho → M Bool} (h : JW c Γ e f) : JT c Γ e f := by
  obtain ⟨t, h1, h2⟩ := h
  exact ⟨t, fun X hX => (h1 X hX).pt, h2⟩
theorem jw_and1 {g : Rho → M Bool} (h : JT c Γ a g) : JW c Γ (.BoolOp .And [a] pos) g := by
  obtain ⟨t, h1, h2⟩ := h
  exact ⟨t, fun X hX => pw_and1 (h1 X hX), h2⟩
theorem jw_or1 {g : Rho → M Bool} (h : JT c Γ a g) : JW c Γ (.BoolOp .Or [a] pos) g := by
  obtain ⟨t, h1, h2⟩ := h
  exact ⟨t, fun X hX => pw_or1 (h1 X hX), h2⟩
theorem jw_and {g g' : Rho → M Bool} {rest : List Expr} (h : JT c Γ a g) (h' : JW c Γ (.BoolOp .And (b :: rest) pos) g') : JW c Γ (.BoolOp .And (a :: b :: rest) pos) (andB g g') := by
  obtain ⟨t, h1, h2⟩ := h
  obtain ⟨t', h1', h2'⟩ := h'
  refine ⟨_, fun X hX => pw_and (h1 X hX) (h1' X hX), fun B ρ s σ Hf H Q V p => ?_⟩
  unfold andB at p
  rw [post_bind] at p
  refine h2 B ρ s σ Hf H _ V (p.imp (fun d s1 p1 Hf1 H1 x1 => ?_) fun _ _ _ z => z)
  cases d with
  | true => exact h2' B ρ s1 σ Hf1 H1 _ (V.ext' x1) (p1.imp (fun d2 s2 k Hf2 H2 x2 => k _ _ (x1.trans x2)) fun _ _ _ z => z)
  | false => exact p1 _ _ x1
theorem jw_or {g g' : Rho → M Bool} {rest : List Expr} (h : JT c Γ a g) (h' : JW c Γ (.BoolOp .Or (b :: rest) pos) g') : JW c Γ (.BoolOp .Or (a :: b :: rest) pos) (orB g g') := by
  obtain ⟨t, h1, h2⟩ := h
  obtain ⟨t', h1', h2'⟩ := h'
  refine ⟨_, fun X hX => pw_or (h1 X hX) (h1' X hX), fun B ρ s σ Hf H Q V p => ?_⟩
  unfold orB at p
  rw [post_bind] at p
  refine h2 B ρ s σ Hf H _ V (p.imp (fun d s1 p1 Hf1 H1 x1 => ?_) fun _ _ _ z => z)
  cases d with
  | false => exact h2' B ρ s1 σ Hf1 H1 _ (V.ext' x1) (p1.imp (fun d2 s2 k Hf2 H2 x2 => k _ _ (x1.trans x2)) fun _ _ _ z => z)
  | true => exact p1 _ _ x1
theorem jt_not {g : Rho → M Bool} (h : JT c Γ a g) : JT c Γ (.UnaryOp .Not a pos) (notB g) := by
  obtain ⟨t, h1, h2⟩ := h
  refine ⟨_, fun X hX => pt_not (h1 X hX), fun B ρ s σ Hf H Q V p => ?_⟩
  unfold notB at p
  rw [post_bind] at p
  exact h2 B ρ s σ Hf H _ V (p.imp (fun d s1 p1 Hf1 H1 x1 => p1 _ _ x1) fun _ _ _ z => z)
theorem je_one {op} {g : Rho → M D} (h : JE c Γ a g) : JE c Γ (.BoolOp op [a] pos) g := by
  obtain ⟨t, h1, h2⟩ := h
  exact ⟨t, fun X hX => pe_one (h1 X hX), h2⟩
def andV (f g : Rho → M D) : Rho → M D := fun ρ => do
  let b ← asBl (← f ρ)
  if b = true then g ρ else pure (.bl false)
def orV (f g : Rho → M D) : Rho → M D := fun ρ => do
  let b ← asBl (← f ρ)
  if b = true then pure (.bl true) else g ρ
def notV (f : Rho → M D) : Rho → M D := fun ρ => do
  let b ← asBl (← f ρ)
  pure (.bl !b)
theorem At.bl' {H : Hp} {v : V} {b : Bool} (h : At W H v (.bl b)) : v = .bl b := by cases h; rfl
theorem je_and {rest : List Expr} (ha : JE c Γ a fa) (hb : JE c Γ (.BoolOp .And (b :: rest) pos) fb) : JE c Γ (.BoolOp .And (a :: b :: rest) pos) (andV fa fb) := by
  obtain ⟨t, h1, h2⟩ := ha
  obtain ⟨t', h1', h2'⟩ := hb
  refine ⟨_, fun X hX => pe_and (h1 X hX) (h1' X hX), fun B ρ s σ Hf H Q V p => ?_⟩
  unfold andV at p
  rw [post_bind] at p
  refine h2 B ρ s σ Hf H _ V (p.imp (fun d s1 p1 v Hf1 H1 x1 r1 => ?_) fun _ _ _ z => z)
  rw [post_bind] at p1
  obtain ⟨b, rfl, p2⟩ := post_asBl p1
  refine ⟨b, At.bl' r1, ?_⟩
  cases b with
  | true => exact h2' B ρ s1 σ Hf1 H1 _ (V.ext' x1) (p2.imp (fun d2 s2 k v2 Hf2 H2 x2 r2 => k _ _ _ (x1.trans x2) r2) fun _ _ _ z => z)
  | false => exact p2 _ _ _ x1 (.bl _)
theorem je_or {rest : List Expr} (ha : JE c Γ a fa) (hb : JE c Γ (.BoolOp .Or (b :: rest) pos) fb) : JE c Γ (.BoolOp .Or (a :: b :: rest) pos) (orV fa fb) := by
  obtain ⟨t, h1, h2⟩ := ha
  obtain ⟨t', h1', h2'⟩ := hb
  refine ⟨_, fun X hX => pe_or (h1 X hX) (h1' X hX), fun B ρ s σ Hf H Q V p => ?_⟩
  unfold orV at p
  rw [post_bind] at p
  refine h2 B ρ s σ Hf H _ V (p.imp (fun d s1 p1 v Hf1 H1 x1 r1 => ?_) fun _ _ _ z => z)
  rw [post_bind] at p1
  obtain ⟨b, rfl, p2⟩ := post_asBl p1
  refine ⟨b, At.bl' r1, ?_⟩
  cases b with
  | false => exact h2' B ρ s1 σ Hf1 H1 _ (V.ext' x1) (p2.imp (fun d2 s2 k v2 Hf2 H2 x2 r2 => k _ _ _ (x1.trans x2) r2) fun _ _ _ z => z)
  | true => exact p2 _ _ _ x1 (.bl _)
def ifV (g : Rho → M Bool) (f h : Rho → M D) : Rho → M D := fun ρ => do
  let b ← g ρ
  if b = true then f ρ else h ρ
theorem jx_if {Rs : Wd → Res} {x : Expr} {g : Rho → M Bool} (el : ∀ W, Elder W (Rs W)) (hg : JT c Γ x g) (ha : JX c Rs Γ a fa) (hb : JX c Rs Γ b fb) : JX c Rs Γ (.IfExp x a b pos) (ifV g fa fb) := by
  obtain ⟨t, h1, h2⟩ := hg
  obtain ⟨ta, a1, a2⟩ := ha
  obtain ⟨tb, b1, b2⟩ := hb
  refine ⟨_, fun X hX => pe_ifExp (h1 X hX) (a1 X hX) (b1 X hX), fun B ρ s σ Hf H Q V p => ?_⟩
  unfold ifV at p
  rw [post_bind] at p
  refine h2 B ρ s σ Hf H _ V (p.imp (fun d s1 p1 Hf1 H1 x1 => ?_) fun _ _ _ z => z)
  cases d with
  | true => exact a2 B ρ s1 σ Hf1 H1 _ (V.ext' x1) (p1.imp (fun d2 s2 k v2 Hf2 H2 x2 r2 => k _ _ _ (x1.trans x2) (el _ _ _ _ _ _ _ _ _ _ _ x1 x2 r2)) fun _ _ _ z => z)
  | false => exact b2 B ρ s1 σ Hf1 H1 _ (V.ext' x1) (p1.imp (fun d2 s2 k v2 Hf2 H2 x2 r2 => k _ _ _ (x1.trans x2) (el _ _ _ _ _ _ _ _ _ _ _ x1 x2 r2)) fun _ _ _ z => z)
end
end VL
namespace VL
open PySem PySem.Spec PyProof.Rows L2
mutual
def toPy : D → Option PyData
  | .non => some .none
  | .bl b => some (.bool b)
  | .int i => some (.int i)
  | .str s => some (.str s)
  | .tup l => (toPyL l).map .tuple
  | .lst l => (toPyL l).map .list
  | .dct _ => none
  | .obj _ _ => none
  | .exc _ _ => none
  | .clo _ _ => none
  | .pot => none
  | .tok _ => none
def toPyL : List D → Option (List PyData)
  | [] => some []
  | d :: r => match toPy d, toPyL r with
    | some a, some b => some (a :: b)
    | _, _ => none
end
section
variable {c : Ctx} {W : Wd} {E : XK} {Γ : Gam} {e a b : Expr} {f fa fb : Rho → M D} {pos : Pos} {Hf H : Hp}
mutual
theorem At.dp : ∀ {v : V} {d : D} {p : PyData}, At W H v d → toPy d = some p → Dp W.K H v p
  | _, _, p, .non, h => by simp only [toPy, Option.some.injEq] at h; subst h; exact .non
  | _, _, p, .bl b, h => by simp only [toPy, Option.some.injEq] at h; subst h; exact .bl b
  | _, _, p, .int i, h => by simp only [toPy, Option.some.injEq] at h; subst h; exact .int i
  | _, _, p, .str x, h => by simp only [toPy, Option.some.injEq] at h; subst h; exact .str x
  | _, _, p, .tup (ds := ds) h1 _ r, h => by
    simp only [toPy, Option.map_eq_some_iff] at h
    obtain ⟨q, hq, rfl⟩ := h
    exact .tup h1 (AtAll.dp r hq)
  | _, _, p, .lst (ds := ds) h1 _ r, h => by
    simp only [toPy, Option.map_eq_some_iff] at h
    obtain ⟨q, hq, rfl⟩ := h
    exact .lst (SqL.of h1) (AtAll.dp r hq)
  | _, _, p, .dct _ _ _, h => by simp [toPy] at h
  | _, _, p, .obj _ _, h => by simp [toPy] at h
  | _, _, p, .pot, h => by simp [toPy] at h
theorem AtAll.dp : ∀ {v : List V} {d : List D} {p : List PyData}, AtAll W H v d → toPyL d = some p → DpAll W.K H v p
  | _, _, p, .nil, h => by simp only [toPyL, Option.some.injEq] at h; subst h; exact .nil
  | _, _, p, .cons (d := d) (ds := ds) h1 r, h => by
    simp only [toPyL] at h
    cases e1 : toPy d with
    | none => rw [e1] at h; simp at h
    | some x =>
      cases e2 : toPyL ds with
      | none => rw [e1, e2] at h; simp at h
      | some y =>
        rw [e1, e2] at h
        simp only [Option.some.injEq] at h
        subst h
        exact .cons (At.dp h1 e1) (AtAll.dp r e2)
end
theorem VAt.dp {v : V} {d : D} {p : PyData} (e : Same Hf H) (h : VAt W Hf H v d) (hp : toPy d = some p) : Dp W.K H v p := by
  cases h with
  | fr h => exact (h.mono e).dp hp
  | lst h0 h1 h2 h3 =>
    simp only [toPy, Option.map_eq_some_iff] at hp
    obtain ⟨q, hq, rfl⟩ := hp
    exact .lst (SqL.of h1) ((h3.mono e).dp hq)
  | dct h0 h1 h2 h3 => simp [toPy] at hp
def py (d : D) : Option PyData := match toPy d with
  | some p => if SeqAt.shaped p = true then some p else none
  | none => none
theorem py_some {d : D} {p : PyData} (h : py d = some p) : toPy d = some p ∧ SeqAt.shaped p = true := by
  unfold py at h
  cases e : toPy d with
  | none => rw [e] at h; cases h
  | some q =>
    rw [e] at h
    by_cases hs : SeqAt.shaped q = true
    · simp only [hs, if_true, Option.some.injEq] at h; subst h; exact ⟨rfl, hs⟩
    · simp only [hs] at h; simp at h
def eqD (d e : D) : Option D := match py d, py e with
  | some a, some b => some (.bl (PyData.eqv a b))
  | _, _ => none
def neD (d e : D) : Option D := match py d, py e with
  | some a, some b => some (.bl (!PyData.eqv a b))
  | _, _ => none
theorem opd_eq : OpD W (rAt W) (rEqD W.K) eqD := by
  intro Hf H s x y d e z Q x0 hx hy hg k
  unfold eqD at hg
  cases e1 : py d with
  | none => rw [e1] at hg; cases hg
  | some p => cases e2 : py e with
    | none => rw [e1, e2] at hg; cases hg
    | some q =>
      rw [e1, e2] at hg
      cases hg
      exact ⟨p, q, hx.dp x0.fh (py_some e1).1, hy.dp x0.fh (py_some e2).1, (py_some e1).2, (py_some e2).2, k _ _ _ x0 (.bl _)⟩
theorem opd_ne : OpD W (rAt W) (rNeD W.K) neD := by
  intro Hf H s x y d e z Q x0 hx hy hg k
  unfold neD at hg
  cases e1 : py d with
  | none => rw [e1] at hg; cases hg
  | some p => cases e2 : py e with
    | none => rw [e1, e2] at hg; cases hg
    | some q =>
      rw [e1, e2] at hg
      cases hg
      exact ⟨p, q, hx.dp x0.fh (py_some e1).1, hy.dp x0.fh (py_some e2).1, (py_some e1).2, (py_some e2).2, k _ _ _ x0 (.bl _)⟩
theorem or_eq (X : Cx) (h : Is c X) : OpR X (compareOp .Eq) (rEqD c.W.K) := by
  have := op_eqD (X := X) h.room.units
  rw [h.K] at this; exact this
theorem or_ne (X : Cx) (h : Is c X) : OpR X (compareOp .NotEq) (rNeD c.W.K) := by
  have := op_neD (X := X) h.room.units
  rw [h.K] at this; exact this
theorem je_eq (ha : JV c Γ a fa) (hb : JV c Γ b fb) : JE c Γ (.Compare a [.Eq] [b] pos) (bin eqD fa fb) := jx_cmp or_eq opd_eq ha hb (nomark _)
theorem je_ne (ha : JV c Γ a fa) (hb : JV c Γ b fb) : JE c Γ (.Compare a [.NotEq] [b] pos) (bin neD fa fb) := jx_cmp or_ne opd_ne ha hb (nomark _)
theorem jt_eq (ha : JV c Γ a fa) (hb : JV c Γ b fb) : JT c Γ (.Compare a [.Eq] [b] pos) (tst (bin eqD fa fb)) := jt_cmp or_eq opd_eq ha hb (nomark _)
theorem jt_ne (ha : JV c Γ a fa) (hb : JV c Γ b fb) : JT c Γ (.Compare a [.NotEq] [b] pos) (tst (bin neD fa fb)) := jt_cmp or_ne opd_ne ha hb (nomark _)
def pyL (d : D) : Option (List PyData) := match d with
  | .lst l => match py (.lst l) with
    | some (.list ds) => some ds
    | _ => none
  | .tup l => match py (.tup l) with
    | some (.tuple ds) => some ds
    | _ => none
  | _ => none
def hasD (d e : D) : Option Bool := match d, e with
  | .str x, .str y => some (!(Builtin.Str.occurrences y x 0 y.length 1).isEmpty)
  | d, e => match py d, pyL e with
    | some a, some l => some (l.any fun z => PyData.eqv z a)
    | _, _ => none
def inD (d e : D) : Option D := (hasD d e).map .bl
def notInD (d e : D) : Option D := (hasD d e).map fun b => .bl (!b)
def rInT (K : PySem.W.Frag) : R2 := fun x y H Q => ∃ d ds, Dp K H x d ∧ Dp K H y (.tuple ds) ∧ SeqAt.shaped d = true ∧ SeqAt.shaped (.tuple ds) = true ∧ Q (.bl (ds.any fun z => PyData.eqv z d)) H
def rNotInT (K : PySem.W.Frag) : R2 := fun x y H Q => ∃ d ds, Dp K H x d ∧ Dp K H y (.tuple ds) ∧ SeqAt.shaped d = true ∧ SeqAt.shaped (.tuple ds) = true ∧ Q (.bl (!ds.any fun z => PyData.eqv z d)) H
theorem op_inT {X : Cx} (hu : X.A.units + 65 < cLine) : OpR X (compareOp .In) (rInT X.K) := by
  intro pins s σ H x y v u Q I rx ry h
  obtain ⟨d, ds, hd, he, sd, se, q⟩ := h
  obtain ⟨as, r1⟩ := Dp.reads I d x v hd rx
  obtain ⟨bs, r2⟩ := Dp.reads I (.tuple ds) y u he ry
  exact SeqAt.in_tuple_reads r2 r1 (SeqAt.canLay_of_shaped se) (SeqAt.canLay_of_shaped sd) (room_in_shaped sd hu) ⟨.bl _, H, I, rfl, q⟩
theorem op_notInT {X : Cx} (hu : X.A.units + 65 < cLine) : OpR X (compareOp .NotIn) (rNotInT X.K) := by
  intro pins s σ H x y v u Q I rx ry h
  obtain ⟨d, ds, hd, he, sd, se, q⟩ := h
  obtain ⟨as, r1⟩ := Dp.reads I d x v hd rx
  obtain ⟨bs, r2⟩ := Dp.reads I (.tuple ds) y u he ry
  exact SeqAt.notIn_tuple_reads r2 r1 (SeqAt.canLay_of_shaped se) (SeqAt.canLay_of_shaped sd) (room_in_shaped sd hu) ⟨.bl _, H, I, rfl, q⟩
def rInS : R2 := fun x y H Q => ∃ i j, x = .str i ∧ y = .str j ∧ Q (.bl (!(Builtin.Str.occurrences j i 0 j.length 1).isEmpty)) H
def rNotInS : R2 := fun x y H Q => ∃ i j, x = .str i ∧ y = .str j ∧ Q (.bl (!(!(Builtin.Str.occurrences j i 0 j.length 1).isEmpty))) H
def rIn (K : PySem.W.Frag) : R2 := fun x y H Q => rInS x y H Q ∨ (rInD K x y H Q ∨ rInT K x y H Q)
def rNotIn (K : PySem.W.Frag) : R2 := fun x y H Q => rNotInS x y H Q ∨ (rNotInD K x y H Q ∨ rNotInT K x y H Q)
theorem Is.u65 {X : Cx} (h : Is c X) : X.A.units + 65 < cLine := by
  have := h.room.un; omega
theorem or_in (X : Cx) (h : Is c X) : OpR X (compareOp .In) (rIn c.W.K) := by
  have h1 := op_inD (X := X) h.u65
  have h2 := op_inT (X := X) h.u65
  rw [h.K] at h1 h2
  exact OpR.or op_in_str (OpR.or h1 h2)
theorem or_notIn (X : Cx) (h : Is c X) : OpR X (compareOp .NotIn) (rNotIn c.W.K) := by
  have h1 := op_notInD (X := X) h.u65
  have h2 := op_notInT (X := X) h.u65
  rw [h.K] at h1 h2
  exact OpR.or op_notin_str (OpR.or h1 h2)
theorem pyL_cases {d : D} {ds : List PyData} (h : pyL d = some ds) : (∃ l, d = .lst l ∧ toPy d = some (.list ds) ∧ SeqAt.shaped (.list ds) = true) ∨ (∃ l, d = .tup l ∧ toPy d = some (.tuple ds) ∧ SeqAt.shaped (.tuple ds) = true) := by
  cases d with
  | lst l =>
    simp only [pyL] at h
    cases e : py (.lst l) with
    | none => rw [e] at h; cases h
    | some p =>
      rw [e] at h
      cases p with
      | list q => simp only [Option.some.injEq] at h; subst h; exact .inl ⟨l, rfl, py_some e⟩
      | _ => cases h
  | tup l =>
    simp only [pyL] at h
    cases e : py (.tup l) with
    | none => rw [e] at h; cases h
    | some p =>
      rw [e] at h
      cases p with
      | tuple q => simp only [Option.some.injEq] at h; subst h; exact .inr ⟨l, rfl, py_some e⟩
      | _ => cases h
  | _ => cases h
theorem hasD_cases {d e : D} {b : Bool} (h : hasD d e = some b) : (∃ x y, d = .str x ∧ e = .str y ∧ b = !(Builtin.Str.occurrences y x 0 y.length 1).isEmpty) ∨ (∃ p ds, py d = some p ∧ pyL e = some ds ∧ b = ds.any fun z => PyData.eqv z p) := by
  have gen : ∀ {d e : D}, (match py d, pyL e with | some a, some l => some (l.any fun z => PyData.eqv z a) | _, _ => none) = some b → ∃ p ds, py d = some p ∧ pyL e = some ds ∧ b = ds.any fun z => PyData.eqv z p := by
    intro d e h
    cases e1 : py d with
    | none => rw [e1] at h; cases h
    | some p => cases e2 : pyL e with
      | none => rw [e1, e2] at h; cases h
      | some l => rw [e1, e2] at h; cases h; exact ⟨p, l, rfl, rfl, rfl⟩
  cases d with
  | str x =>
    cases e with
    | str y => cases h; exact .inl ⟨x, y, rfl, rfl, rfl⟩
    | _ => exact .inr (gen h)
  | _ => exact .inr (gen h)
theorem opd_in : OpD W (rAt W) (rIn W.K) inD := by
  intro Hf H s x y d e z Q x0 hx hy hg k
  simp only [inD, Option.map_eq_some_iff] at hg
  obtain ⟨b, hb, rfl⟩ := hg
  rcases hasD_cases hb with ⟨i, j, rfl, rfl, rfl⟩ | ⟨p, ds, e1, e2, rfl⟩
  · exact .inl ⟨i, j, hx.str', hy.str', k _ _ _ x0 (.bl _)⟩
  · rcases pyL_cases e2 with ⟨l, rfl, q1, q2⟩ | ⟨l, rfl, q1, q2⟩
    · exact .inr (.inl ⟨p, ds, hx.dp x0.fh (py_some e1).1, hy.dp x0.fh q1, (py_some e1).2, q2, k _ _ _ x0 (.bl _)⟩)
    · exact .inr (.inr ⟨p, ds, hx.dp x0.fh (py_some e1).1, hy.dp x0.fh q1, (py_some e1).2, q2, k _ _ _ x0 (.bl _)⟩)
theorem opd_notIn : OpD W (rAt W) (rNotIn W.K) notInD := by
  intro Hf H s x y d e z Q x0 hx hy hg k
  simp only [notInD, Option.map_eq_some_iff] at hg
  obtain ⟨b, hb, rfl⟩ := hg
  rcases hasD_cases hb with ⟨i, j, rfl, rfl, rfl⟩ | ⟨p, ds, e1, e2, rfl⟩
  · exact .inl ⟨i, j, hx.str', hy.str', k _ _ _ x0 (.bl _)⟩
  · rcases pyL_cases e2 with ⟨l, rfl, q1, q2⟩ | ⟨l, rfl, q1, q2⟩
    · exact .inr (.inl ⟨p, ds, hx.dp x0.fh (py_some e1).1, hy.dp x0.fh q1, (py_some e1).2, q2, k _ _ _ x0 (.bl _)⟩)
    · exact .inr (.inr ⟨p, ds, hx.dp x0.fh (py_some e1).1, hy.dp x0.fh q1, (py_some e1).2, q2, k _ _ _ x0 (.bl _)⟩)
theorem je_in (ha : JV c Γ a fa) (hb : JV c Γ b fb) (hm : behindInMarks .In b = false := by rfl) : JE c Γ (.Compare a [.In] [b] pos) (bin inD fa fb) := jx_cmp or_in opd_in ha hb hm
theorem je_notIn (ha : JV c Γ a fa) (hb : JV c Γ b fb) (hm : behindInMarks .NotIn b = false := by rfl) : JE c Γ (.Compare a [.NotIn] [b] pos) (bin notInD fa fb) := jx_cmp or_notIn opd_notIn ha hb hm
theorem jt_in (ha : JV c Γ a fa) (hb : JV c Γ b fb) (hm : behindInMarks .In b = false := by rfl) : JT c Γ (.Compare a [.In] [b] pos) (tst (bin inD fa fb)) := jt_cmp or_in opd_in ha hb hm
theorem jt_notIn (ha : JV c Γ a fa) (hb : JV c Γ b fb) (hm : behindInMarks .NotIn b = false := by rfl) : JT c Γ (.Compare a [.NotIn] [b] pos) (tst (bin notInD fa fb)) := jt_cmp or_notIn opd_notIn ha hb hm
def D.isNon : D → Bool
  | .non => true
  | _ => false
def isNoneD (d e : D) : Option D := match e with
  | .non => some (.bl d.isNon)
  | _ => none
def notNoneD (d e : D) : Option D := match e with
  | .non => some (.bl (!d.isNon))
  | _ => none
theorem VAt.non_iff {v : V} {d : D} (h : VAt W Hf H v d) : decide (v = .non) = d.isNon := by
  cases h with
  | fr h => cases h <;> simp [D.isNon]
  | lst _ _ _ _ => simp [D.isNon]
  | dct _ _ _ _ => simp [D.isNon]
theorem opd_isN : OpD W (rAt W) (fun x y H Q => y = .non ∧ Q (.bl (decide (x = .non))) H) isNoneD := by
  intro Hf H s x y d e z Q x0 hx hy hg k
  cases e with
  | non =>
    simp only [isNoneD, Option.some.injEq] at hg
    subst hg
    exact ⟨hy.non', by rw [hx.non_iff]; exact k _ _ _ x0 (.bl _)⟩
  | _ => cases hg
theorem opd_notN : OpD W (rAt W) (fun x y H Q => y = .non ∧ Q (.bl (!decide (x = .non))) H) notNoneD := by
  intro Hf H s x y d e z Q x0 hx hy hg k
  cases e with
  | non =>
    simp only [notNoneD, Option.some.injEq] at hg
    subst hg
    exact ⟨hy.non', by rw [hx.non_iff]; exact k _ _ _ x0 (.bl _)⟩
  | _ => cases hg
theorem je_isN (ha : JV c Γ a fa) (hb : JV c Γ b fb) : JE c Γ (.Compare a [.Is] [b] pos) (bin isNoneD fa fb) := jx_cmp (fun X h => op_isN) opd_isN ha hb (nomark _)
theorem jt_isN (ha : JV c Γ a fa) (hb : JV c Γ b fb) : JT c Γ (.Compare a [.Is] [b] pos) (tst (bin isNoneD fa fb)) := jt_cmp (fun X h => op_isN) opd_isN ha hb (nomark _)
theorem jt_notN (ha : JV c Γ a fa) (hb : JV c Γ b fb) : JT c Γ (.Compare a [.IsNot] [b] pos) (tst (bin notNoneD fa fb)) := jt_cmp (fun X h => op_notN) opd_notN ha hb (nomark _)
def intI (g : Int → Int → Option D) (d e : D) : Option D := match d, e with
  | .int i, .int j => g i j
  | _, _ => none
theorem intI_some {g : Int → Int → Option D} {d e z : D} (h : intI g d e = some z) : ∃ i j, d = .int i ∧ e = .int j ∧ g i j = some z := by
  cases d with
  | int i => cases e with
    | int j => exact ⟨i, j, rfl, rfl, h⟩
    | _ => cases h
  | _ => cases h
theorem opd_b {g : Int → Int → Bool} : OpD W (rAt W) (rI0 fun i j => .bl (g i j)) (intI fun i j => some (.bl (g i j))) := by
  intro Hf H s x y d e z Q x0 hx hy hg k
  obtain ⟨i, j, rfl, rfl, hz⟩ := intI_some hg
  cases hz
  exact ⟨i, j, hx.int', hy.int', k _ _ _ x0 (.bl _)⟩
def ltD := intI fun i j => some (.bl (decide (i < j)))
def leD := intI fun i j => some (.bl (decide (i ≤ j)))
def gtD := intI fun i j => some (.bl (decide (j < i)))
theorem je_le (ha : JV c Γ a fa) (hb : JV c Γ b fb) : JE c Γ (.Compare a [.LtE] [b] pos) (bin leD fa fb) := jx_cmp (fun X h => op_le) opd_b ha hb (nomark _)
theorem jt_lt (ha : JV c Γ a fa) (hb : JV c Γ b fb) : JT c Γ (.Compare a [.Lt] [b] pos) (tst (bin ltD fa fb)) := jt_cmp (fun X h => op_lt) opd_b ha hb (nomark _)
theorem jt_gt (ha : JV c Γ a fa) (hb : JV c Γ b fb) : JT c Γ (.Compare a [.Gt] [b] pos) (tst (bin gtD fa fb)) := jt_cmp (fun X h => op_gt) opd_b ha hb (nomark _)
def addD (d e : D) : Option D := match d, e with
  | .int i, .int j => some (.int (i + j))
  | .str x, .str y => if x.length + y.length ≤ sizeLine then some (.str (x ++ y)) else none
  | .tup l, .tup m => if l.length + m.length ≤ sizeLine then some (.tup (l ++ m)) else none
  | _, _ => none
def rAddA (K : PySem.W.Frag) : R2 := fun x y H Q => (rI0 fun i j => .int (i + j)) x y H Q ∨ ((fun x y H Q => ∃ i j, x = .str i ∧ y = .str j ∧ i.length + j.length ≤ sizeLine ∧ Q (.str (i ++ j)) H) x y H Q ∨ rCatA K x y H Q)
theorem or_add (X : Cx) (h : Is c X) : OpR X (binaryOp .Add) (rAddA c.W.K) := by
  have h1 := op_catA (X := X)
  rw [h.K] at h1
  exact OpR.or op_add (OpR.or op_add_str h1)
theorem opd_add : OpD W (rAt W) (rAddA W.K) addD := by
  intro Hf H s x y d e z Q x0 hx hy hg k
  unfold addD at hg
  split at hg
  · cases hg; exact .inl ⟨_, _, hx.int', hy.int', k _ _ _ x0 (.int _)⟩
  · split at hg
    · rename_i hz; cases hg; exact .inr (.inl ⟨_, _, hx.str', hy.str', hz, k _ _ _ x0 (.str _)⟩)
    · cases hg
  · split at hg
    · rename_i l m hz
      cases hg
      obtain ⟨p, xs, rfl, h1, h2, h3⟩ := hx.tup' x0.fh
      obtain ⟨q, ys, rfl, g1, g2, g3⟩ := hy.tup' x0.fh
      have hl : xs.length + ys.length ≤ sizeLine := by rw [h3.len, g3.len]; exact hz
      refine .inr (.inr ⟨p, q, xs, ys, rfl, rfl, h1, g1, hl, fun e => ?_, fun _ e => ?_, fun _ _ r hr => ?_⟩)
      · subst e
        cases h3
        refine k _ _ _ x0 ?_
        cases hy with
        | fr hy => exact hy
      · subst e
        cases g3
        rw [List.append_nil] at k
        refine k _ _ _ x0 ?_
        cases hx with
        | fr hx => exact hx
      · have y := x0.newF (o := .tup (xs ++ ys)) hr
        exact k _ _ _ y (.tup (.inl (.inl upd_same)) (by rw [List.length_append]; exact hl) ((h3.mono y.ff).append (g3.mono y.ff)))
    · cases hg
  · cases hg
theorem je_add (ha : JV c Γ a fa) (hb : JV c Γ b fb) : JE c Γ (.BinOp a .Add b pos) (bin addD fa fb) := jx_op (fun _ => elder_at) or_add opd_add ha hb
def catD (d e : D) : Option D := match d, e with
  | .lst l, .lst m => if l.length + m.length ≤ sizeLine then some (.lst (l ++ m)) else none
  | _, _ => none
theorem opd_cat : OpD W (rF W) rCat catD := by
  intro Hf H s x y d e z Q x0 hx hy hg k
  unfold catD at hg
  split at hg
  · split at hg
    · rename_i l m hz
      cases hg
      obtain ⟨p, xs, rfl, h1, h2, h3⟩ := hx.lst' x0.fh
      obtain ⟨q, ys, rfl, g1, g2, g3⟩ := hy.lst' x0.fh
      have hl : xs.length + ys.length ≤ sizeLine := by rw [h3.len, g3.len]; exact hz
      refine ⟨p, q, xs, ys, rfl, rfl, h1, g1, hl, fun r hr => ?_⟩
      obtain ⟨y, nf, nP⟩ := x0.newU (o := .lst (xs ++ ys)) hr
      exact k _ _ _ y ⟨r, _, _, rfl, rfl, hr, nf, nP, upd_same, by rw [List.length_append]; exact hl, h3.append g3⟩
    · cases hg
  · cases hg
theorem jf_cat (ha : JV c Γ a fa) (hb : JV c Γ b fb) : JF c Γ (.BinOp a .Add b pos) (bin catD fa fb) := jx_op (fun _ => elder_f) (fun X h => op_cat) opd_cat ha hb
theorem opd_i {C : Int → Int → Prop} {g : Int → Int → Int} {go : Int → Int → Option D} (h : ∀ i j z, go i j = some z → C i j ∧ z = .int (g i j)) : OpD W (rAt W) (rI C fun i j => .int (g i j)) (intI go) := by
  intro Hf H s x y d e z Q x0 hx hy hg k
  obtain ⟨i, j, rfl, rfl, hz⟩ := intI_some hg
  obtain ⟨hc, rfl⟩ := h i j z hz
  exact ⟨i, j, hx.int', hy.int', hc, k _ _ _ x0 (.int _)⟩
theorem opd_i0 {g : Int → Int → Int} : OpD W (rAt W) (rI0 fun i j => .int (g i j)) (intI fun i j => some (.int (g i j))) := by
  intro Hf H s x y d e z Q x0 hx hy hg k
  obtain ⟨i, j, rfl, rfl, hz⟩ := intI_some hg
  cases hz
  exact ⟨i, j, hx.int', hy.int', k _ _ _ x0 (.int _)⟩
def subD := intI fun i j => some (.int (i - j))
theorem je_sub (ha : JV c Γ a fa) (hb : JV c Γ b fb) : JE c Γ (.BinOp a .Sub b pos) (bin subD fa fb) := jx_op (fun _ => elder_at) (fun X h => op_sub) opd_i0 ha hb
def mulD := intI fun i j => if (-(2 ^ 64) < i ∧ i < 2 ^ 64) ∨ (-(2 ^ 64) < j ∧ j < 2 ^ 64) then some (.int (i * j)) else none
theorem je_mul (ha : JV c Γ a fa) (hb : JV c Γ b fb) : JE c Γ (.BinOp a .Mult b pos) (bin mulD fa fb) :=
  jx_op (fun _ => elder_at) (fun X h => op_mul) (opd_i fun i j z h => by
    by_cases q : (-(2 ^ 64) < i ∧ i < 2 ^ 64) ∨ (-(2 ^ 64) < j ∧ j < 2 ^ 64)
    · rw [if_pos q] at h; cases h; exact ⟨q, rfl⟩
    · rw [if_neg q] at h; cases h) ha hb
def fdivD := intI fun i j => if 0 < j ∧ j < 1073741824 then some (.int (i / j)) else none
theorem je_fdiv (ha : JV c Γ a fa) (hb : JV c Γ b fb) : JE c Γ (.BinOp a .FloorDiv b pos) (bin fdivD fa fb) :=
  jx_op (fun _ => elder_at) (fun X h => op_fdiv) (opd_i fun i j z h => by
    by_cases q : 0 < j ∧ j < 1073741824
    · rw [if_pos q] at h; cases h; exact ⟨q, rfl⟩
    · rw [if_neg q] at h; cases h) ha hb
def modD := intI fun i j => if 0 < j then some (.int (i % j)) else none
theorem je_mod (ha : JV c Γ a fa) (hb : JV c Γ b fb) : JE c Γ (.BinOp a .Mod b pos) (bin modD fa fb) :=
  jx_op (fun _ => elder_at) (fun X h => op_mod) (opd_i fun i j z h => by
    by_cases q : 0 < j
    · rw [if_pos q] at h; cases h; exact ⟨q, rfl⟩
    · rw [if_neg q] at h; cases h) ha hb
def powD := intI fun i j => if 0 ≤ j ∧ j ≤ 1000000 ∧ i.natAbs < 2 ^ 64 then some (.int (i ^ j.toNat)) else none
theorem je_pow (ha : JV c Γ a fa) (hb : JV c Γ b fb) : JE c Γ (.BinOp a .Pow b pos) (bin powD fa fb) :=
  jx_op (fun _ => elder_at) (fun X h => op_pow) (opd_i fun i j z h => by
    by_cases q : 0 ≤ j ∧ j ≤ 1000000 ∧ i.natAbs < 2 ^ 64
    · rw [if_pos q] at h; cases h; exact ⟨q, rfl⟩
    · rw [if_neg q] at h; cases h) ha hb
def un (g : D → Option D) (fa : Rho → M D) : Rho → M D := fun ρ => do
  let d ← fa ρ
  opt (g d)
def UnD (W : Wd) (Rs : Res) (r : V → Hp → VK → Prop) (g : D → Option D) : Prop :=
  ∀ Hf H s x d z Q, Ext W Hf H Hf H s → VAt W Hf H x d → g d = some z → (∀ v Hf' H', Ext W Hf H Hf' H' s → Rs H Hf' H' v z → Q v H') → r x H Q
theorem rx_un {Rs : Res} {r : V → Hp → VK → Prop} {g : D → Option D} {ta : TE} (el : Elder W Rs) (ho : UnD W Rs r g) (ha : RX W E Γ (rV W) ta fa) : RX W E Γ Rs (tUn r ta) (un g fa) := by
  intro B ρ s σ Hf H Q V p
  unfold un at p
  rw [post_bind] at p
  refine ha B ρ s σ Hf H _ V (p.imp (fun d s1 p1 v Hf1 H1 x1 r1 => ?_) fun _ _ _ z => z)
  rw [post_opt] at p1
  obtain ⟨z, e, k⟩ := p1
  exact ho Hf1 H1 s1 v d z Q x1.refl r1 e fun u Hf3 H3 x3 r3 => k u Hf3 H3 (x1.trans x3) (el _ _ _ _ _ _ _ _ _ _ x1 x3 r3)
def negD (d : D) : Option D := match d with
  | .int i => some (.int (-i))
  | _ => none
theorem je_neg (ha : JV c Γ a fa) : JE c Γ (.UnaryOp .USub a pos) (un negD fa) := by
  obtain ⟨t, h1, h2⟩ := ha
  refine ⟨_, fun X hX => pe_un un_neg (h1 X hX), rx_un elder_at ?_ h2⟩
  intro Hf H s x d z Q x0 hx hg k
  cases d with
  | int i => cases hg; exact ⟨i, hx.int', k _ _ _ x0 (.int _)⟩
  | _ => cases hg
end
end VL
namespace VL
open PySem PySem.Spec PyProof.Rows L2
section
variable {c : Ctx} {W : Wd} {E : XK} {Γ : Gam} {e a b : Expr} {f fa fb : Rho → M D} {pos : Pos} {Hf H : Hp}
theorem AtAll.atI {xs : List V} {ds : List D} {i : Int} {z : D} (h : AtAll W Hf xs ds) (e : atI ds i = some z) : ∃ v, L2.atI xs i = some v ∧ At W Hf v z := by
  unfold L2.atI at e ⊢
  rw [h.len]
  cases hi : ixN ds.length i with
  | none => rw [hi] at e; cases e
  | some j =>
    rw [hi] at e
    exact h.get' e
def idxD (d e : D) : Option D := match d, e with
  | .lst l, .int i => atI l i
  | .tup l, .int i => atI l i
  | .str x, .int i => if x.length ≤ sizeLine then (atI x.cps.toList i).map fun ch => .str ⟨#[ch]⟩ else none
  | _, _ => none
theorem opd_idx : OpD W (rAt W) (rIx W.K) idxD := by
  intro Hf H s x y d e z Q x0 hx hy hg k
  unfold idxD at hg
  split at hg
  · obtain ⟨p, xs, rfl, h1, h2, h3⟩ := hx.lst' x0.fh
    obtain ⟨v, q, a⟩ := h3.atI hg
    exact .inl ⟨p, xs, _, v, rfl, hy.int', SqL.of h1, q, k _ _ _ x0 a⟩
  · obtain ⟨p, xs, rfl, h1, h2, h3⟩ := hx.tup' x0.fh
    obtain ⟨v, q, a⟩ := h3.atI hg
    exact .inr (.inl ⟨p, xs, _, v, rfl, hy.int', h1, q, k _ _ _ x0 a⟩)
  · split at hg
    · rename_i hz
      simp only [Option.map_eq_some_iff] at hg
      obtain ⟨ch, hc, rfl⟩ := hg
      exact .inr (.inr ⟨_, _, ch, hx.str', hy.int', hz, hc, k _ _ _ x0 (.str _)⟩)
    · cases hg
  · cases hg
theorem je_idx (ha : JV c Γ a fa) (hb : JV c Γ b fb) (hs : PlainIx b := by exact fun _ _ => rfl) : JE c Γ (.Subscript a b pos) (bin idxD fa fb) := by
  obtain ⟨ta, a1, a2⟩ := ha
  obtain ⟨tb, b1, b2⟩ := hb
  refine ⟨tOp (rIx c.W.K) ta tb, fun X h => ?_, rx_bin elder_at opd_idx a2 b2⟩
  have q := ix_seq (X := X)
  rw [h.K] at q
  exact pe_ix q (a1 X h) (b1 X h) hs
def JO (c : Ctx) (Γ : Gam) (e : Option Expr) (f : Rho → M (Option Int)) : Prop := ∃ t, (∀ X, Is c X → PO X e t) ∧
  ∀ B ρ s σ Hf H Q, EnvAt c.W B Γ ρ s σ Hf H → Post (fun d s' => ∀ Hf' H', Ext c.W Hf H Hf' H' s' → Q d H') (ErrOk c.W B c.E) (f ρ s) → t σ H Q
theorem jo_none : JO c Γ none (fun _ => pure none) := ⟨_, fun X h => po_none, fun B ρ s σ Hf H Q V p => p _ _ V.ext0⟩
def asInt (d : D) : M Int := match d with
  | .int b => pure b
  | _ => nope
theorem post_asInt {A : Int → Pot → Prop} {B : Nat → D → Pot → Prop} {d : D} {s : Pot} (h : Post A B (asInt d s)) : ∃ b, d = .int b ∧ A b s := by
  cases d with
  | int b => exact ⟨b, rfl, h⟩
  | _ => exact h.elim
def partI (f : Rho → M D) : Rho → M (Option Int) := fun ρ => do
  let d ← f ρ
  let i ← asInt d
  pure (some i)
theorem jo_some (ha : JV c Γ a fa) : JO c Γ (some a) (partI fa) := by
  obtain ⟨t, h1, h2⟩ := ha
  refine ⟨_, fun X h => po_some (h1 X h), fun B ρ s σ Hf H Q V p => ?_⟩
  unfold partI at p
  rw [post_bind] at p
  refine h2 B ρ s σ Hf H _ V (p.imp (fun d s1 p1 v Hf1 H1 x1 r1 => ?_) fun _ _ _ z => z)
  rw [post_bind] at p1
  obtain ⟨i, rfl, k⟩ := post_asInt p1
  exact ⟨i, r1.int', k _ _ x1⟩
def cutL {α : Type} (xs : List α) (lo hi : Option Int) : List α := (xs.drop (HT.sIx xs.length 0 lo)).take (HT.sIx xs.length xs.length hi - HT.sIx xs.length 0 lo)
theorem AtAll.cut {xs : List V} {ds : List D} (h : AtAll W Hf xs ds) (lo hi : Option Int) : AtAll W Hf (cutV xs lo hi) (cutL ds lo hi) := by
  unfold cutV cutL
  rw [h.len]
  exact (h.drop _).take _
def slcF (g : D → Option Int → Option Int → Option D) (fa : Rho → M D) (fl fh : Rho → M (Option Int)) : Rho → M D := fun ρ => do
  let d ← fa ρ
  let l ← fl ρ
  let h ← fh ρ
  opt (g d l h)
def SlD (W : Wd) (Rs : Res) (r : V → Option Int → Option Int → Hp → VK → Prop) (g : D → Option Int → Option Int → Option D) : Prop :=
  ∀ Hf H s x d lo hi z Q, Ext W Hf H Hf H s → VAt W Hf H x d → g d lo hi = some z → (∀ v Hf' H', Ext W Hf H Hf' H' s → Rs H Hf' H' v z → Q v H') → r x lo hi H Q
theorem jx_slice {Rs : Wd → Res} {r : V → Option Int → Option Int → Hp → VK → Prop} {g : D → Option Int → Option Int → Option D} {lo hi : Option Expr} {fl fh : Rho → M (Option Int)} {p2 : Pos} (el : ∀ W, Elder W (Rs W)) (hr : ∀ X, Is c X → L2.SlR X r) (ho : SlD c.W (Rs c.W) r g)
    (ha : JV c Γ a fa) (hl : JO c Γ lo fl) (hh : JO c Γ hi fh) : JX c Rs Γ (.Subscript a (.Slice lo hi none p2) pos) (slcF g fa fl fh) := by
  obtain ⟨ta, a1, a2⟩ := ha
  obtain ⟨tl, l1, l2⟩ := hl
  obtain ⟨th, k1, k2⟩ := hh
  refine ⟨_, fun X h => pe_slice (hr X h) (a1 X h) (l1 X h) (k1 X h), fun B ρ s σ Hf H Q V p => ?_⟩
  unfold slcF at p
  rw [post_bind] at p
  refine a2 B ρ s σ Hf H _ V (p.imp (fun d s1 p1 v Hf1 H1 x1 r1 => ?_) fun _ _ _ z => z)
  rw [post_bind] at p1
  refine l2 B ρ s1 σ Hf1 H1 _ (V.ext' x1) (p1.imp (fun lo s2 p2 Hf2 H2 x2 => ?_) fun _ _ _ z => z)
  rw [post_bind] at p2
  refine k2 B ρ s2 σ Hf2 H2 _ (V.ext' (x1.trans x2)) (p2.imp (fun hi s3 p3 Hf3 H3 x3 => ?_) fun _ _ _ z => z)
  rw [post_opt] at p3
  obtain ⟨z, e, k⟩ := p3
  have x4 := x1.trans (x2.trans x3)
  exact ho Hf3 H3 s3 v d lo hi z Q x3.refl (VAt.ext (x2.trans x3) r1) e fun u Hf4 H4 y r4 => k u Hf4 H4 (x4.trans y) (el _ _ _ _ _ _ _ _ _ _ _ x4 y r4)
def slcL (d : D) (lo hi : Option Int) : Option D := match d with
  | .lst l => some (.lst (cutL l lo hi))
  | _ => none
def slcT (d : D) (lo hi : Option Int) : Option D := match d with
  | .tup l => some (.tup (cutL l lo hi))
  | _ => none
theorem jf_slice {lo hi : Option Expr} {fl fh : Rho → M (Option Int)} {p2 : Pos} (ha : JV c Γ a fa) (hl : JO c Γ lo fl) (hh : JO c Γ hi fh) : JF c Γ (.Subscript a (.Slice lo hi none p2) pos) (slcF slcL fa fl fh) := by
  refine jx_slice (fun _ => elder_f) (r := rSlL c.W.K) (fun X h => ?_) ?_ ha hl hh
  · have q := sl_list (X := X)
    rw [h.K] at q; exact q
  · intro Hf H s x d lo hi z Q x0 hx hg k
    cases d with
    | lst l =>
      cases hg
      obtain ⟨p, xs, rfl, h1, h2, h3⟩ := hx.lst' x0.fh
      refine ⟨p, xs, rfl, SqL.of h1, fun q hq => ?_⟩
      obtain ⟨y, nf, nP⟩ := x0.newU (o := .lst (cutV xs lo hi)) hq
      exact k _ _ _ y ⟨q, _, _, rfl, rfl, hq, nf, nP, upd_same, Nat.le_trans (cutV_length xs lo hi) h2, h3.cut lo hi⟩
    | _ => cases hg
theorem cut_whole {α : Type} {xs : List α} {lo hi : Option Int} (h : HT.sIx xs.length 0 lo = 0 ∧ HT.sIx xs.length xs.length hi = xs.length) : cutL xs lo hi = xs := by
  unfold cutL
  rw [h.1, h.2]
  simp
theorem je_sliceT {lo hi : Option Expr} {fl fh : Rho → M (Option Int)} {p2 : Pos} (ha : JV c Γ a fa) (hl : JO c Γ lo fl) (hh : JO c Γ hi fh) : JE c Γ (.Subscript a (.Slice lo hi none p2) pos) (slcF slcT fa fl fh) := by
  refine jx_slice (fun _ => elder_at) (r := rSlA c.W.K) (fun X h => ?_) ?_ ha hl hh
  · have q := sl_tupA (X := X)
    rw [h.K] at q; exact q
  · intro Hf H s x d lo hi z Q x0 hx hg k
    cases d with
    | tup l =>
      cases hg
      have hx' : At c.W Hf x (.tup l) := by cases hx with | fr hx => exact hx
      obtain ⟨p, xs, rfl, h1, h2, h3⟩ := hx.tup' x0.fh
      refine ⟨p, xs, rfl, h1, fun w => ?_, fun w q hq => ?_⟩
      · rw [h3.len] at w
        rw [cut_whole w] at k
        exact k _ _ _ x0 hx'
      · have y := x0.newF (o := .tup (cutV xs lo hi)) hq
        exact k _ _ _ y (.tup (.inl (.inl upd_same)) (Nat.le_trans (cutV_length xs lo hi) h2) ((h3.mono y.ff).cut lo hi))
    | _ => cases hg
def revD (d : D) : Option D := match d with
  | .lst l => some (.lst l.reverse)
  | _ => none
theorem jf_rev {k : Nat} {p1 p2 p3 : Pos} (ha : JV c Γ a fa) : JF c Γ (.Subscript a (.Slice none none (some (.UnaryOp .USub (.Constant (.int 1) k p1) p2)) p3) pos) (un revD fa) := by
  obtain ⟨t, h1, h2⟩ := ha
  refine ⟨tRevL c.W.K t, fun X h => ?_, ?_⟩
  · have q := pe_revL (k := k) (p1 := p1) (p2 := p2) (p3 := p3) (pos := pos) (h1 X h)
    rw [h.K] at q; exact q
  intro B ρ s σ Hf H Q V p
  unfold un at p
  rw [post_bind] at p
  refine h2 B ρ s σ Hf H _ V (p.imp (fun d s1 p1 v Hf1 H1 x1 r1 => ?_) fun _ _ _ z => z)
  rw [post_opt] at p1
  obtain ⟨z, e, k⟩ := p1
  cases d with
  | lst l =>
    cases e
    obtain ⟨q, xs, rfl, g1, g2, g3⟩ := r1.lst' x1.fh
    refine ⟨q, xs, rfl, SqL.of g1, fun w hw => ?_⟩
    obtain ⟨y, nf, nP⟩ := x1.newU (o := .lst xs.reverse) hw
    exact k _ _ _ (x1.trans y) (elder_f _ _ _ _ _ _ _ _ _ _ x1 y ⟨w, _, _, rfl, rfl, hw, nf, nP, upd_same, by rw [List.length_reverse]; exact g2, g3.rev⟩)
  | _ => cases e
def JA (c : Ctx) (Γ : Gam) (es : List Expr) (f : Rho → M (List D)) : Prop := ∃ t, (∀ X, Is c X → PA X es t) ∧
  ∀ B ρ s σ Hf H Q, EnvAt c.W B Γ ρ s σ Hf H → Post (fun ds s' => ∀ vs Hf' H', Ext c.W Hf H Hf' H' s' → AtAll c.W Hf' vs ds → Q vs H') (ErrOk c.W B c.E) (f ρ s) → t σ H Q
def JAv (c : Ctx) (Γ : Gam) (es : List Expr) (f : Rho → M (List D)) : Prop := ∃ t, (∀ X, Is c X → PA X es t) ∧
  ∀ B ρ s σ Hf H Q, EnvAt c.W B Γ ρ s σ Hf H → Post (fun ds s' => ∀ vs Hf' H', Ext c.W Hf H Hf' H' s' → VAll c.W Hf' H' vs ds → Q vs H') (ErrOk c.W B c.E) (f ρ s) → t σ H Q
def nilA : Rho → M (List D) := fun _ => pure []
def consA (f : Rho → M D) (g : Rho → M (List D)) : Rho → M (List D) := fun ρ => do
  let d ← f ρ
  let ds ← g ρ
  pure (d :: ds)
def seqOf (d : D) : Option (List D) := match d with
  | .lst l => some l
  | .tup l => some l
  | _ => none
def starA (f : Rho → M D) (g : Rho → M (List D)) : Rho → M (List D) := fun ρ => do
  let d ← f ρ
  let l ← opt (seqOf d)
  let ds ← g ρ
  pure (l ++ ds)
theorem ja_nil : JA c Γ [] nilA := ⟨_, fun X h => pa_nil, fun B ρ s σ Hf H Q V p => p _ _ _ V.ext0 .nil⟩
theorem jav_nil : JAv c Γ [] nilA := ⟨_, fun X h => pa_nil, fun B ρ s σ Hf H Q V p => p _ _ _ V.ext0 .nil⟩
theorem ja_cons {es : List Expr} {fs : Rho → M (List D)} (ha : JE c Γ a fa) (hr : JA c Γ es fs) (hs : ∀ env, starEach (a :: es) env = (false, eval a env) :: starEach es env := by intro _; rfl) : JA c Γ (a :: es) (consA fa fs) := by
  obtain ⟨t, h1, h2⟩ := ha
  obtain ⟨u, g1, g2⟩ := hr
  refine ⟨_, fun X h => pa_cons (h1 X h) (g1 X h) (hs _), fun B ρ s σ Hf H Q V p => ?_⟩
  unfold consA at p
  rw [post_bind] at p
  refine h2 B ρ s σ Hf H _ V (p.imp (fun d s1 p1 v Hf1 H1 x1 r1 => ?_) fun _ _ _ z => z)
  rw [post_bind] at p1
  refine g2 B ρ s1 σ Hf1 H1 _ (V.ext' x1) (p1.imp (fun ds s2 k vs Hf2 H2 x2 r2 => ?_) fun _ _ _ z => z)
  exact k _ _ _ (x1.trans x2) (.cons (At.mono x2.ff r1) r2)
theorem jav_cons {es : List Expr} {fs : Rho → M (List D)} (ha : JV c Γ a fa) (hr : JAv c Γ es fs) (hs : ∀ env, starEach (a :: es) env = (false, eval a env) :: starEach es env := by intro _; rfl) : JAv c Γ (a :: es) (consA fa fs) := by
  obtain ⟨t, h1, h2⟩ := ha
  obtain ⟨u, g1, g2⟩ := hr
  refine ⟨_, fun X h => pa_cons (h1 X h) (g1 X h) (hs _), fun B ρ s σ Hf H Q V p => ?_⟩
  unfold consA at p
  rw [post_bind] at p
  refine h2 B ρ s σ Hf H _ V (p.imp (fun d s1 p1 v Hf1 H1 x1 r1 => ?_) fun _ _ _ z => z)
  rw [post_bind] at p1
  refine g2 B ρ s1 σ Hf1 H1 _ (V.ext' x1) (p1.imp (fun ds s2 k vs Hf2 H2 x2 r2 => ?_) fun _ _ _ z => z)
  exact k _ _ _ (x1.trans x2) (.cons (VAt.ext x2 r1) r2)
theorem VAt.seq' {v : V} {d : D} {l : List D} (e : Same Hf H) (h : VAt W Hf H v d) (hl : seqOf d = some l) : ∃ p xs, v = .ref p ∧ (SqT W.K H p xs ∨ SqL W.K H p xs) ∧ xs.length ≤ sizeLine ∧ AtAll W Hf xs l := by
  cases d with
  | lst m =>
    cases hl
    obtain ⟨p, xs, rfl, h1, h2, h3⟩ := h.lst' e
    exact ⟨p, xs, rfl, .inr (SqL.of h1), h2, h3⟩
  | tup m =>
    cases hl
    obtain ⟨p, xs, rfl, h1, h2, h3⟩ := h.tup' e
    exact ⟨p, xs, rfl, .inl h1, h2, h3⟩
  | _ => cases hl
theorem ja_star {es : List Expr} {fs : Rho → M (List D)} {sp : Pos} (ha : JV c Γ a fa) (hr : JA c Γ es fs) (hs : ∀ env, starEach (.Starred a sp :: es) env = (true, eval a env) :: starEach es env := by intro _; rfl) : JA c Γ (.Starred a sp :: es) (starA fa fs) := by
  obtain ⟨t, h1, h2⟩ := ha
  obtain ⟨u, g1, g2⟩ := hr
  refine ⟨StX.tStar c.W.K t u, fun X h => ?_, fun B ρ s σ Hf H Q V p => ?_⟩
  · have := StX.pa_star (X := X) (p := sp) (h1 X h) (g1 X h) (hs _)
    rw [h.K] at this; exact this
  unfold starA at p
  rw [post_bind] at p
  refine h2 B ρ s σ Hf H _ V (p.imp (fun d s1 p1 v Hf1 H1 x1 r1 => ?_) fun _ _ _ z => z)
  rw [post_bind, post_opt] at p1
  obtain ⟨l, hl, p1⟩ := p1
  rw [post_bind] at p1
  obtain ⟨q, xs, rfl, hq, hz, ha⟩ := VAt.seq' x1.fh r1 hl
  refine ⟨q, xs, rfl, hq, g2 B ρ s1 σ Hf1 H1 _ (V.ext' x1) (p1.imp (fun ds s2 k vs Hf2 H2 x2 r2 => ?_) fun _ _ _ z => z)⟩
  exact k _ _ _ (x1.trans x2) ((ha.mono x2.ff).append r2)
def mkT (ds : List D) : M D := if ds.length ≤ sizeLine then pure (.tup ds) else nope
def mkL (ds : List D) : M D := if ds.length ≤ sizeLine then pure (.lst ds) else nope
def tupF (fs : Rho → M (List D)) : Rho → M D := fun ρ => do mkT (← fs ρ)
def lstF (fs : Rho → M (List D)) : Rho → M D := fun ρ => do mkL (← fs ρ)
theorem post_mkT {A : D → Pot → Prop} {B : Nat → D → Pot → Prop} {ds : List D} {s : Pot} (h : Post A B (mkT ds s)) : ds.length ≤ sizeLine ∧ A (.tup ds) s := by
  unfold mkT at h
  split at h
  · exact ⟨by assumption, h⟩
  · exact h.elim
theorem post_mkL {A : D → Pot → Prop} {B : Nat → D → Pot → Prop} {ds : List D} {s : Pot} (h : Post A B (mkL ds s)) : ds.length ≤ sizeLine ∧ A (.lst ds) s := by
  unfold mkL at h
  split at h
  · exact ⟨by assumption, h⟩
  · exact h.elim
theorem je_tup {es : List Expr} {fs : Rho → M (List D)} {x1} (h : JA c Γ es fs) : JE c Γ (.Tuple es x1 pos) (tupF fs) := by
  obtain ⟨t, h1, h2⟩ := h
  refine ⟨_, fun X h => pe_tup (h1 X h), fun B ρ s σ Hf H Q V p => ?_⟩
  unfold tupF at p
  rw [post_bind] at p
  refine h2 B ρ s σ Hf H _ V (p.imp (fun d s1 p1 vs Hf1 H1 x1 r1 => ?_) fun _ _ _ z => z)
  obtain ⟨hz, k⟩ := post_mkT p1
  refine ⟨by rw [r1.len]; exact hz, fun q hq => ?_⟩
  have y := x1.newF (o := .tup vs) hq
  exact k _ _ _ (x1.trans y) (.tup (.inl (.inl upd_same)) (by rw [r1.len]; exact hz) (r1.mono y.ff))
theorem jf_lst {es : List Expr} {fs : Rho → M (List D)} (h : JA c Γ es fs) : JF c Γ (.List es pos) (lstF fs) := by
  obtain ⟨t, h1, h2⟩ := h
  refine ⟨_, fun X h => pe_lst (h1 X h), fun B ρ s σ Hf H Q V p => ?_⟩
  unfold lstF at p
  rw [post_bind] at p
  refine h2 B ρ s σ Hf H _ V (p.imp (fun d s1 p1 vs Hf1 H1 x1 r1 => ?_) fun _ _ _ z => z)
  obtain ⟨hz, k⟩ := post_mkL p1
  refine ⟨by rw [r1.len]; exact hz, fun q hq => ?_⟩
  obtain ⟨y, nf, nP⟩ := x1.newU (o := .lst vs) hq
  exact k _ _ _ (x1.trans y) (elder_f _ _ _ _ _ _ _ _ _ _ x1 y ⟨q, _, _, rfl, rfl, hq, nf, nP, upd_same, by rw [r1.len]; exact hz, r1⟩)
def CallD (W : Wd) (Rs : Res) (r : List V → Hp → VK → Prop) (g : List D → Option D) : Prop :=
  ∀ Hf H s xs ds z Q, Ext W Hf H Hf H s → VAll W Hf H xs ds → g ds = some z → (∀ v Hf' H', Ext W Hf H Hf' H' s → Rs H Hf' H' v z → Q v H') → r xs H Q
def callF (g : List D → Option D) (fs : Rho → M (List D)) : Rho → M D := fun ρ => do
  let ds ← fs ρ
  opt (g ds)
theorem rx_call {Rs : Res} {r : List V → Hp → VK → Prop} {g : List D → Option D} {t : TA} {fs : Rho → M (List D)} (el : Elder c.W Rs) (ho : CallD c.W Rs r g)
    (h2 : ∀ B ρ s σ Hf H Q, EnvAt c.W B Γ ρ s σ Hf H → Post (fun ds s' => ∀ vs Hf' H', Ext c.W Hf H Hf' H' s' → VAll c.W Hf' H' vs ds → Q vs H') (ErrOk c.W B c.E) (fs ρ s) → t σ H Q) : RX c.W c.E Γ Rs (tCB r t) (callF g fs) := by
  intro B ρ s σ Hf H Q V p
  unfold callF at p
  rw [post_bind] at p
  refine h2 B ρ s σ Hf H _ V (p.imp (fun d s1 p1 v Hf1 H1 x1 r1 => ?_) fun _ _ _ z => z)
  rw [post_opt] at p1
  obtain ⟨z, e, k⟩ := p1
  exact ho Hf1 H1 s1 v d z Q x1.refl r1 e fun u Hf3 H3 x3 r3 => k u Hf3 H3 (x1.trans x3) (el _ _ _ _ _ _ _ _ _ _ x1 x3 r3)
theorem jx_callB {Rs : Wd → Res} {x : Str} {id : String} {r : List V → Hp → VK → Prop} {g : List D → Option D} {es : List Expr} {fs : Rho → M (List D)} {p : Pos} (el : ∀ W, Elder W (Rs W)) (hr : ∀ X, Is c X → CallR X (.builtin id) r) (ho : CallD c.W (Rs c.W) r g)
    (hv : bootBuiltins x = some (.builtin id)) (ha : JAv c Γ (e :: es) fs) (hg : c.sc.names.lookup x = some .globalImplicit) (hm : c.G.mg x = none)
    (he : ∀ env, starEach (e :: es) env = (false, eval e env) :: starEach es env := by intro _; rfl) (hpl : ∀ env, (backTo pos (starEach es env)).any (·.1) = false := by intro _; rfl) (hd : (x == ("__debug__" : Str)) = false := by decide) (hn : x ≠ "__name__" := by decide) : JX c Rs Γ (.Call (.Name x p) (e :: es) [] pos) (callF g fs) := by
  obtain ⟨t, h1, h2⟩ := ha
  exact ⟨tCB r t, fun X h => pe_callB (hr X h) (h.gl hg) (by rw [h.mg]; exact hm) hv (h1 X h) (hdb := hd) (hn := hn) (he := he _) (hpl := hpl _), rx_call (el _) ho h2⟩
theorem jx_callT {Rs : Wd → Res} {x : Str} {T : String} {r : List V → Hp → VK → Prop} {g : List D → Option D} {es : List Expr} {fs : Rho → M (List D)} {p : Pos} (el : ∀ W, Elder W (Rs W)) (hr : ∀ X, Is c X → CallR X (.type T) r) (ho : CallD c.W (Rs c.W) r g)
    (hv : bootBuiltins x = some (.type T)) (ha : JAv c Γ (e :: es) fs) (hg : c.sc.names.lookup x = some .globalImplicit) (hm : c.G.mg x = none)
    (he : ∀ env, starEach (e :: es) env = (false, eval e env) :: starEach es env := by intro _; rfl) (hpl : ∀ env, (backTo pos (starEach es env)).any (·.1) = false := by intro _; rfl) (hd : (x == ("__debug__" : Str)) = false := by decide) (hn : x ≠ "__name__" := by decide) : JX c Rs Γ (.Call (.Name x p) (e :: es) [] pos) (callF g fs) := by
  obtain ⟨t, h1, h2⟩ := ha
  exact ⟨tCB r t, fun X h => pe_callTy (hr X h) (h.gl hg) (by rw [h.mg]; exact hm) hv (h1 X h) (hdb := hd) (hn := hn) (he := he _) (hpl := hpl _), rx_call (el _) ho h2⟩
end
end VL
namespace VL
open PySem PySem.Spec PyProof.Rows L2
theorem CallR.or {X : Cx} {f : Value} {r r' : List V → Hp → VK → Prop} (h : CallR X f r) (h' : CallR X f r') : CallR X f (fun xs H Q => r xs H Q ∨ r' xs H Q) := by
  intro pins s σ H xs us Q I rx q
  rcases q with q | q
  · exact h pins s σ H xs us Q I rx q
  · exact h' pins s σ H xs us Q I rx q
section
variable {c : Ctx} {W : Wd} {E : XK} {Γ : Gam} {e a b o : Expr} {f fa fb fo : Rho → M D} {pos : Pos} {Hf H : Hp}
theorem VAll.one {xs : List V} {d : D} (h : VAll W Hf H xs [d]) : ∃ x, xs = [x] ∧ VAt W Hf H x d := by
  cases h with
  | cons h r => cases r; exact ⟨_, rfl, h⟩
theorem VAll.two {xs : List V} {d e : D} (h : VAll W Hf H xs [d, e]) : ∃ x y, xs = [x, y] ∧ VAt W Hf H x d ∧ VAt W Hf H y e := by
  cases h with
  | cons h r => cases r with
    | cons h' r => cases r; exact ⟨_, _, rfl, h, h'⟩
def lenD (ds : List D) : Option D := match ds with
  | [.lst l] => some (.int l.length)
  | [.tup l] => some (.int l.length)
  | [.dct l] => some (.int l.length)
  | [.str x] => if x.length ≤ sizeLine then some (.int x.length) else none
  | _ => none
def rLenA (K : PySem.W.Frag) : List V → Hp → VK → Prop := fun xs H Q => (∃ p ys, xs = [.ref p] ∧ (SqL K H p ys ∨ SqT K H p ys) ∧ Q (.int ys.length) H) ∨ ((∃ x n, xs = [x] ∧ LenV K x H n ∧ Q (.int n) H) ∨ (∃ a kvs, xs = [V.ref a] ∧ Rd H a (.dK kvs) ∧ Q (.int kvs.length) H))
theorem call_lenRd {X : Cx} : CallR X (.builtin "len") (fun xs H Q => ∃ a kvs, xs = [V.ref a] ∧ Rd H a (.dK kvs) ∧ Q (.int kvs.length) H) := by
  intro pins s σ H xs us Q I r h
  obtain ⟨a, kvs, e, hrd, q⟩ := h
  subst e
  obtain ⟨u, eu, ru⟩ := vals1 r
  subst eu
  cases ru
  exact d_len I hrd fun t s' I' => ⟨.int kvs.length, H, I', ⟨t, rfl⟩, q⟩
theorem cr_lenA (X : Cx) (h : Is c X) : CallR X (.builtin "len") (rLenA c.W.K) := by
  have h1 := call_len_seq (X := X)
  have h2 := call_len (X := X)
  rw [h.K] at h1 h2
  exact CallR.or h1 (CallR.or h2 call_lenRd)
theorem cd_len : CallD W (rAt W) (rLenA W.K) lenD := by
  intro Hf H s xs ds z Q x0 hxs hg k
  unfold lenD at hg
  split at hg
  · cases hg
    obtain ⟨x, rfl, hx⟩ := hxs.one
    obtain ⟨p, ys, rfl, h1, h2, h3⟩ := hx.lst' x0.fh
    exact .inl ⟨p, ys, rfl, .inl (SqL.of h1), by rw [h3.len]; exact k _ _ _ x0 (.int _)⟩
  · cases hg
    obtain ⟨x, rfl, hx⟩ := hxs.one
    obtain ⟨p, ys, rfl, h1, h2, h3⟩ := hx.tup' x0.fh
    exact .inl ⟨p, ys, rfl, .inr h1, by rw [h3.len]; exact k _ _ _ x0 (.int _)⟩
  · cases hg
    obtain ⟨x, rfl, hx⟩ := hxs.one
    obtain ⟨p, ys, rfl, h1, h2, h3⟩ := hx.dct' x0.fh
    exact .inr (.inr ⟨p, ys, rfl, h1, by rw [h3.len]; exact k _ _ _ x0 (.int _)⟩)
  · split at hg
    · rename_i hz
      cases hg
      obtain ⟨x, rfl, hx⟩ := hxs.one
      have e := hx.str'
      subst e
      exact .inr (.inl ⟨_, _, rfl, ⟨hz, rfl⟩, k _ _ _ x0 (.int _)⟩)
    · cases hg
  · cases hg
theorem je_len {fs : Rho → M (List D)} {p : Pos} (ha : JAv c Γ [e] fs) (hg : c.sc.names.lookup ("len" : Str) = some .globalImplicit) (hm : c.G.mg "len" = none) (he : ∀ env, starEach [e] env = (false, eval e env) :: starEach [] env := by intro _; rfl) : JE c Γ (.Call (.Name "len" p) [e] [] pos) (callF lenD fs) :=
  jx_callB (fun _ => elder_at) cr_lenA cd_len boot_len ha hg hm he
theorem VAt.tupAt {v : V} {l : List D} (h : VAt W Hf H v (.tup l)) : At W Hf v (.tup l) := by
  cases h with
  | fr h => exact h
def tupleD (ds : List D) : Option D := match ds with
  | [.lst l] => some (.tup l)
  | [.tup l] => some (.tup l)
  | _ => none
def listD (ds : List D) : Option D := match ds with
  | [.lst l] => some (.lst l)
  | [.tup l] => some (.lst l)
  | _ => none
def keyD : Key → D
  | .inl i => .int i
  | .inr x => .str x
def keysD (ds : List D) : Option D := match ds with
  | [.dct l] => some (.lst (l.map fun z => keyD z.1))
  | _ => none
theorem cd_tuple : CallD W (rAt W) (fun xs H Q => ∃ p ys, xs = [.ref p] ∧ ((SqL W.K H p ys ∧ ∀ l, H l = none → Q (.ref l) (upd H l (.tup ys))) ∨ (SqT W.K H p ys ∧ Q (.ref p) H))) tupleD := by
  intro Hf H s xs ds z Q x0 hxs hg k
  unfold tupleD at hg
  split at hg
  · cases hg
    obtain ⟨x, rfl, hx⟩ := hxs.one
    obtain ⟨p, ys, rfl, h1, h2, h3⟩ := hx.lst' x0.fh
    refine ⟨p, ys, rfl, .inl ⟨SqL.of h1, fun q hq => ?_⟩⟩
    have y := x0.newF (o := .tup ys) hq
    exact k _ _ _ y (.tup (.inl (.inl upd_same)) h2 (h3.mono y.ff))
  · cases hg
    obtain ⟨x, rfl, hx⟩ := hxs.one
    have hx' := VAt.tupAt hx
    obtain ⟨p, ys, rfl, h1, h2, h3⟩ := hx.tup' x0.fh
    exact ⟨p, ys, rfl, .inr ⟨h1, k _ _ _ x0 hx'⟩⟩
  · cases hg
theorem je_tuple {fs : Rho → M (List D)} {p : Pos} (ha : JAv c Γ [e] fs) (hg : c.sc.names.lookup ("tuple" : Str) = some .globalImplicit) (hm : c.G.mg "tuple" = none) (he : ∀ env, starEach [e] env = (false, eval e env) :: starEach [] env := by intro _; rfl) : JE c Γ (.Call (.Name "tuple" p) [e] [] pos) (callF tupleD fs) :=
  jx_callT (fun _ => elder_at) (fun X h => by have q := call_tuple_of (X := X); rw [h.K] at q; exact q) cd_tuple (by decide +kernel) ha hg hm he
theorem cd_list : CallD W (rF W) (fun xs H Q => ∃ p ys, xs = [.ref p] ∧ (SqL W.K H p ys ∨ SqT W.K H p ys) ∧ ∀ l, H l = none → Q (.ref l) (upd H l (.lst ys))) listD := by
  intro Hf H s xs ds z Q x0 hxs hg k
  have fin : ∀ {l : List D} {p : Addr} {ys : List V}, z = .lst l → ys.length ≤ sizeLine → AtAll W Hf ys l → ∀ q, H q = none → Q (.ref q) (upd H q (.lst ys)) := by
    intro l p ys e h2 h3 q hq
    subst e
    obtain ⟨y, nf, nP⟩ := x0.newU (o := .lst ys) hq
    exact k _ _ _ y ⟨q, _, _, rfl, rfl, hq, nf, nP, upd_same, h2, h3⟩
  unfold listD at hg
  split at hg
  · cases hg
    obtain ⟨x, rfl, hx⟩ := hxs.one
    obtain ⟨p, ys, rfl, h1, h2, h3⟩ := hx.lst' x0.fh
    exact ⟨p, ys, rfl, .inl (SqL.of h1), fin (p := p) rfl h2 h3⟩
  · cases hg
    obtain ⟨x, rfl, hx⟩ := hxs.one
    obtain ⟨p, ys, rfl, h1, h2, h3⟩ := hx.tup' x0.fh
    exact ⟨p, ys, rfl, .inr h1, fin (p := p) rfl h2 h3⟩
  · cases hg
theorem jf_list {fs : Rho → M (List D)} {p : Pos} (ha : JAv c Γ [e] fs) (hg : c.sc.names.lookup ("list" : Str) = some .globalImplicit) (hm : c.G.mg "list" = none) (he : ∀ env, starEach [e] env = (false, eval e env) :: starEach [] env := by intro _; rfl) : JF c Γ (.Call (.Name "list" p) [e] [] pos) (callF listD fs) :=
  jx_callT (fun _ => elder_f) (fun X h => by have q := call_list_of (X := X); rw [h.K] at q; exact q) cd_list (by decide +kernel) ha hg hm he
theorem AtAll.keys : ∀ {ks : List (Key × V)} {ds : List (Key × D)}, AtKv W H ks ds → AtAll W H (ks.map fun kv => kV kv.1) (ds.map fun z => keyD z.1)
  | _, _, .nil => .nil
  | _, _, .cons (k := k) h r => by
    cases k with
    | inl i => exact .cons (.int i) (AtAll.keys r)
    | inr x => exact .cons (.str x) (AtAll.keys r)
theorem cd_keys : CallD W (rF W) (fun xs H Q => ∃ (a : Addr) (kvs : List (Key × V)), xs = [.ref a] ∧ Rd H a (.dK kvs) ∧ ∀ p, H p = none → Q (.ref p) (upd H p (.lst (kvs.map fun kv => kV kv.1)))) keysD := by
  intro Hf H s xs ds z Q x0 hxs hg k
  unfold keysD at hg
  split at hg
  · cases hg
    obtain ⟨x, rfl, hx⟩ := hxs.one
    obtain ⟨p, ys, rfl, h1, h2, h3⟩ := hx.dct' x0.fh
    refine ⟨p, ys, rfl, h1, fun q hq => ?_⟩
    obtain ⟨y, nf, nP⟩ := x0.newU (o := .lst (ys.map fun kv => kV kv.1)) hq
    exact k _ _ _ y ⟨q, _, _, rfl, rfl, hq, nf, nP, upd_same, by rw [List.length_map]; exact h2, AtAll.keys h3⟩
  · cases hg
theorem jf_keys {fs : Rho → M (List D)} {p : Pos} (ha : JAv c Γ [e] fs) (hg : c.sc.names.lookup ("list" : Str) = some .globalImplicit) (hm : c.G.mg "list" = none) (he : ∀ env, starEach [e] env = (false, eval e env) :: starEach [] env := by intro _; rfl) : JF c Γ (.Call (.Name "list" p) [e] [] pos) (callF keysD fs) :=
  jx_callT (fun _ => elder_f) (fun X h => call_listD h.calm) cd_keys (by decide +kernel) ha hg hm he
def intD (ds : List D) : Option D := match ds with
  | [.int i] => some (.int i)
  | [.bl b] => some (.int (if b then 1 else 0))
  | _ => none
theorem je_int' {fs : Rho → M (List D)} {p : Pos} (ha : JAv c Γ [e] fs) (hg : c.sc.names.lookup ("int" : Str) = some .globalImplicit) (hm : c.G.mg "int" = none) (he : ∀ env, starEach [e] env = (false, eval e env) :: starEach [] env := by intro _; rfl) : JE c Γ (.Call (.Name "int" p) [e] [] pos) (callF intD fs) := by
  refine jx_callT (fun _ => elder_at) (fun X h => call_int1) ?_ (by decide +kernel) ha hg hm he
  intro Hf H s xs ds z Q x0 hxs hg k
  unfold intD at hg
  split at hg
  · cases hg
    obtain ⟨x, rfl, hx⟩ := hxs.one
    exact .inl ⟨_, by rw [hx.int'], k _ _ _ x0 (.int _)⟩
  · cases hg
    obtain ⟨x, rfl, hx⟩ := hxs.one
    exact .inr ⟨_, by rw [hx.bl'], k _ _ _ x0 (.int _)⟩
  · cases hg
def intsOf : List D → Option (List Int)
  | [] => some []
  | .int i :: r => (intsOf r).map (i :: ·)
  | _ => none
theorem intsOf_some : ∀ {ds : List D} {ns : List Int}, intsOf ds = some ns → ds = ns.map .int
  | [], ns, h => by cases h; rfl
  | .int i :: r, ns, h => by
    simp only [intsOf, Option.map_eq_some_iff] at h
    obtain ⟨m, hm, rfl⟩ := h
    rw [intsOf_some hm]; rfl
  | .non :: _, _, h => by cases h
  | .bl _ :: _, _, h => by cases h
  | .str _ :: _, _, h => by cases h
  | .tup _ :: _, _, h => by cases h
  | .lst _ :: _, _, h => by cases h
  | .dct _ :: _, _, h => by cases h
  | .obj _ _ :: _, _, h => by cases h
  | .exc _ _ :: _, _, h => by cases h
  | .clo _ _ :: _, _, h => by cases h
  | .pot :: _, _, h => by cases h
theorem AtAll.ints : ∀ {xs : List V} {ns : List Int}, AtAll W H xs (ns.map .int) → xs = ns.map V.int
  | _, [], .nil => rfl
  | _, n :: r, .cons h t => by cases h; rw [AtAll.ints t]; rfl
def boolsOf : List D → Option (List Bool)
  | [] => some []
  | .bl i :: r => (boolsOf r).map (i :: ·)
  | _ => none
theorem boolsOf_some : ∀ {ds : List D} {ns : List Bool}, boolsOf ds = some ns → ds = ns.map .bl
  | [], ns, h => by cases h; rfl
  | .bl i :: r, ns, h => by
    simp only [boolsOf, Option.map_eq_some_iff] at h
    obtain ⟨m, hm, rfl⟩ := h
    rw [boolsOf_some hm]; rfl
  | .non :: _, _, h => by cases h
  | .int _ :: _, _, h => by cases h
  | .str _ :: _, _, h => by cases h
  | .tup _ :: _, _, h => by cases h
  | .lst _ :: _, _, h => by cases h
  | .dct _ :: _, _, h => by cases h
  | .obj _ _ :: _, _, h => by cases h
  | .exc _ _ :: _, _, h => by cases h
  | .clo _ _ :: _, _, h => by cases h
  | .pot :: _, _, h => by cases h
theorem boolsOf_map (ns : List Bool) : boolsOf (ns.map .bl) = some ns := by
  induction ns with
  | nil => rfl
  | cons n r ih => simp only [List.map_cons, boolsOf, ih, Option.map_some]
theorem AtAll.bools : ∀ {xs : List V} {ns : List Bool}, AtAll W H xs (ns.map .bl) → xs = ns.map V.bl
  | _, [], .nil => rfl
  | _, n :: r, .cons h t => by cases h; rw [AtAll.bools t]; rfl
def minI : List Int → Int
  | [] => 0
  | [a] => a
  | a :: r => if a ≤ minI r then a else minI r
theorem minI_mem : ∀ {l : List Int}, l ≠ [] → minI l ∈ l
  | [a], _ => by simp [minI]
  | a :: b :: r, _ => by
    have ih := minI_mem (l := b :: r) (by simp)
    simp only [minI]
    split
    · simp
    · exact List.mem_cons_of_mem _ ih
theorem minI_le : ∀ {l : List Int} {y : Int}, y ∈ l → minI l ≤ y
  | [a], y, h => by simp at h; subst h; simp [minI]
  | a :: b :: r, y, h => by
    simp only [minI]
    rcases List.mem_cons.mp h with rfl | h
    · split <;> omega
    · have := minI_le (l := b :: r) h
      split <;> omega
def minLD (ds : List D) : Option D := match ds with
  | [.lst l] => match intsOf l with
    | some (n :: ns) => some (.int (minI (n :: ns)))
    | _ => none
  | _ => none
theorem je_minL {fs : Rho → M (List D)} {p : Pos} (ha : JAv c Γ [e] fs) (hg : c.sc.names.lookup ("min" : Str) = some .globalImplicit) (hm : c.G.mg "min" = none) (he : ∀ env, starEach [e] env = (false, eval e env) :: starEach [] env := by intro _; rfl) : JE c Γ (.Call (.Name "min" p) [e] [] pos) (callF minLD fs) := by
  refine jx_callB (r := rMin c.W.K) (fun _ => elder_at) (fun X h => by have q := cr_min (X := X) h.calm; rw [h.K] at q; exact q) ?_ (by decide +kernel) ha hg hm he
  intro Hf H s xs ds z Q x0 hxs hg k
  unfold minLD at hg
  split at hg
  · split at hg
    · rename_i n ns hn
      cases hg
      obtain ⟨x, rfl, hx⟩ := hxs.one
      obtain ⟨p, ys, rfl, h1, h2, h3⟩ := hx.lst' x0.fh
      rw [intsOf_some hn] at h3
      refine ⟨p, n :: ns, rfl, by rw [← h3.ints]; exact SqL.of h1, by simp, fun m hm hle => ?_⟩
      have e : m = minI (n :: ns) := by
        have h4 := hle _ (minI_mem (l := n :: ns) (by simp))
        have h5 := minI_le hm
        omega
      rw [e]
      exact k _ _ _ x0 (.int _)
    · cases hg
  · cases hg
def allD (ds : List D) : Option D := match ds with
  | [.lst l] => (boolsOf l).map fun ns => .bl (ns.all id)
  | _ => none
def anyD (ds : List D) : Option D := match ds with
  | [.lst l] => (boolsOf l).map fun ns => .bl (ns.any id)
  | _ => none
theorem je_all {fs : Rho → M (List D)} {p : Pos} (ha : JAv c Γ [e] fs) (hg : c.sc.names.lookup ("all" : Str) = some .globalImplicit) (hm : c.G.mg "all" = none) (he : ∀ env, starEach [e] env = (false, eval e env) :: starEach [] env := by intro _; rfl) : JE c Γ (.Call (.Name "all" p) [e] [] pos) (callF allD fs) := by
  refine jx_callB (r := rAll c.W.K) (fun _ => elder_at) (fun X h => by have q := cr_all (X := X) h.calm; rw [h.K] at q; exact q) ?_ (by decide +kernel) ha hg hm he
  intro Hf H s xs ds z Q x0 hxs hg k
  unfold allD at hg
  split at hg
  · simp only [Option.map_eq_some_iff] at hg
    obtain ⟨ns, hn, rfl⟩ := hg
    obtain ⟨x, rfl, hx⟩ := hxs.one
    obtain ⟨p, ys, rfl, h1, h2, h3⟩ := hx.lst' x0.fh
    rw [boolsOf_some hn] at h3
    exact ⟨p, ns, rfl, by rw [← h3.bools]; exact SqL.of h1, k _ _ _ x0 (.bl _)⟩
  · cases hg
def strsOf : List D → Option (List Str)
  | [] => some []
  | .str i :: r => (strsOf r).map (i :: ·)
  | _ => none
theorem strsOf_some : ∀ {ds : List D} {ns : List Str}, strsOf ds = some ns → ds = ns.map .str
  | [], ns, h => by cases h; rfl
  | .str i :: r, ns, h => by
    simp only [strsOf, Option.map_eq_some_iff] at h
    obtain ⟨m, hm, rfl⟩ := h
    rw [strsOf_some hm]; rfl
  | .non :: _, _, h => by cases h
  | .int _ :: _, _, h => by cases h
  | .bl _ :: _, _, h => by cases h
  | .tup _ :: _, _, h => by cases h
  | .lst _ :: _, _, h => by cases h
  | .dct _ :: _, _, h => by cases h
  | .obj _ _ :: _, _, h => by cases h
  | .exc _ _ :: _, _, h => by cases h
  | .clo _ _ :: _, _, h => by cases h
  | .pot :: _, _, h => by cases h
theorem strsOf_map (ns : List Str) : strsOf (ns.map .str) = some ns := by
  induction ns with
  | nil => rfl
  | cons n r ih => simp only [List.map_cons, strsOf, ih, Option.map_some]
theorem AtAll.strs : ∀ {xs : List V} {ns : List Str}, AtAll W H xs (ns.map .str) → xs = ns.map V.str
  | _, [], .nil => rfl
  | _, n :: r, .cons h t => by cases h; rw [AtAll.strs t]; rfl
theorem AtAll.of_strs (ns : List Str) : AtAll W H (ns.map V.str) (ns.map .str) := by
  induction ns with
  | nil => exact .nil
  | cons n r ih => exact .cons (.str n) ih
def isStr (f : Rho → M D) : Rho → M D := fun ρ => do
  let d ← f ρ
  match d with
  | .str x => pure (.str x)
  | _ => nope
def joinD (d e : D) : Option D := match d with
  | .str x => match seqOf e with
    | some l => match strsOf l with
      | some ys => if (ys.map (·.length)).sum + ys.length * x.length ≤ 16777216 then some (.str (Txt.join x ys)) else none
      | none => none
    | none => none
  | _ => none
def splitD (d e : D) : Option D := match d, e with
  | .str x, .str y => if (y.length == 0) = false ∧ x.length + 2 ≤ sizeLine ∧ (Txt.split x y).length ≤ sizeLine then some (.lst ((Txt.split x y).map .str)) else none
  | _, _ => none
def binS (g : D → D → Option D) (fa fb : Rho → M D) : Rho → M D := bin g (isStr fa) fb
theorem rx_m1 {Rs : Res} {r : V → List V → Hp → VK → Prop} {g : D → D → Option D} {ta tb : TE} (el : Elder W Rs) (ho : ∀ Hf H s x y z Q d, Ext W Hf H Hf H s → VAt W Hf H y d → g (.str x) d = some z → (∀ v Hf' H', Ext W Hf H Hf' H' s → Rs H Hf' H' v z → Q v H') → r (.str x) [y] H Q) (ha : RX W E Γ (rV W) ta fa) (hb : RX W E Γ (rV W) tb fb) : RX W E Γ Rs (tM1 r ta tb) (binS g fa fb) := by
  intro B ρ s σ Hf H Q V p
  unfold binS bin isStr at p
  rw [post_bind, post_bind] at p
  refine ha B ρ s σ Hf H _ V (p.imp (fun d s1 p1 v Hf1 H1 x1 r1 => ?_) fun _ _ _ z => z)
  cases d with
  | str x =>
    have e := r1.str'
    subst e
    have p1 : Post _ _ ((fb ρ >>= fun e => opt (g (.str x) e)) s1) := p1
    rw [post_bind] at p1
    refine ⟨⟨_, rfl⟩, hb B ρ s1 σ Hf1 H1 _ (V.ext' x1) (p1.imp (fun d2 s2 p2 v2 Hf2 H2 x2 r2 => ?_) fun _ _ _ z => z)⟩
    rw [post_opt] at p2
    obtain ⟨z, e, k⟩ := p2
    exact ho Hf2 H2 s2 x v2 z Q d2 x2.refl r2 e fun u Hf3 H3 x3 r3 => k u Hf3 H3 ((x1.trans x2).trans x3) (el _ _ _ _ _ _ _ _ _ _ (x1.trans x2) x3 r3)
  | _ => exact p1.elim
theorem je_join {apos : Pos} (ha : JV c Γ o fo) (hb : JV c Γ e fb) (hline : (apos.endLine == pos.line) = true := by rfl) (hs : ∀ env, starEach [e] env = [(false, eval e env)] := by intro _; rfl) (hbase : ∀ env, attributeBase o "join" env (eval o env) = eval o env := by intro _; rfl) : JE c Γ (.Call (.Attribute o "join" apos) [e] [] pos) (binS joinD fo fb) := by
  obtain ⟨ta, a1, a2⟩ := ha
  obtain ⟨tb, b1, b2⟩ := hb
  refine ⟨tM1 (fun x xs H Q => ∃ a p, ∃ ys : List Str, x = .str a ∧ xs = [.ref p] ∧ (SqL c.W.K H p (ys.map V.str) ∨ SqT c.W.K H p (ys.map V.str)) ∧ (ys.map (·.length)).sum + ys.length * a.length ≤ 16777216 ∧ Q (.str (Txt.join a ys)) H) ta tb, fun X h => ?_, rx_m1 elder_at ?_ a2 b2⟩
  · have q := pe_join (a1 X h) (b1 X h) (hs _) (hbase _) hline
    rw [h.K] at q; exact q
  · intro Hf H s x y z Q d x0 hy hg k
    unfold joinD at hg
    dsimp only at hg
    split at hg
    · rename_i l hl
      split at hg
      · rename_i ys hys
        split at hg
        · rename_i hz
          cases hg
          obtain ⟨p, xs, rfl, h1, h2, h3⟩ := hy.seq' x0.fh hl
          rw [strsOf_some hys] at h3
          have e := h3.strs
          subst e
          exact ⟨x, p, ys, rfl, rfl, h1.symm, hz, k _ _ _ x0 (.str _)⟩
        · cases hg
      · cases hg
    · cases hg
theorem jf_split {apos : Pos} (ha : JV c Γ o fo) (hb : JV c Γ e fb) (hline : (apos.endLine == pos.line) = true := by rfl) (hs : ∀ env, starEach [e] env = [(false, eval e env)] := by intro _; rfl) (hbase : ∀ env, attributeBase o "split" env (eval o env) = eval o env := by intro _; rfl) : JF c Γ (.Call (.Attribute o "split" apos) [e] [] pos) (binS splitD fo fb) := by
  obtain ⟨ta, a1, a2⟩ := ha
  obtain ⟨tb, b1, b2⟩ := hb
  refine ⟨_, fun X h => pe_split (a1 X h) (b1 X h) (hs _) (hbase _) hline, rx_m1 elder_f ?_ a2 b2⟩
  intro Hf H s x y z Q d x0 hy hg k
  unfold splitD at hg
  split at hg
  · split at hg
    · rename_i _ _ x' y' e1 hz
      cases e1
      cases hg
      have e := hy.str'
      subst e
      refine ⟨x, y', rfl, rfl, hz.1, hz.2.1, fun p hp => ?_⟩
      obtain ⟨y, nf, nP⟩ := x0.newU (o := .lst ((Txt.split x y').map V.str)) hp
      exact k _ _ _ y ⟨p, _, _, rfl, rfl, hp, nf, nP, upd_same, by rw [List.length_map]; exact hz.2.2, AtAll.of_strs _⟩
    · cases hg
  · cases hg
def valD (l : List (Key × D)) (k : Key) : Option D := (l.find? fun kv => decide (kv.1 = k)).map (·.2)
def putD (l : List (Key × D)) (k : Key) (v : D) : List (Key × D) :=
  if (l.any fun kv => decide (kv.1 = k)) = true then l.map (fun kv => if kv.1 = k then (kv.1, v) else kv) else l ++ [(k, v)]
theorem AtKv.val : ∀ {ks : List (Key × V)} {ds : List (Key × D)} (k : Key), AtKv W H ks ds → (∀ d, valD ds k = some d → ∃ v, valV ks k = some v ∧ At W H v d) ∧ (valD ds k = none → valV ks k = none)
  | _, _, k, .nil => ⟨fun d h => by simp [valD] at h, fun _ => rfl⟩
  | _, _, k, .cons (k := k') h r => by
    obtain ⟨h1, h2⟩ := AtKv.val k r
    by_cases e : k' = k
    · subst e
      refine ⟨fun d hd => ?_, fun hd => ?_⟩
      · simp [valD, List.find?_cons] at hd
        subst hd
        exact ⟨_, valV_pos rfl, h⟩
      · simp [valD, List.find?_cons] at hd
    · refine ⟨fun d hd => ?_, fun hd => ?_⟩
      · obtain ⟨v, q, a⟩ := h1 d (by simpa [valD, List.find?_cons, e] using hd)
        exact ⟨v, by rw [valV_neg (p := (k', _)) e]; exact q, a⟩
      · rw [valV_neg (p := (k', _)) e]
        exact h2 (by simpa [valD, List.find?_cons, e] using hd)
theorem AtKv.any : ∀ {ks : List (Key × V)} {ds : List (Key × D)} (k : Key), AtKv W H ks ds → (ks.any fun kv => decide (kv.1 = k)) = (ds.any fun kv => decide (kv.1 = k))
  | _, _, _, .nil => rfl
  | _, _, k, .cons h r => by simp only [List.any_cons]; rw [AtKv.any k r]
theorem AtKv.append : ∀ {ks ks' : List (Key × V)} {ds ds' : List (Key × D)}, AtKv W H ks ds → AtKv W H ks' ds' → AtKv W H (ks ++ ks') (ds ++ ds')
  | _, _, _, _, .nil, s => s
  | _, _, _, _, .cons h r, s => .cons h (AtKv.append r s)
theorem AtKv.repl : ∀ {ks : List (Key × V)} {ds : List (Key × D)} {k : Key} {v : V} {d : D}, At W H v d → AtKv W H ks ds → AtKv W H (ks.map fun kv => if kv.1 = k then (kv.1, v) else kv) (ds.map fun kv => if kv.1 = k then (kv.1, d) else kv)
  | _, _, _, _, _, _, .nil => .nil
  | _, _, k, _, _, h, .cons (k := k') a r => by
    by_cases e : k' = k
    · subst e
      simp only [List.map_cons, if_true]
      exact .cons h (AtKv.repl h r)
    · simp only [List.map_cons, if_neg e]
      exact .cons a (AtKv.repl h r)
theorem AtKv.put {ks : List (Key × V)} {ds : List (Key × D)} {k : Key} {v : V} {d : D} (h : At W H v d) (r : AtKv W H ks ds) : AtKv W H (putK ks k v) (putD ds k d) := by
  unfold putK putD
  rw [r.any k]
  split
  · exact r.repl h
  · exact r.append (.cons h .nil)
def asKey : D → Option Key
  | .int i => some (.inl i)
  | .str x => some (.inr x)
  | _ => none
theorem asKey_v {d : D} {k : Key} {v : V} (h : asKey d = some k) (hv : VAt W Hf H v d) : v = kV k := by
  cases d with
  | int i => cases h; exact hv.int'
  | str x => cases h; exact hv.str'
  | _ => cases h
def getD' (d e : D) : Option D := match d with
  | .dct l => match asKey e with
    | some k => valD l k
    | none => none
  | _ => none
def inDct (e d : D) : Option D := match d with
  | .dct l => match asKey e with
    | some k => some (.bl (valD l k).isSome)
    | none => none
  | _ => none
def notInDct (e d : D) : Option D := match d with
  | .dct l => match asKey e with
    | some k => some (.bl (!(valD l k).isSome))
    | none => none
  | _ => none
theorem Is.u1 {X : Cx} (h : Is c X) : X.A.units + 1 < cLine := by
  have := h.room.un; omega
theorem dget_rd {H : Hp} {a : Addr} {kvs : List (Key × V)} {k : Key} (e : Rd H a (.dK kvs)) : DGet H a (kV k) (valV kvs k) := .inl ⟨kvs, k, e, rfl, rfl⟩
theorem opd_getD : OpD W (rAt W) (fun x y H Q => ∃ a v, x = .ref a ∧ DGet H a y (some v) ∧ Q v H) getD' := by
  intro Hf H s x y d e z Q x0 hx hy hg k
  unfold getD' at hg
  split at hg
  · split at hg
    · rename_i l _ k' hk
      obtain ⟨p, ks, rfl, h1, h2, h3⟩ := hx.dct' x0.fh
      have ey := asKey_v hk hy
      subst ey
      obtain ⟨v, q, a⟩ := (h3.val k').1 z hg
      exact ⟨p, v, rfl, by rw [← q]; exact dget_rd h1, k _ _ _ x0 a⟩
    · cases hg
  · cases hg
theorem je_dget (ha : JV c Γ a fa) (hb : JV c Γ b fb) (hs : NoSl b := by exact fun _ _ => rfl) : JE c Γ (.Subscript a b pos) (bin getD' fa fb) := by
  obtain ⟨ta, a1, a2⟩ := ha
  obtain ⟨tb, b1, b2⟩ := hb
  exact ⟨tDGet ta tb, fun X h => pe_dget h.u1 (a1 X h) (b1 X h) hs, rx_bin elder_at opd_getD a2 b2⟩
theorem rx_din : RX W E Γ (rV W) ta fa → RX W E Γ (rV W) tb fb → RX W E Γ (rAt W) (tDIn ta tb) (bin inDct fa fb) := by
  intro ha hb
  have ho : OpD W (rAt W) (fun y x H Q => ∃ a o, x = .ref a ∧ DGet H a y o ∧ Q (.bl o.isSome) H) inDct := by
    intro Hf H s x y d e z Q x0 hx hy hg k
    unfold inDct at hg
    split at hg
    · split at hg
      · rename_i l _ k' hk
        cases hg
        obtain ⟨p, ks, rfl, h1, h2, h3⟩ := hy.dct' x0.fh
        have ey := asKey_v hk hx
        subst ey
        refine ⟨p, _, rfl, dget_rd h1, ?_⟩
        have e2 : (valV ks k').isSome = (valD l k').isSome := by
          cases q : valD l k' with
          | none => rw [(h3.val k').2 q]; rfl
          | some d => obtain ⟨v, q2, _⟩ := (h3.val k').1 d q; rw [q2]; rfl
        rw [e2]
        exact k _ _ _ x0 (.bl _)
      · cases hg
    · cases hg
  exact rx_bin elder_at ho ha hb
theorem rx_dnotin : RX W E Γ (rV W) ta fa → RX W E Γ (rV W) tb fb → RX W E Γ (rAt W) (tDNotIn ta tb) (bin notInDct fa fb) := by
  intro ha hb
  have ho : OpD W (rAt W) (fun y x H Q => ∃ a o, x = .ref a ∧ DGet H a y o ∧ Q (.bl (!o.isSome)) H) notInDct := by
    intro Hf H s x y d e z Q x0 hx hy hg k
    unfold notInDct at hg
    split at hg
    · split at hg
      · rename_i l _ k' hk
        cases hg
        obtain ⟨p, ks, rfl, h1, h2, h3⟩ := hy.dct' x0.fh
        have ey := asKey_v hk hx
        subst ey
        refine ⟨p, _, rfl, dget_rd h1, ?_⟩
        have e2 : (valV ks k').isSome = (valD l k').isSome := by
          cases q : valD l k' with
          | none => rw [(h3.val k').2 q]; rfl
          | some d => obtain ⟨v, q2, _⟩ := (h3.val k').1 d q; rw [q2]; rfl
        rw [e2]
        exact k _ _ _ x0 (.bl _)
      · cases hg
    · cases hg
  exact rx_bin elder_at ho ha hb
theorem jt_din (ha : JV c Γ a fa) (hb : JV c Γ b fb) (hm : behindInMarks .In b = false := by rfl) : JT c Γ (.Compare a [.In] [b] pos) (tst (bin inDct fa fb)) := by
  obtain ⟨ta, a1, a2⟩ := ha
  obtain ⟨tb, b1, b2⟩ := hb
  refine ⟨tTest (tDIn ta tb), fun X h => pt_cmp (pc_din h.u1 (a1 X h) (b1 X h)) hm, rt_of fun B ρ s σ Hf H Q V p => ?_⟩
  exact rx_din a2 b2 B ρ s σ Hf H Q V (p.imp (fun d s' k v Hf' H' x r => k v Hf' H' x (.fr r)) fun _ _ _ z => z)
theorem jt_dnotIn (ha : JV c Γ a fa) (hb : JV c Γ b fb) (hm : behindInMarks .NotIn b = false := by rfl) : JT c Γ (.Compare a [.NotIn] [b] pos) (tst (bin notInDct fa fb)) := by
  obtain ⟨ta, a1, a2⟩ := ha
  obtain ⟨tb, b1, b2⟩ := hb
  refine ⟨tTest (tDNotIn ta tb), fun X h => pt_cmp (pc_dnotin h.u1 (a1 X h) (b1 X h)) hm, rt_of fun B ρ s σ Hf H Q V p => ?_⟩
  exact rx_dnotin a2 b2 B ρ s σ Hf H Q V (p.imp (fun d s' k v Hf' H' x r => k v Hf' H' x (.fr r)) fun _ _ _ z => z)
end
end VL
namespace VL
open PySem PySem.Spec PyProof.Rows L2
theorem wipe_set {σ : L2.St} {i : Nat} {v : Option V} : ∀ {vs : List Nat}, i ∈ vs → wipe (σ.set i v) vs = wipe σ vs
  | j :: vs, h => by
    by_cases hi : i ∈ vs
    · show (wipe (σ.set i v) vs).set j none = (wipe σ vs).set j none
      rw [wipe_set hi]
    · have e : i = j := by
        rcases List.mem_cons.mp h with e | e
        · exact e
        · exact absurd e hi
      subst e
      show (wipe (σ.set i v) vs).set i none = (wipe σ vs).set i none
      have : ∀ ws : List Nat, i ∉ ws → wipe (σ.set i v) ws = (wipe σ ws).set i v := by
        intro ws
        induction ws with
        | nil => intro _; rfl
        | cons k r ih =>
          intro hk
          have h1 : i ≠ k := fun e => hk (by rw [e]; exact List.mem_cons_self ..)
          have h2 : i ∉ r := fun e => hk (List.mem_cons_of_mem _ e)
          show (wipe (σ.set i v) r).set k none = ((wipe σ r).set k none).set i v
          rw [ih h2, List.set_comm _ _ h1]
      rw [this vs hi, List.set_set]
theorem wipe_wipe {σ : L2.St} : ∀ {ws vs : List Nat}, (∀ i ∈ ws, i ∈ vs) → wipe (wipe σ ws) vs = wipe σ vs
  | [], _, _ => rfl
  | j :: ws, vs, h => by
    show wipe ((wipe σ ws).set j none) vs = wipe σ vs
    rw [wipe_set (h j (List.mem_cons_self ..)), wipe_wipe fun i hi => h i (List.mem_cons_of_mem _ hi)]
def wipeR (ρ : Rho) : List Nat → Rho
  | [] => ρ
  | v :: vs => (wipeR ρ vs).set v none
theorem wipeR_len (ρ : Rho) : ∀ vs : List Nat, (wipeR ρ vs).length = ρ.length
  | [] => rfl
  | v :: vs => by simp [wipeR, wipeR_len ρ vs]
theorem wipeR_some {ρ : Rho} {i : Nat} {x : D} : ∀ {vs : List Nat}, (wipeR ρ vs)[i]? = some (some x) → ρ[i]? = some (some x) ∧ i ∉ vs
  | [], h => ⟨h, by simp⟩
  | v :: vs, h => by
    by_cases e : i = v
    · subst e
      simp only [wipeR] at h
      rw [List.getElem?_set_self'] at h
      cases h' : (wipeR ρ vs)[i]? with
      | none => rw [h'] at h; simp at h
      | some o => rw [h'] at h; simp at h
    · simp only [wipeR] at h
      rw [List.getElem?_set_ne (Ne.symm e)] at h
      obtain ⟨h1, h2⟩ := wipeR_some h
      exact ⟨h1, by simp [e, h2]⟩
section
variable {c : Ctx} {W : Wd} {E : XK} {Γ : Gam} {e a b o : Expr} {f fa fb fo : Rho → M D} {pos : Pos} {Hf H : Hp}
theorem EnvAt.wipe' {B : Hp × Hp} {ρ : Rho} {s : Pot} {σ : L2.St} (V : EnvAt W B Γ ρ s σ Hf H) (vs : List Nat) : EnvAt W B Γ (wipeR ρ vs) s (wipe σ vs) Hf H := by
  obtain ⟨ow, h1, h2⟩ := V.own
  refine ⟨V.ext, by rw [wipeR_len, wipe_length, V.len], ow, fun i d e => ?_, h2⟩
  obtain ⟨e1, e2⟩ := wipeR_some e
  obtain ⟨v, e3, z⟩ := h1 i d e1
  exact ⟨v, by rw [wipe_out e2]; exact e3, z⟩
theorem EnvAt.setSh' {B : Hp × Hp} {ρ : Rho} {s : Pot} {σ : L2.St} {v : V} {d : D} {i : Nat} (V : EnvAt W B Γ ρ s σ Hf H) (hv : At W Hf v d) (hi : Γ.getD i .sh = .sh) : EnvAt W B Γ (ρ.set i (some d)) s (σ.set i (some v)) Hf H := by
  obtain ⟨ow, h1, h2⟩ := V.own
  refine ⟨V.ext, by simp [V.len], ow, fun j d' e => ?_, h2⟩
  by_cases hj : j = i
  · subst hj
    have hl : j < ρ.length := by
      have := List.getElem?_eq_some_iff.mp e
      simpa using this.1
    rw [List.getElem?_set_self hl] at e
    cases e
    refine ⟨v, by rw [List.getElem?_set_self (by rw [V.len]; exact hl)], ?_⟩
    rw [hi]
    exact hv
  · rw [List.getElem?_set_ne (Ne.symm hj)] at e
    obtain ⟨v', e1, z⟩ := h1 j d' e
    exact ⟨v', by rw [List.getElem?_set_ne (Ne.symm hj)]; exact e1, z⟩
def JG (c : Ctx) (Γ : Gam) (is : List Nat) (tg : Expr) (f : D → Rho → Option Rho) : Prop := ∃ g, (∀ X, Is c X → PG X tg g) ∧
  ∀ B ρ s σ Hf H x d ρ' Q, EnvAt c.W B Γ ρ s σ Hf H → At c.W Hf x d → f d ρ = some ρ' → (∀ σ', EnvAt c.W B Γ ρ' s σ' Hf H → (∀ vs, (∀ i ∈ is, i ∈ vs) → wipe σ' vs = wipe σ vs) → Q σ' H) → g x σ H Q
def tgN (i : Nat) (d : D) (ρ : Rho) : Option Rho := some (ρ.set i (some d))
theorem jg_name (i : Nat) {x : Str} {p : Pos} (hN : c.N[i]? = some x) (hx : Loc c.sc x) (hΓ : Γ.getD i .sh = .sh) (hf : c.fnf x = true ∨ c.sc.names.lookup x = some .local := by first | exact .inl rfl | exact .inr rfl) : JG c Γ [i] (.Name x p) (tgN i) := by
  refine ⟨gName i, fun X h => pg_name h.nd (by rw [h.N]; exact hN) (by rw [h.sc]; exact hx) (by rw [h.fn, h.sc]; exact hf), fun B ρ s σ Hf H y d ρ' Q V hv e k => ?_⟩
  cases e
  exact k _ (V.setSh' hv hΓ) fun vs hi => wipe_set (hi i (by simp))
def JGs (c : Ctx) (Γ : Gam) (is : List Nat) (ts : List Expr) (f : List D → Rho → Option Rho) : Prop := ∃ g, (∀ X, Is c X → PGs X ts g) ∧
  ∀ B ρ s σ Hf H xs ds ρ' Q, EnvAt c.W B Γ ρ s σ Hf H → AtAll c.W Hf xs ds → f ds ρ = some ρ' → (∀ σ', EnvAt c.W B Γ ρ' s σ' Hf H → (∀ vs, (∀ i ∈ is, i ∈ vs) → wipe σ' vs = wipe σ vs) → Q σ' H) → g xs σ H Q
def tgNil (ds : List D) (ρ : Rho) : Option Rho := match ds with
  | [] => some ρ
  | _ => none
def tgCons (f : D → Rho → Option Rho) (g : List D → Rho → Option Rho) (ds : List D) (ρ : Rho) : Option Rho := match ds with
  | d :: r => (f d ρ).bind (g r)
  | [] => none
theorem jgs_nil : JGs c Γ [] [] tgNil := by
  refine ⟨gNil, fun X h => pgs_nil, fun B ρ s σ Hf H xs ds ρ' Q V hv e k => ?_⟩
  cases hv with
  | nil => cases e; exact ⟨rfl, k _ V fun _ _ => rfl⟩
  | cons _ _ => cases e
theorem jgs_cons {is js : List Nat} {t : Expr} {ts : List Expr} {ft : D → Rho → Option Rho} {fs : List D → Rho → Option Rho} (h : JG c Γ is t ft) (h' : JGs c Γ js ts fs) (hs : ∀ env, (assignEach (t :: ts) env).map (·.2) = assign t env :: (assignEach ts env).map (·.2) := by intro _; rfl) : JGs c Γ (is ++ js) (t :: ts) (tgCons ft fs) := by
  obtain ⟨g, h1, h2⟩ := h
  obtain ⟨g', h1', h2'⟩ := h'
  refine ⟨gCons g g', fun X hX => pgs_cons (h1 X hX) (h1' X hX) (hs _), fun B ρ s σ Hf H xs ds ρ' Q V hv e k => ?_⟩
  cases hv with
  | nil => cases e
  | cons hx hr =>
    rename_i v d vs ds
    refine ⟨_, _, rfl, ?_⟩
    unfold tgCons at e
    dsimp only at e
    cases hq : ft d ρ with
    | none => rw [hq] at e; cases e
    | some ρ1 =>
      rw [hq] at e
      refine h2 B ρ s σ Hf H v d ρ1 _ V hx hq fun σ1 V1 w1 => ?_
      refine h2' B ρ1 s σ1 Hf H vs ds ρ' _ V1 hr e fun σ2 V2 w2 => k σ2 V2 fun us hu => ?_
      rw [w2 us fun i hi => hu i (List.mem_append_right _ hi), w1 us fun i hi => hu i (List.mem_append_left _ hi)]
def tgT (n : Nat) (f : List D → Rho → Option Rho) (d : D) (ρ : Rho) : Option Rho := match d with
  | .tup ds => if ds.length = n then f ds ρ else none
  | _ => none
theorem jg_tup {is : List Nat} {ts : List Expr} {fs : List D → Rho → Option Rho} {n k : Nat} (h : JGs c Γ is ts fs) (hn : ∀ env, (assignEach ts env).length = n := by intro _; rfl) (hst : ∀ env, (assignEach ts env).findIdx? (·.1) = none := by intro _; rfl) : JG c Γ is (.Tuple ts k pos) (tgT n fs) := by
  obtain ⟨g, h1, h2⟩ := h
  refine ⟨gTup c.W.K n g, fun X hX => ?_, fun B ρ s σ Hf H x d ρ' Q V hv e k => ?_⟩
  · have q := pg_tup (k := k) (pos := pos) (n := n) hX.calm (h1 X hX) (hn _) (hst _)
    rw [hX.K] at q; exact q
  · unfold tgT at e
    split at e
    · split at e
      · rename_i ds hl
        cases hv with
        | tup a1 a2 a3 => exact ⟨_, _, rfl, Same.sqT V.ext.fh a1, by rw [a3.len]; exact hl, h2 B ρ s σ Hf H _ ds ρ' Q V a3 e k⟩
      · cases e
    · cases e
def ItF (W : Wd) (J : It) (Hf : Hp) (ds : List D) : Prop := ∀ i Hf1 H1 s1, Same Hf Hf1 → Ext W Hf1 H1 Hf1 H1 s1 →
  (ds.length ≤ i → J.stop i H1) ∧ ∀ d, ds[i]? = some d → J.go i H1 ∧ ∀ x H2, J.yld i H1 x H2 → ∃ Hf2, Ext W Hf1 H1 Hf2 H2 s1 ∧ At W Hf2 x d
def ItE (W : Wd) (J : It) (Hf H : Hp) (ds : List D) : Prop := ∀ i Hf1 H1 s1, Ext W Hf H Hf1 H1 s1 →
  (ds.length ≤ i → J.stop i H1) ∧ ∀ d, ds[i]? = some d → J.go i H1 ∧ ∀ x H2, J.yld i H1 x H2 → ∃ Hf2, Ext W Hf1 H1 Hf2 H2 s1 ∧ At W Hf2 x d
theorem ItF.toE {J : It} {ds : List D} (h : ItF W J Hf ds) : ItE W J Hf H ds := fun i Hf1 H1 s1 x => h i Hf1 H1 s1 x.ff x.refl
def JI (c : Ctx) (Γ : Gam) (tg iter : Expr) (f : Rho → M (List D)) : Prop := ∃ wi, (∀ X, Is c X → PI X tg iter wi) ∧
  ∀ B ρ s σ Hf H R, EnvAt c.W B Γ ρ s σ Hf H → Post (fun ds s' => ∀ J Hf' H', Ext c.W Hf H Hf' H' s' → ds.length ≤ sizeLine → ItF c.W J Hf' ds → R J H') (ErrOk c.W B c.E) (f ρ s) → wi σ H R
def JIv (c : Ctx) (Γ : Gam) (tg iter : Expr) (f : Rho → M (List D)) : Prop := ∃ wi, (∀ X, Is c X → PI X tg iter wi) ∧
  ∀ B ρ s σ Hf H R, EnvAt c.W B Γ ρ s σ Hf H → Post (fun ds s' => ∀ J Hf' H', Ext c.W Hf H Hf' H' s' → ds.length ≤ sizeLine → ItE c.W J Hf' H' ds → R J H') (ErrOk c.W B c.E) (f ρ s) → wi σ H R
theorem JI.v {tg iter : Expr} {fi : Rho → M (List D)} (h : JI c Γ tg iter fi) : JIv c Γ tg iter fi := by
  obtain ⟨w, h1, h2⟩ := h
  exact ⟨w, h1, fun B ρ s σ Hf H R V p => h2 B ρ s σ Hf H R V (p.imp (fun ds s' k J Hf' H' x hz i => k J Hf' H' x hz (ItF.toE i)) fun _ _ _ z => z)⟩
def iSeq (K : PySem.W.Frag) (tl : TE) : TI := fun σ H R => tl σ H fun x H1 => ∃ a, x = .ref a ∧ (((∃ xs, SqL K H1 a xs) ∧ R (Itl K a) H1) ∨ ((∃ xs, SqT K H1 a xs) ∧ R (Itt K a) H1))
theorem pi_seq {X : Cx} {tg l : Expr} {tl : TE} (hl : PE X l tl) : PI X tg l (iSeq X.K tl) := by
  refine ⟨fun pins s σ H R I h => ?_⟩
  refine thn (hl.run pins s σ H _ I h) fun v s1 ⟨x, H1, I1, r1, q1⟩ => ?_
  obtain ⟨a, e, q⟩ := q1
  subst e
  cases r1
  rcases q with ⟨⟨xs, hq⟩, q⟩ | ⟨⟨xs, hq⟩, q⟩
  · obtain ⟨its, rv, p, hz⟩ := I1.list hq
    refine wpAny_pyIter_list p.isList ?_
    refine ⟨s1.heap.objs.size, [s1.heap.objs.size], _, _, H1, rfl, I1.kept (t' := s1.toks) fun b o e => Heap.get?_push_of_some _ e, turn_list a _, ⟨_, Heap.get?_push_size _ rfl, rfl, rfl⟩, fun b hb => ?_, q⟩
    have e : b = s1.heap.objs.size := by simpa using hb
    subst e
    exact I1.fpOk (Nat.le_refl _) (I1.hok.fresh (Nat.le_refl _))
  · obtain ⟨its, rv, p, hz⟩ := I1.tuple hq
    refine wpAny_pyIter_tuple (show s1.heap.IsTuple a its.toArray from p) ?_
    refine ⟨s1.heap.objs.size, [s1.heap.objs.size], _, _, H1, rfl, I1.kept (t' := s1.toks) fun b o e => Heap.get?_push_of_some _ e, turn_tuple a _, ⟨_, Heap.get?_push_size _ rfl, rfl, rfl⟩, fun b hb => ?_, q⟩
    have e : b = s1.heap.objs.size := by simpa using hb
    subst e
    exact I1.fpOk (Nat.le_refl _) (I1.hok.fresh (Nat.le_refl _))
def seqF (f : Rho → M D) : Rho → M (List D) := fun ρ => do opt (seqOf (← f ρ))
theorem itl_ok {a : Addr} {xs : List V} {ds : List D} (K : ∀ Hf1 H1 s1, Same Hf Hf1 → Ext W Hf1 H1 Hf1 H1 s1 → H1 a = some (.lst xs)) (ha : AtAll W Hf xs ds) : ItF W (Itl W.K a) Hf ds := by
  intro i Hf1 H1 s1 hs x
  have hq := SqL.of (K := W.K) (K Hf1 H1 s1 hs x)
  refine ⟨fun h => ⟨xs, hq, by rw [ha.len]; exact h⟩, fun d hd => ?_⟩
  obtain ⟨y, e1, a1⟩ := ha.get' hd
  refine ⟨⟨xs, y, hq, e1⟩, fun z H2 ⟨e2, h2⟩ => ?_⟩
  subst e2
  have e3 := h2 xs hq
  rw [e1] at e3
  cases e3
  exact ⟨Hf1, x, a1.mono hs⟩
theorem itt_ok {a : Addr} {xs : List V} {ds : List D} (hq : SqT W.K Hf a xs) (ha : AtAll W Hf xs ds) : ItF W (Itt W.K a) Hf ds := by
  intro i Hf1 H1 s1 hs x
  have hq := Same.sqT x.fh (Same.sqT hs hq)
  refine ⟨fun h => ⟨xs, hq, by rw [ha.len]; exact h⟩, fun d hd => ?_⟩
  obtain ⟨y, e1, a1⟩ := ha.get' hd
  refine ⟨⟨xs, y, hq, e1⟩, fun z H2 ⟨e2, h2⟩ => ?_⟩
  subst e2
  have e3 := h2 xs hq
  rw [e1] at e3
  cases e3
  exact ⟨Hf1, x, a1.mono hs⟩
theorem ji_seq {tg : Expr} (h : JE c Γ a f) : JI c Γ tg a (seqF f) := by
  obtain ⟨t, h1, h2⟩ := h
  refine ⟨iSeq c.W.K t, fun X hX => by have q := pi_seq (tg := tg) (h1 X hX); rw [hX.K] at q; exact q, fun B ρ s σ Hf H R V p => ?_⟩
  unfold seqF at p
  rw [post_bind] at p
  refine h2 B ρ s σ Hf H _ V (p.imp (fun d s1 p1 v Hf1 H1 x1 r1 => ?_) fun _ _ _ z => z)
  rw [post_opt] at p1
  obtain ⟨l, hl, k⟩ := p1
  cases r1 with
  | lst g1 g2 g3 =>
    cases hl
    exact ⟨_, rfl, .inl ⟨⟨_, SqL.of (x1.fh _ _ g1)⟩, k _ _ _ x1 (by rw [← g3.len]; exact g2) (itl_ok (fun Hf2 H2 s2 hs x => x.fh _ _ (hs _ _ g1)) g3)⟩⟩
  | tup g1 g2 g3 =>
    cases hl
    exact ⟨_, rfl, .inr ⟨⟨_, Same.sqT x1.fh g1⟩, k _ _ _ x1 (by rw [← g3.len]; exact g2) (itt_ok g1 g3)⟩⟩
  | _ => cases hl
theorem jiv_seq {tg : Expr} (h : JV c Γ a f) : JIv c Γ tg a (seqF f) := by
  obtain ⟨t, h1, h2⟩ := h
  refine ⟨iSeq c.W.K t, fun X hX => by have q := pi_seq (tg := tg) (h1 X hX); rw [hX.K] at q; exact q, fun B ρ s σ Hf H R V p => ?_⟩
  unfold seqF at p
  rw [post_bind] at p
  refine h2 B ρ s σ Hf H _ V (p.imp (fun d s1 p1 v Hf1 H1 x1 r1 => ?_) fun _ _ _ z => z)
  rw [post_opt] at p1
  obtain ⟨l, hl, k⟩ := p1
  cases r1 with
  | fr r1 =>
    cases r1 with
    | lst g1 g2 g3 =>
      cases hl
      exact ⟨_, rfl, .inl ⟨⟨_, SqL.of (x1.fh _ _ g1)⟩, k _ _ _ x1 (by rw [← g3.len]; exact g2) (ItF.toE (itl_ok (fun Hf2 H2 s2 hs x => x.fh _ _ (hs _ _ g1)) g3))⟩⟩
    | tup g1 g2 g3 =>
      cases hl
      exact ⟨_, rfl, .inr ⟨⟨_, Same.sqT x1.fh g1⟩, k _ _ _ x1 (by rw [← g3.len]; exact g2) (ItF.toE (itt_ok g1 g3))⟩⟩
    | _ => cases hl
  | lst nP g1 g2 g3 =>
    cases hl
    refine ⟨_, rfl, .inl ⟨⟨_, SqL.of g1⟩, k _ _ _ x1 (by rw [← g3.len]; exact g2) fun i Hf2 H2 s2 x => ?_⟩⟩
    have hq := SqL.of (K := c.W.K) (x.old _ _ nP g1)
    refine ⟨fun h => ⟨_, hq, by rw [g3.len]; exact h⟩, fun d hd => ?_⟩
    obtain ⟨y, e1, a1⟩ := g3.get' hd
    refine ⟨⟨_, y, hq, e1⟩, fun z H3 ⟨e2, h3⟩ => ?_⟩
    subst e2
    have e3 := h3 _ hq
    rw [e1] at e3
    cases e3
    exact ⟨Hf2, x.refl, a1.mono x.ff⟩
  | dct _ _ _ _ => cases hl
def range1D (ds : List D) : Option (List D) := match ds with
  | [.int j] => if -(2 ^ 62) ≤ j ∧ j < 2 ^ 62 ∧ j.toNat ≤ sizeLine then some ((List.range j.toNat).map fun i => .int ((0 : Int) + (i : Nat))) else none
  | _ => none
def rngF (g : List D → Option (List D)) (fs : Rho → M (List D)) : Rho → M (List D) := fun ρ => do opt (g (← fs ρ))
theorem itr_ok (lo : Int) (n : Nat) : ItF W (Itr lo n) Hf ((List.range n).map fun i => .int (lo + (i : Nat))) := by
  intro i Hf1 H1 s1 hs x
  refine ⟨fun h => ?_, fun d hd => ?_⟩
  · have : n ≤ i := by simpa using h
    exact this
  · have hi : i < n := by
      have := (List.getElem?_eq_some_iff.mp hd).1
      simpa using this
    have e : d = .int (lo + (i : Nat)) := by
      rw [List.getElem?_map, List.getElem?_range hi] at hd
      simpa using hd.symm
    subst e
    refine ⟨hi, fun z H2 ⟨e1, e2⟩ => ?_⟩
    subst e1; subst e2
    exact ⟨Hf1, x, .int _⟩
theorem ji_range1 {tg : Expr} {fs : Rho → M (List D)} {p : Pos} (ha : JAv c Γ [a] fs) (hg : c.sc.names.lookup ("range" : Str) = some .globalImplicit) (hm : c.G.mg "range" = none) (hs : ∀ env, starEach [a] env = [(false, eval a env)] := by intro _; rfl) : JI c Γ tg (.Call (.Name "range" p) [a] [] pos) (rngF range1D fs) := by
  obtain ⟨t, h1, h2⟩ := ha
  refine ⟨iRng1 t, fun X hX => pi_range1 (hX.gl hg) (by rw [hX.mg]; exact hm) (h1 X hX) (hs _), fun B ρ s σ Hf H R V p => ?_⟩
  unfold rngF at p
  rw [post_bind] at p
  refine h2 B ρ s σ Hf H _ V (p.imp (fun d s1 p1 v Hf1 H1 x1 r1 => ?_) fun _ _ _ z => z)
  rw [post_opt] at p1
  obtain ⟨l, hl, k⟩ := p1
  unfold range1D at hl
  split at hl
  · split at hl
    · rename_i j hz
      cases hl
      obtain ⟨x, rfl, hx⟩ := r1.one
      have e := hx.int'
      subst e
      exact ⟨j, rfl, hz.1, hz.2.1, k _ _ _ x1 (by simpa using hz.2.2) (itr_ok 0 _)⟩
    · cases hl
  · cases hl
def noE {α : Type} (m : M α) : M α := fun s => match m s with
  | .ok a s' => .ok a s'
  | _ => .fail
theorem post_noE {α : Type} {A : α → Pot → Prop} {B : Nat → D → Pot → Prop} {m : M α} {s : Pot} : Post A B (noE m s) ↔ Post A (fun _ _ _ => False) (m s) := by
  unfold noE
  cases m s <;> exact Iff.rfl
def relabelS (scope sc : Scope) : Scope := { scope with names := scope.names.map fun (n, k) => if (k == NameKind.free && sc.kind == .function && sc.names.lookup n == some .cell) then (n, NameKind.cell) else (n, k) }
def Ctx.blk (c : Ctx) (scope : Scope) : Ctx := { c with sc := relabelS scope c.sc, E := fun _ _ _ => False, fnf := fun x => scope.names.lookup x == some .cell }
theorem Is.blk {X : Cx} (h : Is c X) {scope : Scope} (hk : scope.kind = .function) (s : Shared) (H : Hp) (C : Addr) (cl : List (Str × Addr)) (fp : List Addr) : Is (c.blk scope) (X.blk s H scope (compEnvC scope cl C X.env) fp) where
  prog := h.prog
  w := h.w
  K := h.K
  mg := h.mg
  base := h.base
  N := h.N
  sc := by
    show relabelS scope X.env.scope = relabelS scope c.sc
    rw [h.sc]
  room := h.room
  calm := h.calm
  nd := h.nd
  fn := rfl
  pass := fun pins σ H s e s' _ z => by
    obtain ⟨_, _, _, _, _, _, _, _, _, _, _, _, z⟩ := z
    exact z
  own := PassesOwn.never
  kind := hk
  gd := h.gd
def JTs (c : Ctx) (Γ : Gam) (ifs : List Expr) (f : Rho → M Bool) : Prop := ∃ t, (∀ X, Is c X → PTs X ifs t) ∧ RT c.W c.E Γ t f
theorem jts_nil : JTs c Γ [] (fun _ => pure true) := ⟨tYes, fun X h => pts_nil, fun B ρ s σ Hf H Q V p => p _ _ V.ext0⟩
theorem jts_one {g : Rho → M Bool} (h : JT c Γ a g) : JTs c Γ [a] g := by
  obtain ⟨t, h1, h2⟩ := h
  exact ⟨t, fun X hX => pts_one (h1 X hX), h2⟩
def compL (tg : D → Rho → Option Rho) (tt : Rho → M Bool) (te : Rho → M D) (ρ : Rho) : List D → M (List D)
  | [] => pure []
  | d :: r => do
    let ρ' ← opt (tg d ρ)
    let b ← tt ρ'
    if b = true then do
      let y ← te ρ'
      let ys ← compL tg tt te ρ r
      pure (y :: ys)
    else compL tg tt te ρ r
def lcF (vs : List Nat) (fi : Rho → M (List D)) (tg : D → Rho → Option Rho) (tt : Rho → M Bool) (te : Rho → M D) : Rho → M D := fun ρ => do
  let ds ← fi ρ
  let ys ← noE (compL tg tt te (wipeR ρ vs) ds)
  pure (.lst ys)
theorem lc_parts {Γ : Gam} {is : List Nat} {tg iter elt : Expr} {ifs : List Expr} {scope : Scope} {own : List (Str × Nat)} {fi : Rho → M (List D)} {ft : D → Rho → Option Rho} {ftt : Rho → M Bool} {fe : Rho → M D}
    (hi : JIv c Γ tg iter fi) (hg : JG (c.blk scope) Γ is tg ft) (ht : JTs (c.blk scope) Γ ifs ftt) (he : JE (c.blk scope) Γ elt fe) (his : ∀ i ∈ is, i ∈ own.map (·.2)) :
    ∃ wi g tt te, (∀ X, Is c X → PI X tg iter wi) ∧ (∀ X, Is (c.blk scope) X → PG X tg g) ∧ (∀ X, Is (c.blk scope) X → PTs X ifs tt) ∧ (∀ X, Is (c.blk scope) X → PE X elt te) ∧ RX c.W c.E Γ (rF c.W) (tLc wi g tt te (own.map (·.2))) (lcF (own.map (·.2)) fi ft ftt fe) := by
  obtain ⟨wi, i1, i2⟩ := hi
  obtain ⟨g, g1, g2⟩ := hg
  obtain ⟨tt, t1, t2⟩ := ht
  obtain ⟨te, e1, e2⟩ := he
  refine ⟨wi, g, tt, te, i1, g1, t1, e1, ?_⟩
  intro B ρ s σ Hf H Q V p
  unfold lcF at p
  rw [post_bind] at p
  refine i2 B ρ s σ Hf H _ V (p.imp (fun ds s1 p1 J Hf1 H1 x1 hz it => ?_) fun _ _ _ z => z)
  rw [post_bind, post_noE] at p1
  have V1 := (V.ext' x1).wipe' (own.map (·.2))
  intro D0 hD0
  obtain ⟨y0, nf0, nP0⟩ := x1.newU (o := .lst []) hD0
  -- the invariant
  refine ⟨fun i m H2 => ∃ Hf2 s2 acc das, i ≤ ds.length ∧ m = ds.length - i ∧ Ext c.W Hf1 H1 Hf2 H2 s2 ∧ H2 D0 = some (.lst acc) ∧ Hf2 D0 = none ∧ acc.length ≤ i ∧ AtAll c.W Hf2 acc das ∧
    Post (fun ys s' => ∀ v Hf' H', Ext c.W Hf H Hf' H' s' → rF c.W H Hf' H' v (.lst (das ++ ys)) → Q v H') (fun _ _ _ => False) (compL ft ftt fe (wipeR ρ (own.map (·.2))) (ds.drop i) s2), ?_, ?_⟩
  · refine ⟨ds.length - 0, Hf1, s1, [], [], Nat.zero_le _, rfl, y0, upd_same, nf0, Nat.le_refl _, .nil, ?_⟩
    refine p1.imp (fun ys s' k v Hf' H' x r => ?_) fun _ _ _ z => z
    exact k v Hf' H' x r
  · intro i m H2 ⟨Hf2, s2, acc, das, hi, hm, x2, hD, hDf, hl, ha, p2⟩
    have hit := it i Hf2 H2 s2 x2
    by_cases hlt : i < ds.length
    · right
      have hd : ds[i]? = some ds[i] := List.getElem?_eq_getElem hlt
      obtain ⟨go, yl⟩ := hit.2 _ hd
      refine ⟨go, fun H3 => ∃ Hf3 s3 acc3 das3, Ext c.W Hf1 H1 Hf3 H3 s3 ∧ H3 D0 = some (.lst acc3) ∧ Hf3 D0 = none ∧ acc3.length ≤ i + 1 ∧ AtAll c.W Hf3 acc3 das3 ∧
        Post (fun ys s' => ∀ v Hf' H', Ext c.W Hf H Hf' H' s' → rF c.W H Hf' H' v (.lst (das3 ++ ys)) → Q v H') (fun _ _ _ => False) (compL ft ftt fe (wipeR ρ (own.map (·.2))) (ds.drop (i + 1)) s3),
        fun H3 ⟨Hf3, s3, acc3, das3, q1, q2, q3, q4, q5, q6⟩ => ⟨ds.length - (i + 1), by omega, Hf3, s3, acc3, das3, hlt, rfl, q1, q2, q3, q4, q5, q6⟩, fun x H3 hy => ?_⟩
      obtain ⟨Hf3, x3, ax⟩ := yl x H3 hy
      have x13 := x2.trans x3
      have V3 : EnvAt (c.blk scope).W B Γ (wipeR ρ (own.map (·.2))) s2 (wipe σ (own.map (·.2))) Hf3 H3 := V1.ext' x13
      rw [List.drop_eq_getElem_cons hlt] at p2
      unfold compL at p2
      rw [post_bind, post_opt] at p2
      obtain ⟨ρ', eρ, p2⟩ := p2
      refine g2 B (wipeR ρ (own.map (·.2))) s2 (wipe σ (own.map (·.2))) Hf3 H3 x _ ρ' _ V3 ax eρ fun σ' V4 w4 => ?_
      refine ⟨?_, ?_⟩
      · rw [w4 _ his, wipe_wipe fun _ h => h]
      · rw [post_bind] at p2
        refine t2 B ρ' s2 σ' Hf3 H3 _ V4 (p2.imp (fun b s3 p3 Hf4 H4 x4 => ?_) fun _ _ _ z => z.elim)
        have nP : D0 ≠ c.W.P := nP0
        have hD3 : H3 D0 = some (.lst acc) := x3.old _ _ nP hD
        have hDf3 : Hf3 D0 = none := x3.unf _ _ hD hDf
        have hD4 : H4 D0 = some (.lst acc) := x4.old _ _ nP hD3
        have hDf4 : Hf4 D0 = none := x4.unf _ _ hD3 hDf3
        have x14 : Ext c.W Hf1 H1 Hf4 H4 s3 := x13.trans x4
        cases b with
        | false =>
          simp only [Bool.false_eq_true, if_false] at p3 ⊢
          exact ⟨Hf4, s3, acc, das, x14, hD4, hDf4, by omega, ha.mono (x3.ff.trans x4.ff), p3⟩
        | true =>
          simp only [if_true] at p3 ⊢
          rw [post_bind] at p3
          refine e2 B ρ' s3 σ' Hf4 H4 _ (V4.ext' x4) (p3.imp (fun y s4 p4 v5 Hf5 H5 x5 r5 => ?_) fun _ _ _ z => z.elim)
          have hD5 : H5 D0 = some (.lst acc) := x5.old _ _ nP hD4
          have hDf5 : Hf5 D0 = none := x5.unf _ _ hD4 hDf4
          refine ⟨acc, hD5, by omega, Hf5, s4, acc ++ [v5], das ++ [y], (x14.trans x5).write hDf5 nP hD0, upd_same, hDf5, by simp; omega, (ha.mono (x3.ff.trans (x4.ff.trans x5.ff))).append (.cons r5 .nil), ?_⟩
          rw [post_bind] at p4
          refine p4.imp (fun ys s' k v Hf' H' x r => ?_) fun _ _ _ z => z
          have k := k v Hf' H' x
          rw [List.append_assoc] at r
          exact k r
    · left
      have e : i = ds.length := by omega
      subst e
      refine ⟨hit.1 (Nat.le_refl _), ?_⟩
      rw [List.drop_length] at p2
      have k := p2 (.ref D0) Hf2 H2 (x1.trans x2)
      rw [List.append_nil] at k
      exact k ⟨D0, acc, das, rfl, rfl, Rs_old x1 hD0 nP0, hDf, nP0, hD, by omega, ha⟩
theorem jf_lc {Γ : Gam} {is : List Nat} {tg iter elt : Expr} {ifs : List Expr} {scope : Scope} {own : List (Str × Nat)} {fi : Rho → M (List D)} {ft : D → Rho → Option Rho} {ftt : Rho → M Bool} {fe : Rho → M D}
    (hi : JIv c Γ tg iter fi) (ok : BlkOk c.N c.sc scope own) (hg : JG (c.blk scope) Γ is tg ft) (ht : JTs (c.blk scope) Γ ifs ftt) (he : JE (c.blk scope) Γ elt fe)
    (his : ∀ i ∈ is, i ∈ own.map (·.2) := by decide) (hs : ∀ env x, foldedSetIterable iter env x = pure x := by intro _ _; rfl) : JF c Γ (.ListComp elt [⟨tg, iter, ifs, 0⟩] scope pos) (lcF (own.map (·.2)) fi ft ftt fe) := by
  obtain ⟨wi, g, tt, te, i1, g1, t1, e1, r⟩ := lc_parts hi hg ht he his
  exact ⟨tLc wi g tt te (own.map (·.2)), fun X hX => pe_lc hX.calm hX.nd (i1 X hX) (by rw [hX.N, hX.sc]; exact ok) (fun s H C cl fp => g1 _ (hX.blk ok.kind s H C cl fp)) (fun s H C cl fp => t1 _ (hX.blk ok.kind s H C cl fp)) (fun s H C cl fp => e1 _ (hX.blk ok.kind s H C cl fp)) (hs _), r⟩
end
end VL
namespace VL
open PySem PySem.Spec PyProof.Rows L2
inductive Fl where
  | nx (ρ : Rho) | rt (d : D) | bk (ρ : Rho) | ct (ρ : Rho)
def FlOk (W : Wd) (B : Hp × Hp) (Γ' Γl : Gam) (D : Ends) : Fl → Pot → Prop
  | .nx ρ', s' => ∀ σ' Hf' H', EnvAt W B Γ' ρ' s' σ' Hf' H' → D.nx σ' H'
  | .rt d, s' => ∀ v Hf' H', Ext W B.1 B.2 Hf' H' s' → At W Hf' v d → D.rt v H'
  | .bk ρ', s' => ∀ σ' Hf' H', EnvAt W B Γl ρ' s' σ' Hf' H' → D.bk σ' H'
  | .ct ρ', s' => ∀ σ' Hf' H', EnvAt W B Γl ρ' s' σ' Hf' H' → D.ct σ' H'
def RS (W : Wd) (E : XK) (Γ Γ' Γl : Gam) (t : TS) (f : Rho → M Fl) : Prop :=
  ∀ B ρ s σ Hf H D, EnvAt W B Γ ρ s σ Hf H → Post (FlOk W B Γ' Γl D) (ErrOk W B E) (f ρ s) → t D σ H
def JS (c : Ctx) (Γ Γ' Γl : Gam) (st : Stmt) (f : Rho → M Fl) : Prop := ∃ t, (∀ X, Is c X → PS X st t) ∧ RS c.W c.E Γ Γ' Γl t f
def JSs (c : Ctx) (Γ Γ' Γl : Gam) (st : List Stmt) (f : Rho → M Fl) : Prop := ∃ t, (∀ X, Is c X → PSs X st t) ∧ RS c.W c.E Γ Γ' Γl t f
section
variable {c : Ctx} {W : Wd} {E : XK} {Γ Γ' Γ'' Γl : Gam} {e a b o : Expr} {f fa fb fo : Rho → M D} {pos : Pos} {Hf H : Hp} {st : Stmt} {sts rest : List Stmt}
def skip : Rho → M Fl := fun ρ => pure (.nx ρ)
theorem jss_nil : JSs c Γ Γ Γl [] skip := ⟨tNext, fun X h => pss_nil, fun B ρ s σ Hf H D V p => p _ _ _ V⟩
def seqS (f g : Rho → M Fl) : Rho → M Fl := fun ρ => do
  let r ← f ρ
  match r with
  | .nx ρ' => g ρ'
  | .rt d => pure (.rt d)
  | .bk ρ' => pure (.bk ρ')
  | .ct ρ' => pure (.ct ρ')
theorem rs_seq {t u : TS} {f g : Rho → M Fl} (h1 : RS W E Γ Γ' Γl t f) (h2 : RS W E Γ' Γ'' Γl u g) : RS W E Γ Γ'' Γl (tSeq t u) (seqS f g) := by
  intro B ρ s σ Hf H D V p
  unfold seqS at p
  rw [post_bind] at p
  refine h1 B ρ s σ Hf H _ V (p.imp (fun r s1 p1 => ?_) fun _ _ _ z => z)
  cases r with
  | nx ρ' => exact fun σ' Hf' H' V' => h2 B ρ' s1 σ' Hf' H' D V' p1
  | rt d => exact p1
  | bk ρ' => exact p1
  | ct ρ' => exact p1
theorem jss_cons {f g : Rho → M Fl} (h1 : JS c Γ Γ' Γl st f) (h2 : JSs c Γ' Γ'' Γl sts g) : JSs c Γ Γ'' Γl (st :: sts) (seqS f g) := by
  obtain ⟨t, a1, a2⟩ := h1
  obtain ⟨u, b1, b2⟩ := h2
  exact ⟨tSeq t u, fun X h => pss_cons (a1 X h) (b1 X h), rs_seq a2 b2⟩
theorem jss_one {f : Rho → M Fl} (h1 : JS c Γ Γ' Γl st f) : JSs c Γ Γ' Γl [st] f := by
  obtain ⟨t, a1, a2⟩ := h1
  exact ⟨t, fun X h => pss_one (a1 X h), a2⟩
def dropS (f : Rho → M D) : Rho → M Fl := fun ρ => do
  let _ ← f ρ
  pure (.nx ρ)
theorem js_expr (he : JE c Γ e f) (hs : ∀ env, swapsWith e none pos.line env = pure false := by intro _; rfl) : JS c Γ Γ Γl (.Expr e pos) (dropS f) := by
  obtain ⟨t, h1, h2⟩ := he
  refine ⟨tDrop t, fun X h => ps_expr (h1 X h) (hs _), fun B ρ s σ Hf H D V p => ?_⟩
  unfold dropS at p
  rw [post_bind] at p
  exact h2 B ρ s σ Hf H _ V (p.imp (fun d s1 p1 v Hf1 H1 x1 r1 => p1 _ _ _ (V.ext' x1)) fun _ _ _ z => z)
def retS (f : Rho → M D) : Rho → M Fl := fun ρ => do
  let d ← f ρ
  pure (.rt d)
theorem js_ret (he : JE c Γ e f) : JS c Γ Γ' Γl (.Return (some e) pos) (retS f) := by
  obtain ⟨t, h1, h2⟩ := he
  refine ⟨tRet t, fun X h => ps_ret (h1 X h), fun B ρ s σ Hf H D V p => ?_⟩
  unfold retS at p
  rw [post_bind] at p
  exact h2 B ρ s σ Hf H _ V (p.imp (fun d s1 p1 v Hf1 H1 x1 r1 => p1 v _ _ (V.ext.trans x1) r1) fun _ _ _ z => z)
def ifS (g : Rho → M Bool) (f h : Rho → M Fl) : Rho → M Fl := fun ρ => do
  let b ← g ρ
  if b = true then f ρ else h ρ
theorem js_if {x : Expr} {g : Rho → M Bool} {f h : Rho → M Fl} {p q : List Stmt} (hg : JT c Γ x g) (hp : JSs c Γ Γ' Γl p f) (hq : JSs c Γ Γ' Γl q h) : JS c Γ Γ' Γl (.If x p q pos) (ifS g f h) := by
  obtain ⟨t, h1, h2⟩ := hg
  obtain ⟨ta, a1, a2⟩ := hp
  obtain ⟨tb, b1, b2⟩ := hq
  refine ⟨tIfS t ta tb, fun X hX => ps_if (h1 X hX) (a1 X hX) (b1 X hX), fun B ρ s σ Hf H D V p => ?_⟩
  unfold ifS at p
  rw [post_bind] at p
  refine h2 B ρ s σ Hf H _ V (p.imp (fun d s1 p1 Hf1 H1 x1 => ?_) fun _ _ _ z => z)
  cases d with
  | true => exact a2 B ρ s1 σ Hf1 H1 D (V.ext' x1) p1
  | false => exact b2 B ρ s1 σ Hf1 H1 D (V.ext' x1) p1
theorem js_never : JS c Γ Γ' Γl st (fun _ => nope) := ⟨tNever, fun X h => ps_never, fun B ρ s σ Hf H D V p => p.elim⟩
def OwnL (W : Wd) (Hf H : Hp) : Own → V → D → List Addr → Prop
  | .sh, v, d, l => l = [] ∧ At W Hf v d
  | .ol, v, d, l => ∃ p xs ds, v = .ref p ∧ d = .lst ds ∧ l = [p] ∧ H p = some (.lst xs) ∧ xs.length ≤ sizeLine ∧ AtAll W Hf xs ds
  | .od, v, d, l => ∃ p ks ds, v = .ref p ∧ d = .dct ds ∧ l = [p] ∧ H p = some (.dK ks) ∧ ks.length ≤ sizeLine ∧ AtKv W Hf ks ds
  | .odl, v, d, l => ∃ (p : Addr) (qs : List (Key × Addr)) (ds : List (Key × List D)), v = .ref p ∧ d = .dct (ds.map fun z => (z.1, .lst z.2)) ∧ l = p :: qs.map (·.2) ∧ H p = some (.dK (qs.map fun z => (z.1, .ref z.2))) ∧ qs.length ≤ sizeLine ∧
      (p :: qs.map (·.2)).Nodup ∧ Paired (fun (q : Key × Addr) (z : Key × List D) => q.1 = z.1 ∧ ∃ xs, H q.2 = some (.lst xs) ∧ xs.length ≤ sizeLine ∧ AtAll W Hf xs z.2) qs ds
  | .lk, v, d, l => l = [] ∧ ∃ (p : Addr) (od : Obj) (ks : List (Key × V)) (ds : List (Key × D)), v = .ref p ∧ d = .dct ds ∧ Hf p = some (.frz od (.dK ks)) ∧ ks.length ≤ sizeLine ∧ AtKv W Hf ks ds
theorem Paired.both {α β : Type} {F G : α → β → Prop} : ∀ {l₁ : List α} {l₂ : List β}, Paired F l₁ l₂ → (∀ a b, a ∈ l₁ → F a b → G a b) → Paired G l₁ l₂
  | _, _, .nil, _ => .nil
  | _, _, .cons h r, k => .cons (k _ _ (List.mem_cons_self ..) h) (Paired.both r fun a b m z => k a b (List.mem_cons_of_mem _ m) z)
theorem OwnL.at {k : Own} {v : V} {d : D} {l : List Addr} {ow : Addr → Option Nat} {i : Nat} (h : OwnL W Hf H k v d l) (ho : ∀ q ∈ l, ow q = some i) : OwnAt W Hf H ow i k v d := by
  cases k with
  | sh => exact h.2
  | ol =>
    obtain ⟨p, xs, ds, e1, e2, e3, r⟩ := h
    subst e3
    exact ⟨p, xs, ds, e1, e2, ho p (by simp), r⟩
  | od =>
    obtain ⟨p, xs, ds, e1, e2, e3, r⟩ := h
    subst e3
    exact ⟨p, xs, ds, e1, e2, ho p (by simp), r⟩
  | odl =>
    obtain ⟨p, qs, ds, e1, e2, e3, r1, r2, r3, r4⟩ := h
    subst e3
    exact ⟨p, qs, ds, e1, e2, ho p (by simp), r1, r2, r3, Paired.both r4 fun a b m z => ⟨z.1, ho _ (List.mem_cons_of_mem _ (List.mem_map.mpr ⟨a, m, rfl⟩)), z.2⟩⟩
  | lk => exact h.2
theorem OwnAt.other {k : Own} {v : V} {d : D} {ow ow' : Addr → Option Nat} {i : Nat} (h : OwnAt W Hf H ow i k v d) (ho : ∀ q, ow q = some i → ow' q = some i) : OwnAt W Hf H ow' i k v d := by
  cases k with
  | sh => exact h
  | ol => obtain ⟨p, xs, ds, e1, e2, e3, r⟩ := h; exact ⟨p, xs, ds, e1, e2, ho _ e3, r⟩
  | od => obtain ⟨p, xs, ds, e1, e2, e3, r⟩ := h; exact ⟨p, xs, ds, e1, e2, ho _ e3, r⟩
  | odl =>
    obtain ⟨p, qs, ds, e1, e2, e3, r1, r2, r3, r4⟩ := h
    exact ⟨p, qs, ds, e1, e2, ho _ e3, r1, r2, r3, Paired.mapP r4 fun a b z => ⟨z.1, ho _ z.2.1, z.2.2⟩⟩
  | lk => exact h
theorem set_get {α : Type} {l : List α} {i j : Nat} {x y : α} (h : (l.set i x)[j]? = some y) : (j = i ∧ y = x ∧ i < l.length) ∨ (j ≠ i ∧ l[j]? = some y) := by
  by_cases e : j = i
  · subst e
    have hl : j < l.length := by simpa using (List.getElem?_eq_some_iff.mp h).1
    rw [List.getElem?_set_self hl] at h
    cases h
    exact .inl ⟨rfl, rfl, hl⟩
  · rw [List.getElem?_set_ne (Ne.symm e)] at h
    exact .inr ⟨e, h⟩
theorem getD_set_self {Γ : Gam} {i : Nat} {k : Own} (h : i < Γ.length) : (Γ.set i k).getD i .sh = k := by
  rw [List.getD_eq_getElem?_getD, List.getElem?_set_self h]; rfl
theorem getD_set_ne {Γ : Gam} {i j : Nat} {k : Own} (h : j ≠ i) : (Γ.set i k).getD j .sh = Γ.getD j .sh := by
  rw [List.getD_eq_getElem?_getD, List.getElem?_set_ne (Ne.symm h), ← List.getD_eq_getElem?_getD]
theorem EnvAt.store {B : Hp × Hp} {ρ : Rho} {s : Pot} {σ : L2.St} {k : Own} {v : V} {d : D} {l : List Addr} {i : Nat} {ow : Addr → Option Nat} (x : Ext W B.1 B.2 Hf H s) (len : σ.length = ρ.length)
    (h1 : ∀ i d, ρ[i]? = some (some d) → ∃ v, σ[i]? = some (some v) ∧ OwnAt W Hf H ow i (Γ.getD i .sh) v d) (h2 : ∀ q i, ow q = some i → Hf q = none ∧ q ≠ W.P ∧ B.2 q = none ∧ ∃ o, H q = some o)
    (hl : OwnL W Hf H k v d l) (hn : ∀ q ∈ l, ow q = none ∧ Hf q = none ∧ q ≠ W.P ∧ B.2 q = none ∧ ∃ o, H q = some o) (hi : i < Γ.length) :
    (∀ j d', (ρ.set i (some d))[j]? = some (some d') → ∃ v', (σ.set i (some v))[j]? = some (some v') ∧ OwnAt W Hf H (fun q => if q ∈ l then some i else ow q) j ((Γ.set i k).getD j .sh) v' d') ∧
      ∀ q j, (fun q => if q ∈ l then some i else ow q) q = some j → Hf q = none ∧ q ≠ W.P ∧ B.2 q = none ∧ ∃ o, H q = some o := by
  refine ⟨fun j d' e => ?_, fun q j e => ?_⟩
  · rcases set_get e with ⟨rfl, e1, hl'⟩ | ⟨hj, e1⟩
    · cases e1
      refine ⟨v, by rw [List.getElem?_set_self (by omega)], ?_⟩
      rw [getD_set_self hi]
      exact hl.at fun q hq => by simp [hq]
    · obtain ⟨v', e2, z⟩ := h1 j d' e1
      refine ⟨v', by rw [List.getElem?_set_ne (Ne.symm hj)]; exact e2, ?_⟩
      rw [getD_set_ne hj]
      refine z.other fun q hq => ?_
      have : q ∉ l := fun m => by have := (hn q m).1; rw [this] at hq; cases hq
      simp [this, hq]
  · by_cases hq : q ∈ l
    · exact (hn q hq).2
    · have e : ow q = some j := by simpa [hq] using e
      exact h2 q j e
def Fits (W : Wd) (Rs : Res) (k : Own) : Prop := ∀ H0 Hf' H' v d, Rs H0 Hf' H' v d → ∃ l, OwnL W Hf' H' k v d l ∧ ∀ q ∈ l, H0 q = none ∧ Hf' q = none ∧ q ≠ W.P ∧ ∃ o, H' q = some o
theorem fits_sh : Fits W (rAt W) .sh := fun H0 Hf' H' v d r => ⟨[], ⟨rfl, r⟩, fun _ h => by simp at h⟩
theorem fits_ol : Fits W (rF W) .ol := fun H0 Hf' H' v d ⟨p, xs, ds, e1, e2, n0, nf, nP, h1, h2, h3⟩ => ⟨[p], ⟨p, xs, ds, e1, e2, rfl, h1, h2, h3⟩, fun q hq => by
  have e : q = p := by simpa using hq
  subst e
  exact ⟨n0, nf, nP, _, h1⟩⟩
theorem fits_od : Fits W (rFd W) .od := fun H0 Hf' H' v d ⟨p, xs, ds, e1, e2, n0, nf, nP, h1, h2, h3⟩ => ⟨[p], ⟨p, xs, ds, e1, e2, rfl, h1, h2, h3⟩, fun q hq => by
  have e : q = p := by simpa using hq
  subst e
  exact ⟨n0, nf, nP, _, h1⟩⟩
theorem Paired.left {α β : Type} {F : α → β → Prop} : ∀ {l₁ : List α} {l₂ : List β} {x : α}, Paired F l₁ l₂ → x ∈ l₁ → ∃ y, F x y
  | _, _, _, .nil, m => by simp at m
  | _, _, x, .cons h r, m => by
    rcases List.mem_cons.mp m with e | m
    · subst e; exact ⟨_, h⟩
    · exact Paired.left r m
theorem fits_odl : Fits W (rFdl W) .odl := fun H0 Hf' H' v d ⟨p, qs, ds, e1, e2, n0, nf, nP, h1, h2, h3, h4⟩ => ⟨p :: qs.map (·.2), ⟨p, qs, ds, e1, e2, rfl, h1, h2, h3, Paired.mapP h4 fun a b z => ⟨z.1, z.2.2.2.2⟩⟩, fun q hq => by
  rcases List.mem_cons.mp hq with e | m
  · subst e; exact ⟨n0, nf, nP, _, h1⟩
  · obtain ⟨a, ha, rfl⟩ := List.mem_map.mp m
    obtain ⟨b, z⟩ := Paired.left h4 ha
    exact ⟨z.2.1, z.2.2.1, z.2.2.2.1, _, z.2.2.2.2.choose_spec.1⟩⟩
theorem EnvAt.put {B : Hp × Hp} {ρ : Rho} {s s' : Pot} {σ : L2.St} {Hf' H' : Hp} {Rs : Res} {k : Own} {v : V} {d : D} {i : Nat} (V : EnvAt W B Γ ρ s σ Hf H) (x : Ext W Hf H Hf' H' s') (ft : Fits W Rs k) (r : Rs H Hf' H' v d) (hi : i < Γ.length) : EnvAt W B (Γ.set i k) (ρ.set i (some d)) s' (σ.set i (some v)) Hf' H' := by
  obtain ⟨ow, h1, h2⟩ := V.own
  have V' := V.ext' x
  obtain ⟨l, ol, hl⟩ := ft _ _ _ _ _ r
  have g1 : ∀ i d, ρ[i]? = some (some d) → ∃ v, σ[i]? = some (some v) ∧ OwnAt W Hf' H' ow i (Γ.getD i .sh) v d := fun i d e => by
    obtain ⟨v, e1, z⟩ := h1 i d e
    exact ⟨v, e1, z.ext x fun q j e => (h2 q j e).2.1⟩
  have g2 : ∀ q i, ow q = some i → Hf' q = none ∧ q ≠ W.P ∧ B.2 q = none ∧ ∃ o, H' q = some o := fun q i e => by
    obtain ⟨z1, z2, z3, o, z4⟩ := h2 q i e
    exact ⟨x.unf _ _ z4 z1, z2, z3, o, x.old _ _ z2 z4⟩
  obtain ⟨k1, k2⟩ := EnvAt.store (i := i) V'.ext V.len g1 g2 ol (fun q hq => by
    obtain ⟨n0, nf, nP, ho⟩ := hl q hq
    refine ⟨?_, nf, nP, Rs_old V.ext n0 nP, ho⟩
    cases e : ow q with
    | none => rfl
    | some j =>
      obtain ⟨_, _, _, o, z⟩ := h2 q j e
      rw [n0] at z; cases z) hi
  exact ⟨V'.ext, by simp [V.len], _, k1, k2⟩
def setS (i : Nat) (f : Rho → M D) : Rho → M Fl := fun ρ => do
  let d ← f ρ
  pure (.nx (ρ.set i (some d)))
theorem rs_set {Rs : Res} {k : Own} {t : TE} {i : Nat} (ft : Fits W Rs k) (hi : i < Γ.length) (h : RX W E Γ Rs t f) : RS W E Γ (Γ.set i k) Γl (tAsg t (gName i)) (setS i f) := by
  intro B ρ s σ Hf H D V p
  unfold setS at p
  rw [post_bind] at p
  exact h B ρ s σ Hf H _ V (p.imp (fun d s1 p1 v Hf1 H1 x1 r1 => p1 _ _ _ (V.put x1 ft r1 hi)) fun _ _ _ z => z)
theorem js_set {Rs : Wd → Res} {k : Own} (i : Nat) {x : Str} {p' : Pos} (ft : ∀ W, Fits W (Rs W) k) (he : JX c Rs Γ e f) (hN : c.N[i]? = some x) (hx : Loc c.sc x) (hi : i < Γ.length := by decide)
    (hs : ∀ X, Is c X → swapsWith e (some (.Name x p')) pos.line X.env = pure false := by intro _ _; rfl) (hf : c.fnf x = true ∨ c.sc.names.lookup x = some .local := by first | exact .inl rfl | exact .inr rfl) : JS c Γ (Γ.set i k) Γl (.Assign [.Name x p'] e pos) (setS i f) := by
  obtain ⟨t, h1, h2⟩ := he
  exact ⟨tAsg t (gName i), fun X hX => ps_set hX.nd (by rw [hX.N]; exact hN) (by rw [hX.sc]; exact hx) (h1 X hX) (hs X hX) (by rw [hX.fn, hX.sc]; exact hf), rs_set (ft _) hi h2⟩
theorem js_setLc {is : List Nat} {tg iter elt : Expr} {ifs : List Expr} {scope : Scope} {own : List (Str × Nat)} {fi : Rho → M (List D)} {ft : D → Rho → Option Rho} {ftt : Rho → M Bool} {fe : Rho → M D} (i : Nat) {y : Str} {py p1 : Pos}
    (hi : JIv c Γ tg iter fi) (ok : BlkOk c.N c.sc scope own) (hg : JG (c.blk scope) Γ is tg ft) (ht : JTs (c.blk scope) Γ ifs ftt) (he : JE (c.blk scope) Γ elt fe) (hN : c.N[i]? = some y) (hy : c.sc.names.lookup y = some .local)
    (hsw : ∀ X, Is c X → swapsWith (.ListComp elt [⟨tg, iter, ifs, 0⟩] scope p1) (some (.Name y py)) pos.line X.env = pure true) (hΓ : i < Γ.length := by decide)
    (his : ∀ i ∈ is, i ∈ own.map (·.2) := by decide) (hs : ∀ env x, foldedSetIterable iter env x = pure x := by intro _ _; rfl) : JS c Γ (Γ.set i .ol) Γl (.Assign [.Name y py] (.ListComp elt [⟨tg, iter, ifs, 0⟩] scope p1) pos) (setS i (lcF (own.map (·.2)) fi ft ftt fe)) := by
  obtain ⟨wi, g, tt, te, i1, g1, t1, e1, r⟩ := lc_parts hi hg ht he his
  exact ⟨tAsg (tLc wi g tt te (own.map (·.2))) (gName i), fun X hX => ps_setLc hX.calm hX.nd (by rw [hX.N]; exact hN) (by rw [hX.sc]; exact hy) (hsw X hX) (i1 X hX) (by rw [hX.N, hX.sc]; exact ok) (fun s H C cl fp => g1 _ (hX.blk ok.kind s H C cl fp)) (fun s H C cl fp => t1 _ (hX.blk ok.kind s H C cl fp)) (fun s H C cl fp => e1 _ (hX.blk ok.kind s H C cl fp)) (hs _), rs_set fits_ol hΓ r⟩
theorem kv_of_lists : ∀ {qs : List (Key × Addr)} {ds : List (Key × List D)}, Paired (fun (q : Key × Addr) (z : Key × List D) => q.1 = z.1 ∧ ∃ xs, Hf q.2 = some (.lst xs) ∧ xs.length ≤ sizeLine ∧ AtAll W Hf xs z.2) qs ds → AtKv W Hf (qs.map fun z => (z.1, .ref z.2)) (ds.map fun z => (z.1, .lst z.2))
  | _, _, .nil => .nil
  | (k, q) :: qs, (k', d) :: ds, .cons ⟨e, xs, h1, h2, h3⟩ r => by
    have e : k = k' := e
    subst e
    exact .cons (.lst h1 h2 h3) (kv_of_lists r)
theorem EnvAt.freeze {B : Hp × Hp} {ρ : Rho} {s : Pot} {σ : L2.St} (V : EnvAt W B Γ ρ s σ Hf H) (i : Nat) : ∃ Hf', EnvAt W B (Γ.set i .sh) ρ s σ Hf' H ∧ Same Hf Hf' := by
  obtain ⟨ow, h1, h2⟩ := V.own
  have hsame : Same Hf (fun b => if ow b = some i then H b else Hf b) := fun b o e => by
    have : ow b ≠ some i := fun z => by have := (h2 b i z).1; rw [this] at e; cases e
    simp only [if_neg this]; exact e
  have hfr : ∀ {q : Addr} {o : HO}, ow q = some i → H q = some o → (fun b => if ow b = some i then H b else Hf b) q = some o := fun hq ho => by simp only [if_pos hq]; exact ho
  refine ⟨fun b => if ow b = some i then H b else Hf b, ⟨⟨V.ext.ff.trans hsame, fun b o e => ?_, ?_, V.ext.pot, V.ext.old, fun b o e n => ?_⟩, V.len, fun q => if ow q = some i then none else ow q, fun j d e => ?_, fun q j e => ?_⟩, hsame⟩
  · by_cases hb : ow b = some i
    · simp only [if_pos hb] at e; exact e
    · simp only [if_neg hb] at e; exact V.ext.fh _ _ e
  · have : ow W.P ≠ some i := fun z => (h2 _ i z).2.1 rfl
    simp only [if_neg this]; exact V.ext.potF
  · have : ow b ≠ some i := fun z => by have := (h2 b i z).2.2.1; rw [this] at e; cases e
    simp only [if_neg this]; exact V.ext.unf _ _ e n
  · obtain ⟨v, e1, z⟩ := h1 j d e
    refine ⟨v, e1, ?_⟩
    by_cases hj : j = i
    · subst hj
      have hk : (Γ.set j .sh).getD j .sh = .sh := by
        by_cases hl : j < Γ.length
        · exact getD_set_self hl
        · rw [List.getD_eq_getElem?_getD, List.getElem?_eq_none (by simp; omega)]; rfl
      rw [hk]
      cases q : Γ.getD j .sh with
      | sh => rw [q] at z; exact At.mono hsame z
      | ol =>
        rw [q] at z
        obtain ⟨p, xs, ds, a1, a2, a3, a4, a5, a6⟩ := z
        subst a1; subst a2
        exact .lst (hfr a3 a4) a5 (a6.mono hsame)
      | od =>
        rw [q] at z
        obtain ⟨p, xs, ds, a1, a2, a3, a4, a5, a6⟩ := z
        subst a1; subst a2
        exact .dct (.inl (hfr a3 a4)) a5 (a6.mono hsame)
      | odl =>
        rw [q] at z
        obtain ⟨p, qs, ds, a1, a2, a3, a4, a5, _, a7⟩ := z
        subst a1; subst a2
        refine .dct (.inl (hfr a3 a4)) (by rw [List.length_map]; exact a5) (kv_of_lists (Paired.mapP a7 fun a b ⟨z1, z2, xs, z3, z4, z5⟩ => ⟨z1, xs, hfr z2 z3, z4, z5.mono hsame⟩))
      | lk =>
        rw [q] at z
        obtain ⟨p, od, ks, ds, a1, a2, a3, a4, a5⟩ := z
        subst a1; subst a2
        exact .dct (.inr ⟨_, hsame _ _ a3⟩) a4 (a5.mono hsame)
    · rw [getD_set_ne hj]
      have z' := OwnAt.other (ow' := fun q => if ow q = some i then none else ow q) z fun q hq => by
        have : ow q ≠ some i := fun e => by rw [hq] at e; cases e; exact hj rfl
        simp only [if_neg this]; exact hq
      cases q : Γ.getD j .sh with
      | sh => rw [q] at z'; exact At.mono hsame z'
      | ol => rw [q] at z'; obtain ⟨p, xs, ds, a1, a2, a3, a4, a5, a6⟩ := z'; exact ⟨p, xs, ds, a1, a2, a3, a4, a5, a6.mono hsame⟩
      | od => rw [q] at z'; obtain ⟨p, xs, ds, a1, a2, a3, a4, a5, a6⟩ := z'; exact ⟨p, xs, ds, a1, a2, a3, a4, a5, a6.mono hsame⟩
      | odl =>
        rw [q] at z'
        obtain ⟨p, qs, ds, a1, a2, a3, a4, a5, a6, a7⟩ := z'
        exact ⟨p, qs, ds, a1, a2, a3, a4, a5, a6, Paired.mapP a7 fun a b ⟨z1, z2, xs, z3, z4, z5⟩ => ⟨z1, z2, xs, z3, z4, z5.mono hsame⟩⟩
      | lk => rw [q] at z'; obtain ⟨p, od, ks, ds, a1, a2, a3, a4, a5⟩ := z'; exact ⟨p, od, ks, ds, a1, a2, hsame _ _ a3, a4, a5.mono hsame⟩
  · by_cases hq : ow q = some i
    · simp [hq] at e
    · simp only [if_neg hq] at e ⊢
      exact h2 q j e
theorem rs_freeze {t : TS} {f : Rho → M Fl} (i : Nat) (h : RS W E (Γ.set i .sh) Γ' Γl t f) : RS W E Γ Γ' Γl t f := by
  intro B ρ s σ Hf H D V p
  obtain ⟨Hf', V', _⟩ := V.freeze i
  exact h B ρ s σ Hf' H D V' p
theorem jss_freeze {f : Rho → M Fl} (i : Nat) (h : JSs c (Γ.set i .sh) Γ' Γl sts f) : JSs c Γ Γ' Γl sts f := by
  obtain ⟨t, h1, h2⟩ := h
  exact ⟨t, h1, rs_freeze i h2⟩
theorem jss_thaw {f : Rho → M Fl} (i : Nat) (h : JSs c Γ Γ' Γl sts f) : JSs c Γ (Γ'.set i .sh) Γl sts f := by
  obtain ⟨t, h1, h2⟩ := h
  refine ⟨t, h1, fun B ρ s σ Hf H D V p => h2 B ρ s σ Hf H D V (p.imp (fun r s1 k => ?_) fun _ _ _ z => z)⟩
  cases r with
  | nx ρ' => exact fun σ' Hf' H' V' => by obtain ⟨Hf'', V'', _⟩ := V'.freeze i; exact k _ _ _ V''
  | rt d => exact k
  | bk ρ' => exact k
  | ct ρ' => exact k
end
end VL
namespace VL
open PySem PySem.Spec PyProof.Rows L2
section
variable {c : Ctx} {W : Wd} {E : XK} {Γ Γ' Γ'' Γl : Gam} {e a b o : Expr} {f fa fb fo : Rho → M D} {pos : Pos} {Hf H : Hp} {st : Stmt} {sts rest : List Stmt}
def rebase (B : Hp × Hp) (Hf : Hp) : Hp × Hp := (Hf, fun b => match Hf b with | some o => some o | none => B.2 b)
theorem rebase_snd {B : Hp × Hp} {b : Addr} : (rebase B Hf).2 b = match Hf b with | some o => some o | none => B.2 b := rfl
theorem EnvAt.rebase {B : Hp × Hp} {ρ : Rho} {s : Pot} {σ : L2.St} (V : EnvAt W B Γ ρ s σ Hf H) : EnvAt W (rebase B Hf) Γ ρ s σ Hf H := by
  obtain ⟨ow, h1, h2⟩ := V.own
  refine ⟨⟨Same.refl _, V.ext.fh, V.ext.potF, V.ext.pot, fun b o hb e => ?_, fun b o e n => n⟩, V.len, ow, h1, fun q i e => ?_⟩
  · rw [rebase_snd] at e
    cases q : Hf b with
    | some u => rw [q] at e; cases e; exact V.ext.fh _ _ q
    | none => rw [q] at e; exact V.ext.old _ _ hb e
  · obtain ⟨z1, z2, z3, z4⟩ := h2 q i e
    exact ⟨z1, z2, by rw [rebase_snd, z1]; exact z3, z4⟩
theorem Ext.unbase {B : Hp × Hp} {Hf1 H1 : Hp} {s s1 : Pot} (x : Ext W B.1 B.2 Hf H s) (y : Ext W (VL.rebase B Hf).1 (VL.rebase B Hf).2 Hf1 H1 s1) : Ext W B.1 B.2 Hf1 H1 s1 := by
  refine ⟨x.ff.trans y.ff, y.fh, y.potF, y.pot, fun b o hb e => ?_, fun b o e n => ?_⟩
  · refine y.old b o hb ?_
    rw [rebase_snd]
    cases q : Hf b with
    | some u =>
      have h1 := x.fh _ _ q
      have h2 := x.old _ _ hb e
      rw [h1] at h2; exact h2
    | none => exact e
  · have q := x.unf _ _ e n
    exact y.unf b o (by rw [rebase_snd, q]; exact e) q
theorem EnvAt.unbase {B : Hp × Hp} {ρ : Rho} {s s1 : Pot} {σ : L2.St} {Hf1 H1 : Hp} (x : Ext W B.1 B.2 Hf H s) (V : EnvAt W (VL.rebase B Hf) Γ ρ s1 σ Hf1 H1) : EnvAt W B Γ ρ s1 σ Hf1 H1 := by
  obtain ⟨ow, h1, h2⟩ := V.own
  refine ⟨x.unbase V.ext, V.len, ow, h1, fun q i e => ?_⟩
  obtain ⟨z1, z2, z3, z4⟩ := h2 q i e
  refine ⟨z1, z2, ?_, z4⟩
  rw [rebase_snd] at z3
  cases q' : Hf q with
  | some u => rw [q'] at z3; cases z3
  | none => rw [q'] at z3; exact z3
theorem ErrOk.rebase {B : Hp × Hp} {s s1 : Pot} {n : Nat} {v : D} (x : Ext W B.1 B.2 Hf H s) (h : ErrOk W B E n v s1) : ErrOk W (VL.rebase B Hf) E n v s1 := fun dx u Hf' H' y => h dx u Hf' H' (x.unbase y)
def forL (tg : D → Rho → Option Rho) (body : Rho → M Fl) : List D → Rho → M Fl
  | [], ρ => pure (.nx ρ)
  | d :: r, ρ => do
    let ρ1 ← opt (tg d ρ)
    let z ← body ρ1
    match z with
    | .nx ρ2 => forL tg body r ρ2
    | .ct ρ2 => forL tg body r ρ2
    | .bk ρ2 => pure (.nx ρ2)
    | .rt v => pure (.rt v)
def forS (fi : Rho → M (List D)) (tg : D → Rho → Option Rho) (body : Rho → M Fl) : Rho → M Fl := fun ρ => do
  let ds ← fi ρ
  forL tg body ds ρ
theorem js_for {is : List Nat} {tg iter : Expr} {body : List Stmt} {fi : Rho → M (List D)} {ft : D → Rho → Option Rho} {fbd : Rho → M Fl} (hi : JI c Γ tg iter fi) (hg : JG c Γ is tg ft) (hb : JSs c Γ Γ Γ body fbd)
    (hs : ∀ env x, foldedSetIterable iter env x = pure x := by intro _ _; rfl) : JS c Γ Γ Γl (.For tg iter body [] pos) (forS fi ft fbd) := by
  obtain ⟨wi, i1, i2⟩ := hi
  obtain ⟨g, g1, g2⟩ := hg
  obtain ⟨tb, b1, b2⟩ := hb
  refine ⟨tFor wi g tb, fun X hX => ps_for hX.own hX.calm (i1 X hX) (g1 X hX) (b1 X hX) (hs _), fun B ρ s σ Hf H D V p => ?_⟩
  unfold forS at p
  rw [post_bind] at p
  refine i2 B ρ s σ Hf H _ V (p.imp (fun ds s1 p1 J Hf1 H1 x1 hz it => ?_) fun _ _ _ z => z)
  have V1 := V.ext' x1
  refine ⟨fun i m σ2 H2 => ∃ Hf2 ρ2 s2, i ≤ ds.length ∧ m = ds.length - i ∧ EnvAt c.W (VL.rebase B Hf1) Γ ρ2 s2 σ2 Hf2 H2 ∧ Post (FlOk c.W B Γ Γl D) (ErrOk c.W B c.E) (forL ft fbd (ds.drop i) ρ2 s2), ?_, ?_⟩
  · exact ⟨ds.length - 0, Hf1, ρ, s1, Nat.zero_le _, rfl, V1.rebase, p1⟩
  · intro i m σ2 H2 ⟨Hf2, ρ2, s2, hi, hm, V2, p2⟩
    have hit := it i Hf2 H2 s2 V2.ext.ff V2.ext.refl
    by_cases hlt : i < ds.length
    · right
      have hd : ds[i]? = some ds[i] := List.getElem?_eq_getElem hlt
      obtain ⟨go, yl⟩ := hit.2 _ hd
      refine ⟨go, fun σ3 H3 => ∃ Hf3 ρ3 s3, EnvAt c.W (VL.rebase B Hf1) Γ ρ3 s3 σ3 Hf3 H3 ∧ Post (FlOk c.W B Γ Γl D) (ErrOk c.W B c.E) (forL ft fbd (ds.drop (i + 1)) ρ3 s3),
        fun σ3 H3 ⟨Hf3, ρ3, s3, q1, q2⟩ => ⟨ds.length - (i + 1), by omega, Hf3, ρ3, s3, hlt, rfl, q1, q2⟩, fun x H3 hy => ?_⟩
      obtain ⟨Hf3, x3, ax⟩ := yl x H3 hy
      have V3 := V2.ext' x3
      rw [List.drop_eq_getElem_cons hlt] at p2
      unfold forL at p2
      rw [post_bind, post_opt] at p2
      obtain ⟨ρ', eρ, p2⟩ := p2
      rw [post_bind] at p2
      refine g2 (VL.rebase B Hf1) ρ2 s2 σ2 Hf3 H3 x _ ρ' _ V3 ax eρ fun σ' V4 w4 => ?_
      refine b2 (VL.rebase B Hf1) ρ' s2 σ' Hf3 H3 _ V4 (p2.imp (fun z s3 p3 => ?_) fun _ _ _ z => z.rebase V1.ext)
      cases z with
      | nx ρ3 => exact fun σ3 Hf4 H4 V5 => ⟨Hf4, ρ3, s3, V5, p3⟩
      | ct ρ3 => exact fun σ3 Hf4 H4 V5 => ⟨Hf4, ρ3, s3, V5, p3⟩
      | bk ρ3 => exact fun σ3 Hf4 H4 V5 => p3 _ _ _ (V5.unbase V1.ext)
      | rt d => exact fun v Hf4 H4 y => p3 v _ _ (V1.ext.unbase y)
    · left
      have e : i = ds.length := by omega
      subst e
      refine ⟨hit.1 (Nat.le_refl _), ?_⟩
      rw [List.drop_length] at p2
      exact p2 _ _ _ (V2.unbase V1.ext)
def whileN : Nat → (Rho → M Bool) → (Rho → M Fl) → Rho → M Fl
  | 0, _, _, _ => nope
  | n + 1, g, body, ρ => do
    let b ← g ρ
    if b = true then do
      let z ← body ρ
      match z with
      | .nx ρ2 => whileN n g body ρ2
      | .ct ρ2 => whileN n g body ρ2
      | .bk ρ2 => pure (.nx ρ2)
      | .rt v => pure (.rt v)
    else pure (.nx ρ)
open Classical in
noncomputable def whileS (g : Rho → M Bool) (body : Rho → M Fl) : Rho → M Fl := fun ρ s => if h : ∃ n, whileN n g body ρ s ≠ .fail then whileN h.choose g body ρ s else .fail
theorem whileN_more {g : Rho → M Bool} {body : Rho → M Fl} : ∀ {n : Nat} {ρ : Rho} {s : Pot}, whileN n g body ρ s ≠ .fail → whileN (n + 1) g body ρ s = whileN n g body ρ s
  | 0, _, _, h => (h rfl).elim
  | n + 1, ρ, s, h => by
    have e : ∀ m, whileN (m + 1) g body ρ s = (match g ρ s with
      | .ok true s1 => (match body ρ s1 with
        | .ok (.nx ρ2) s2 => whileN m g body ρ2 s2
        | .ok (.ct ρ2) s2 => whileN m g body ρ2 s2
        | .ok (.bk ρ2) s2 => .ok (.nx ρ2) s2
        | .ok (.rt v) s2 => .ok (.rt v) s2
        | .err n v s2 => .err n v s2
        | .fail => .fail)
      | .ok false s1 => .ok (.nx ρ) s1
      | .err n v s1 => .err n v s1
      | .fail => .fail) := by
      intro m
      simp only [whileN, bind_run]
      cases g ρ s with
      | fail => rfl
      | err _ _ _ => rfl
      | ok b s1 =>
        cases b with
        | false => rfl
        | true =>
          simp only [if_true, bind_run]
          cases body ρ s1 with
          | fail => rfl
          | err _ _ _ => rfl
          | ok z s2 => cases z <;> rfl
    rw [e n] at h
    rw [e (n + 1), e n]
    cases q : g ρ s with
    | fail => rfl
    | err _ _ _ => rfl
    | ok b s1 =>
      rw [q] at h
      cases b with
      | false => rfl
      | true =>
        dsimp only at h ⊢
        cases q2 : body ρ s1 with
        | fail => rfl
        | err _ _ _ => rfl
        | ok z s2 =>
          rw [q2] at h
          cases z with
          | nx ρ2 => exact whileN_more h
          | ct ρ2 => exact whileN_more h
          | bk _ => rfl
          | rt _ => rfl
theorem whileN_le {g : Rho → M Bool} {body : Rho → M Fl} {n : Nat} {ρ : Rho} {s : Pot} (h : whileN n g body ρ s ≠ .fail) : ∀ k, whileN (n + k) g body ρ s = whileN n g body ρ s
  | 0 => rfl
  | k + 1 => by
    have ih := whileN_le h k
    rw [← Nat.add_assoc, whileN_more (by rw [ih]; exact h), ih]
theorem whileS_of {g : Rho → M Bool} {body : Rho → M Fl} {n : Nat} {ρ : Rho} {s : Pot} (h : whileN n g body ρ s ≠ .fail) : whileS g body ρ s = whileN n g body ρ s := by
  have hx : ∃ n, whileN n g body ρ s ≠ .fail := ⟨n, h⟩
  unfold whileS
  rw [dif_pos hx]
  have h2 := hx.choose_spec
  rcases Nat.le_total n hx.choose with q | q
  · obtain ⟨k, e⟩ := Nat.exists_eq_add_of_le q
    rw [e, whileN_le h k]
  · obtain ⟨k, e⟩ := Nat.exists_eq_add_of_le q
    have := whileN_le h2 k
    rw [← e] at this
    exact this.symm
theorem js_while {x : Expr} {body : List Stmt} {g : Rho → M Bool} {fbd : Rho → M Fl} (hg : JT c Γ x g) (hb : JSs c Γ Γ Γ body fbd) : JS c Γ Γ Γl (.While x body [] pos) (whileS g fbd) := by
  obtain ⟨t, h1, h2⟩ := hg
  obtain ⟨tb, b1, b2⟩ := hb
  refine ⟨tWhile t tb, fun X hX => ps_while hX.own (h1 X hX) (b1 X hX), fun B ρ s σ Hf H D V p => ?_⟩
  have hx : ∃ n, whileN n g fbd ρ s ≠ .fail := by
    apply Classical.byContradiction
    intro hn
    unfold whileS at p
    rw [dif_neg hn] at p
    exact p
  obtain ⟨n, hn⟩ := hx
  rw [whileS_of hn] at p
  refine ⟨fun m σ2 H2 => ∃ Hf2 ρ2 s2, EnvAt c.W B Γ ρ2 s2 σ2 Hf2 H2 ∧ Post (FlOk c.W B Γ Γl D) (ErrOk c.W B c.E) (whileN m g fbd ρ2 s2), ⟨n, Hf, ρ, s, V, p⟩, ?_⟩
  intro m σ2 H2 ⟨Hf2, ρ2, s2, V2, p2⟩
  cases m with
  | zero => exact p2.elim
  | succ m =>
    unfold whileN at p2
    rw [post_bind] at p2
    refine h2 B ρ2 s2 σ2 Hf2 H2 _ V2 (p2.imp (fun b s3 p3 Hf3 H3 x3 => ?_) fun _ _ _ z => z)
    have V3 := V2.ext' x3
    cases b with
    | false =>
      simp only [Bool.false_eq_true, if_false] at p3 ⊢
      exact p3 _ _ _ V3
    | true =>
      simp only [if_true] at p3 ⊢
      rw [post_bind] at p3
      refine ⟨fun σ4 H4 => ∃ Hf4 ρ4 s4, EnvAt c.W B Γ ρ4 s4 σ4 Hf4 H4 ∧ Post (FlOk c.W B Γ Γl D) (ErrOk c.W B c.E) (whileN m g fbd ρ4 s4), fun σ4 H4 z => ⟨m, Nat.lt_succ_self m, z⟩, ?_⟩
      refine b2 B ρ2 s3 σ2 Hf3 H3 _ V3 (p3.imp (fun z s4 p4 => ?_) fun _ _ _ z => z)
      cases z with
      | nx ρ4 => exact fun σ4 Hf4 H4 V4 => ⟨Hf4, ρ4, s4, V4, p4⟩
      | ct ρ4 => exact fun σ4 Hf4 H4 V4 => ⟨Hf4, ρ4, s4, V4, p4⟩
      | bk ρ4 => exact fun σ4 Hf4 H4 V4 => p4 _ _ _ V4
      | rt d => exact fun v Hf4 H4 y => p4 v _ _ y
theorem EnvAt.turn {B : Hp × Hp} {ρ : Rho} {s : Pot} {σ : L2.St} {i : Nat} {k : Own} {d : D} {v : V} {p : Addr} {o' : HO} {ow : Addr → Option Nat} (V : EnvAt W B Γ ρ s σ Hf H)
    (h1 : ∀ i d, ρ[i]? = some (some d) → ∃ v, σ[i]? = some (some v) ∧ OwnAt W Hf H ow i (Γ.getD i .sh) v d) (h2 : ∀ q i, ow q = some i → Hf q = none ∧ q ≠ W.P ∧ B.2 q = none ∧ ∃ o, H q = some o)
    (hσ : σ[i]? = some (some v)) (hk : Γ.getD i .sh = k) (hp : ow p = some i) (hn : OwnAt W Hf (upd H p o') ow i k v d) : EnvAt W B Γ (ρ.set i (some d)) s σ Hf (upd H p o') := by
  obtain ⟨pf, pP, pB, _⟩ := h2 p i hp
  refine ⟨V.ext.write pf pP pB, by simp [V.len], ow, fun j d' e => ?_, fun q j e => ?_⟩
  · rcases set_get e with ⟨rfl, e1, _⟩ | ⟨hj, e1⟩
    · cases e1
      exact ⟨v, hσ, by rw [hk]; exact hn⟩
    · obtain ⟨v', e2, z⟩ := h1 j d' e1
      refine ⟨v', e2, ?_⟩
      have ne : ∀ q, ow q = some j → q ≠ p := fun q hq e => by rw [e, hp] at hq; cases hq; exact hj rfl
      cases hg : Γ.getD j .sh with
      | sh => rw [hg] at z; exact z
      | ol => rw [hg] at z; obtain ⟨q, xs, ds, a1, a2, a3, a4, r⟩ := z; exact ⟨q, xs, ds, a1, a2, a3, by rw [upd_ne (ne q a3)]; exact a4, r⟩
      | od => rw [hg] at z; obtain ⟨q, xs, ds, a1, a2, a3, a4, r⟩ := z; exact ⟨q, xs, ds, a1, a2, a3, by rw [upd_ne (ne q a3)]; exact a4, r⟩
      | odl =>
        rw [hg] at z
        obtain ⟨q, qs, ds, a1, a2, a3, a4, a5, a6, a7⟩ := z
        exact ⟨q, qs, ds, a1, a2, a3, by rw [upd_ne (ne q a3)]; exact a4, a5, a6, Paired.mapP a7 fun a b ⟨z1, z2, xs, z3, z4⟩ => ⟨z1, z2, xs, by rw [upd_ne (ne _ z2)]; exact z3, z4⟩⟩
      | lk => rw [hg] at z; exact z
  · obtain ⟨z1, z2, z3, o, z4⟩ := h2 q j e
    refine ⟨z1, z2, z3, ?_⟩
    by_cases hq : q = p
    · rw [hq]; exact ⟨_, upd_same⟩
    · exact ⟨o, by rw [upd_ne hq]; exact z4⟩
def asLst (d : D) : M (List D) := match d with
  | .lst l => pure l
  | _ => nope
theorem post_asLst {A : List D → Pot → Prop} {B : Nat → D → Pot → Prop} {d : D} {s : Pot} (h : Post A B (asLst d s)) : ∃ b, d = .lst b ∧ A b s := by
  cases d with
  | lst b => exact ⟨b, rfl, h⟩
  | _ => exact h.elim
theorem pe_bm1 {T id : String} {name : Str} {r : V → List V → Hp → VK → Prop} {to te : TE} {X : Cx} {apos cpos : Pos} (pa : PlainAttrs T) (slot : Slot T name id) (hty : typeOf (.builtin id) = pure (.type "method_descriptor")) (hm : MtR X id r) (ho : PE X o to) (ha : PE X e te)
    (hbase : ∀ env, attributeBase o name env (eval o env) = eval o env) (hst : ∀ env, starEach [e] env = [(false, eval e env)]) (hline : (apos.endLine == cpos.line) = true) : PE X (.Call (.Attribute o name apos) [e] [] cpos) (tBM X.K T r to (tCons te tNil)) := by
  refine pe_bm pa slot hty hm ho (pa_cons ha pa_nil (by rw [hst]; rfl)) (hbase _) ?_ hline (by rw [hst]; rfl) rfl
  rw [hst]; rfl
theorem EnvAt.look {B : Hp × Hp} {ρ : Rho} {s : Pot} {σ : L2.St} (V : EnvAt W B Γ ρ s σ Hf H) : ∃ ow : Addr → Option Nat, (∀ i d, ρ[i]? = some (some d) → ∃ v, σ[i]? = some (some v) ∧ OwnAt W Hf H ow i (Γ.getD i .sh) v d) ∧ (∀ q i, ow q = some i → Hf q = none ∧ q ≠ W.P ∧ B.2 q = none ∧ ∃ o, H q = some o) := V.own
def appS (i : Nat) (fe : Rho → M D) : Rho → M Fl := fun ρ => do
  let _ ← asLst (← slot i ρ)
  let d ← fe ρ
  let l ← asLst (← slot i ρ)
  if l.length < sizeLine then pure (.nx (ρ.set i (some (.lst (l ++ [d]))))) else nope
theorem js_append (i : Nat) {x : Str} {p1 p2 p3 : Pos} (he : JE c Γ e f) (hN : c.N[i]? = some x) (hv : Vis c.sc x) (hΓ : Γ.getD i .sh = .ol) (hline : (p2.endLine == p3.line) = true := by rfl) (hst : ∀ env, starEach [e] env = [(false, eval e env)] := by intro _; rfl) (hd : (x == ("__debug__" : Str)) = false := by decide) (hcd : (x == ("__classdict__" : Str)) = false := by decide) :
    JS c Γ Γ Γl (.Expr (.Call (.Attribute (.Name x p1) "append" p2) [e] [] p3) pos) (appS i f) := by
  obtain ⟨t, h1, h2⟩ := he
  refine ⟨tDrop (tBM c.W.K "list" rAppend (tVar i) (tCons t tNil)), fun X hX => ?_, fun B ρ s σ Hf H D V p => ?_⟩
  · have q := pe_bm1 (X := X) (cpos := p3) (apos := p2) PySem.F.plainAttrs_list PySem.F.slot_list_append PySem.F.type_list_append (mt_append (X := X)) (pe_var (i := i) (x := x) (pos := p1) (by rw [hX.N]; exact hN) (hX.vis hv) hd hcd) (h1 X hX) (fun _ => rfl) hst hline
    rw [hX.K] at q
    exact ps_expr q
  · unfold appS at p
    rw [post_bind] at p
    obtain ⟨d0, e0, p⟩ := post_slot p
    rw [post_bind] at p
    obtain ⟨l0, rfl, pp⟩ := post_asLst p
    rw [post_bind] at pp
    obtain ⟨ow, g1, g2⟩ := V.own
    obtain ⟨v, e1, z⟩ := g1 i _ e0
    have z0 := z
    rw [hΓ] at z
    obtain ⟨q, xs, ds, a1, a2, a3, a4, a5, a6⟩ := z
    subst a1
    cases a2
    refine ⟨.ref q, e1, .inl ⟨rfl, _, SqL.of a4⟩, h2 B ρ s σ Hf H _ V (pp.imp (fun d s1 p1 v1 Hf1 H1 x1 r1 => ?_) fun _ _ _ z => z)⟩
    have V1 := V.ext' x1
    rw [post_bind] at p1
    obtain ⟨d1, e2, p1⟩ := post_slot p1
    rw [e0] at e2
    cases e2
    rw [post_bind] at p1
    obtain ⟨l1, e3, p1⟩ := post_asLst p1
    cases e3
    have k1 : ∀ i d, ρ[i]? = some (some d) → ∃ v, σ[i]? = some (some v) ∧ OwnAt c.W Hf1 H1 ow i (Γ.getD i .sh) v d := fun i d e => by
      obtain ⟨v, e1, z⟩ := g1 i d e
      exact ⟨v, e1, z.ext x1 fun q j e => (g2 q j e).2.1⟩
    have k2 : ∀ q i, ow q = some i → Hf1 q = none ∧ q ≠ c.W.P ∧ B.2 q = none ∧ ∃ o, H1 q = some o := fun q i e => by
      obtain ⟨z1, z2, z3, o, z4⟩ := g2 q i e
      exact ⟨x1.unf _ _ z4 z1, z2, z3, o, x1.old _ _ z2 z4⟩
    have hq1 : H1 q = some (.lst xs) := x1.old _ _ (g2 _ _ a3).2.1 a4
    by_cases hlt : l0.length < sizeLine
    · rw [if_pos hlt] at p1
      refine ⟨q, xs, v1, rfl, rfl, hq1, by rw [a6.len]; exact hlt, ?_⟩
      exact p1 _ _ _ (V1.turn k1 k2 e1 hΓ a3 ⟨q, xs ++ [v1], l0 ++ [d], rfl, rfl, a3, upd_same, by rw [List.length_append, a6.len]; simp; omega, (a6.mono x1.ff).append (.cons r1 .nil)⟩)
    · rw [if_neg hlt] at p1; exact p1.elim
def extS (i : Nat) (fe : Rho → M D) : Rho → M Fl := fun ρ => do
  let _ ← asLst (← slot i ρ)
  let d ← fe ρ
  let m ← asLst d
  let l ← asLst (← slot i ρ)
  if l.length + m.length ≤ sizeLine then pure (.nx (ρ.set i (some (.lst (l ++ m))))) else nope
theorem js_extend (i : Nat) {x : Str} {p1 p2 p3 : Pos} (he : JV c Γ e f) (hN : c.N[i]? = some x) (hv : Vis c.sc x) (hΓ : Γ.getD i .sh = .ol) (hline : (p2.endLine == p3.line) = true := by rfl) (hst : ∀ env, starEach [e] env = [(false, eval e env)] := by intro _; rfl) (hd : (x == ("__debug__" : Str)) = false := by decide) (hcd : (x == ("__classdict__" : Str)) = false := by decide) :
    JS c Γ Γ Γl (.Expr (.Call (.Attribute (.Name x p1) "extend" p2) [e] [] p3) pos) (extS i f) := by
  obtain ⟨t, h1, h2⟩ := he
  refine ⟨tDrop (tBM c.W.K "list" rExtend (tVar i) (tCons t tNil)), fun X hX => ?_, fun B ρ s σ Hf H D V p => ?_⟩
  · have q := pe_bm1 (X := X) (cpos := p3) (apos := p2) PySem.F.plainAttrs_list PySem.F.slot_list_extend PySem.F.type_list_extend (mt_extend (X := X)) (pe_var (i := i) (x := x) (pos := p1) (by rw [hX.N]; exact hN) (hX.vis hv) hd hcd) (h1 X hX) (fun _ => rfl) hst hline
    rw [hX.K] at q
    exact ps_expr q
  · unfold extS at p
    rw [post_bind] at p
    obtain ⟨d0, e0, p⟩ := post_slot p
    rw [post_bind] at p
    obtain ⟨l0, rfl, pp⟩ := post_asLst p
    rw [post_bind] at pp
    obtain ⟨ow, g1, g2⟩ := V.own
    obtain ⟨v, e1, z⟩ := g1 i _ e0
    have z0 := z
    rw [hΓ] at z
    obtain ⟨q, xs, ds, a1, a2, a3, a4, a5, a6⟩ := z
    subst a1
    cases a2
    refine ⟨.ref q, e1, .inl ⟨rfl, _, SqL.of a4⟩, h2 B ρ s σ Hf H _ V (pp.imp (fun d s1 p1 v1 Hf1 H1 x1 r1 => ?_) fun _ _ _ z => z)⟩
    have V1 := V.ext' x1
    rw [post_bind] at p1
    obtain ⟨m, rfl, p3⟩ := post_asLst p1
    rw [post_bind] at p3
    obtain ⟨d1, e2, p4⟩ := post_slot p3
    rw [e0] at e2
    cases e2
    rw [post_bind] at p4
    obtain ⟨l1, e3, p1⟩ := post_asLst p4
    cases e3
    have k1 : ∀ i d, ρ[i]? = some (some d) → ∃ v, σ[i]? = some (some v) ∧ OwnAt c.W Hf1 H1 ow i (Γ.getD i .sh) v d := fun i d e => by
      obtain ⟨v, e1, z⟩ := g1 i d e
      exact ⟨v, e1, z.ext x1 fun q j e => (g2 q j e).2.1⟩
    have k2 : ∀ q i, ow q = some i → Hf1 q = none ∧ q ≠ c.W.P ∧ B.2 q = none ∧ ∃ o, H1 q = some o := fun q i e => by
      obtain ⟨z1, z2, z3, o, z4⟩ := g2 q i e
      exact ⟨x1.unf _ _ z4 z1, z2, z3, o, x1.old _ _ z2 z4⟩
    have hq1 : H1 q = some (.lst xs) := x1.old _ _ (g2 _ _ a3).2.1 a4
    by_cases hlt : l0.length + m.length ≤ sizeLine
    · rw [if_pos hlt] at p1
      obtain ⟨q2, zs, rfl, b1, b2, b3⟩ := r1.lst' x1.fh
      refine ⟨q, q2, xs, zs, rfl, rfl, hq1, b1, by rw [a6.len, b3.len]; exact hlt, ?_⟩
      exact p1 _ _ _ (V1.turn k1 k2 e1 hΓ a3 ⟨q, xs ++ zs, l0 ++ m, rfl, rfl, a3, upd_same, by rw [List.length_append, a6.len, b3.len]; exact hlt, (a6.mono x1.ff).append b3⟩)
    · rw [if_neg hlt] at p1; exact p1.elim
theorem own_ext {ρ : Rho} {s s1 : Pot} {σ : L2.St} {B : Hp × Hp} {ow : Addr → Option Nat} {Hf1 H1 : Hp} (x1 : Ext W Hf H Hf1 H1 s1) (g1 : ∀ i d, ρ[i]? = some (some d) → ∃ v, σ[i]? = some (some v) ∧ OwnAt W Hf H ow i (Γ.getD i .sh) v d) (g2 : ∀ q i, ow q = some i → Hf q = none ∧ q ≠ W.P ∧ B.2 q = none ∧ ∃ o, H q = some o) :
    (∀ i d, ρ[i]? = some (some d) → ∃ v, σ[i]? = some (some v) ∧ OwnAt W Hf1 H1 ow i (Γ.getD i .sh) v d) ∧ (∀ q i, ow q = some i → Hf1 q = none ∧ q ≠ W.P ∧ B.2 q = none ∧ ∃ o, H1 q = some o) := by
  refine ⟨fun i d e => ?_, fun q i e => ?_⟩
  · obtain ⟨v, e1, z⟩ := g1 i d e
    exact ⟨v, e1, z.ext x1 fun q j e => (g2 q j e).2.1⟩
  · obtain ⟨z1, z2, z3, o, z4⟩ := g2 q i e
    exact ⟨x1.unf _ _ z4 z1, z2, z3, o, x1.old _ _ z2 z4⟩
def asDct (d : D) : M (List (Key × D)) := match d with
  | .dct l => pure l
  | _ => nope
theorem post_asDct {A : List (Key × D) → Pot → Prop} {B : Nat → D → Pot → Prop} {d : D} {s : Pot} (h : Post A B (asDct d s)) : ∃ b, d = .dct b ∧ A b s := by
  cases d with
  | dct b => exact ⟨b, rfl, h⟩
  | _ => exact h.elim
theorem putK_len (l : List (Key × V)) (k : Key) (v : V) : (putK l k v).length ≤ l.length + 1 := by
  unfold putK; split <;> simp
def dputS (i : Nat) (fk fe : Rho → M D) : Rho → M Fl := fun ρ => do
  let z ← slot i ρ
  let l ← asDct z
  let d ← fe ρ
  let k ← fk ρ
  let k ← opt (asKey k)
  if l.length < sizeLine then pure (.nx (ρ.set i (some (.dct (putD l k d))))) else nope
theorem js_dput (i : Nat) {x : Str} {p1 p2 : Pos} (he : JE c Γ e f) (ha : JV c Γ a fa) (hN : c.N[i]? = some x) (hv : Vis c.sc x) (hΓ : Γ.getD i .sh = .od) (hs : ∀ X, Is c X → swapsWith e (some (.Subscript (.Name x p1) a p2)) pos.line X.env = pure false := by intro _ _; rfl) (hd : (x == ("__debug__" : Str)) = false := by decide) (hcd : (x == ("__classdict__" : Str)) = false := by decide) :
    JS c Γ Γ Γl (.Assign [.Subscript (.Name x p1) a p2] e pos) (dputS i fa f) := by
  obtain ⟨t, h1, h2⟩ := he
  obtain ⟨ta, a1, a2⟩ := ha
  refine ⟨sDPut (tVar i) ta t, fun X hX => ps_dput hX.u1 (pe_var (by rw [hX.N]; exact hN) (hX.vis hv) hd hcd) (a1 X hX) (h1 X hX) (hs X hX), fun B ρ s σ Hf H D V p => ?_⟩
  unfold dputS at p
  rw [post_bind] at p
  obtain ⟨d0, e0, p⟩ := post_slot p
  rw [post_bind] at p
  obtain ⟨l, rfl, pp⟩ := post_asDct p
  rw [post_bind] at pp
  obtain ⟨ow, g1, g2⟩ := V.own
  obtain ⟨v, e1, z⟩ := g1 i _ e0
  rw [hΓ] at z
  obtain ⟨q, ks, ds, b1, b2, b3, b4, b5, b6⟩ := z
  subst b1
  cases b2
  refine h2 B ρ s σ Hf H _ V (pp.imp (fun d s1 p1 v1 Hf1 H1 x1 r1 => ?_) fun _ _ _ z => z)
  refine ⟨.ref q, e1, ?_⟩
  rw [post_bind] at p1
  refine a2 B ρ s1 σ Hf1 H1 _ (V.ext' x1) (p1.imp (fun kd s2 p2 v2 Hf2 H2 x2 r2 => ?_) fun _ _ _ z => z)
  rw [post_bind, post_opt] at p2
  obtain ⟨k, hk, p2⟩ := p2
  have ek := asKey_v hk r2
  subst ek
  have x12 := x1.trans x2
  obtain ⟨k1, k2⟩ := own_ext (s := s) x12 g1 g2
  have hq : H2 q = some (.dK ks) := x12.old _ _ (g2 _ _ b3).2.1 b4
  by_cases hlt : l.length < sizeLine
  · rw [if_pos hlt] at p2
    have hz : ks.length < sizeLine := by rw [b6.len]; exact hlt
    refine ⟨q, _, rfl, DPut.k hq hz, ?_⟩
    refine p2 _ _ _ ((V.ext' x12).turn k1 k2 e1 hΓ b3 ⟨q, _, _, rfl, rfl, b3, upd_same, ?_, AtKv.put (r1.mono x2.ff) (b6.mono x12.ff)⟩)
    have := putK_len ks k v1
    omega
  · rw [if_neg hlt] at p2; exact p2.elim
def updD : List (Key × D) → Key → D → List (Key × D)
  | [], _, _ => []
  | (k', d') :: r, k, d => if k' = k then (k', d) :: r else (k', d') :: updD r k d
def dappS (i : Nat) (fk fe : Rho → M D) : Rho → M Fl := fun ρ => do
  let z ← slot i ρ
  let l ← asDct z
  let k ← fk ρ
  let k ← opt (asKey k)
  let m ← opt (valD l k)
  let m ← asLst m
  let d ← fe ρ
  if m.length < sizeLine then pure (.nx (ρ.set i (some (.dct (updD l k (.lst (m ++ [d]))))))) else nope
theorem odl_val {F : Addr → List D → Prop} {k : Key} {m : D} : ∀ {qs : List (Key × Addr)} {ds : List (Key × List D)}, Paired (fun (q : Key × Addr) (z : Key × List D) => q.1 = z.1 ∧ F q.2 z.2) qs ds → valD (ds.map fun z => (z.1, .lst z.2)) k = some m →
    ∃ q l, m = .lst l ∧ valV (qs.map fun z => (z.1, V.ref z.2)) k = some (.ref q) ∧ q ∈ qs.map (·.2) ∧ F q l
  | _, _, .nil, h => by simp [valD] at h
  | (k1, q1) :: qs, (k2, l2) :: ds, .cons ⟨e, hf⟩ r, h => by
    have e : k1 = k2 := e
    subst e
    by_cases hk : k1 = k
    · subst hk
      simp [valD, List.find?_cons] at h
      exact ⟨q1, l2, h.symm, valV_pos rfl, List.mem_cons_self .., hf⟩
    · have h' : valD (ds.map fun z => (z.1, .lst z.2)) k = some m := by simpa [valD, List.find?_cons, hk] using h
      obtain ⟨q, l, a1, a2, a3, a4⟩ := odl_val r h'
      exact ⟨q, l, a1, by rw [List.map_cons, valV_neg (p := (k1, V.ref q1)) hk]; exact a2, List.mem_cons_of_mem _ a3, a4⟩
theorem val_mem {k : Key} {q : Addr} {qs : List (Key × Addr)} (h : valV (qs.map fun z => (z.1, V.ref z.2)) k = some (.ref q)) : q ∈ qs.map (·.2) := by
  unfold valV at h
  simp only [Option.map_eq_some_iff] at h
  obtain ⟨a, h1, h2⟩ := h
  have m := List.mem_of_find?_eq_some h1
  obtain ⟨z, hz, rfl⟩ := List.mem_map.mp m
  cases h2
  exact List.mem_map.mpr ⟨z, hz, rfl⟩
theorem odl_upd {F G : Addr → List D → Prop} {k : Key} {q : Addr} {l' : List D} : ∀ {qs : List (Key × Addr)} {ds : List (Key × List D)}, (qs.map (·.2)).Nodup → Paired (fun (q : Key × Addr) (z : Key × List D) => q.1 = z.1 ∧ F q.2 z.2) qs ds → valV (qs.map fun z => (z.1, V.ref z.2)) k = some (.ref q) → (∀ r z, r ≠ q → F r z → G r z) → G q l' →
    ∃ ds', updD (ds.map fun z => (z.1, .lst z.2)) k (.lst l') = ds'.map (fun z => (z.1, .lst z.2)) ∧ Paired (fun (q : Key × Addr) (z : Key × List D) => q.1 = z.1 ∧ G q.2 z.2) qs ds'
  | _, _, _, .nil, h, _, _ => by simp [valV] at h
  | (k1, q1) :: qs, (k2, l2) :: ds, nd, .cons ⟨e, hf⟩ r, h, hG, hq => by
    have e : k1 = k2 := e
    subst e
    rw [List.map_cons, List.nodup_cons] at nd
    by_cases hk : k1 = k
    · subst hk
      rw [List.map_cons, valV_pos rfl] at h
      cases h
      refine ⟨(k1, l') :: ds, by simp [updD], .cons ⟨rfl, hq⟩ (Paired.both r fun a b m z => ⟨z.1, hG _ _ (fun e => nd.1 ?_) z.2⟩)⟩
      rw [← e]; exact List.mem_map.mpr ⟨a, m, rfl⟩
    · have h' : valV (qs.map fun z => (z.1, V.ref z.2)) k = some (.ref q) := by
        rw [List.map_cons, valV_neg (p := (k1, V.ref q1)) hk] at h; exact h
      obtain ⟨ds', a1, a2⟩ := odl_upd nd.2 r h' hG hq
      refine ⟨(k1, l2) :: ds', by simp [updD, hk, a1], .cons ⟨rfl, hG _ _ (fun e => ?_) hf⟩ a2⟩
      rw [e] at nd
      exact nd.1 (val_mem h')
theorem js_dapp (i : Nat) {x : Str} {p1 p2 p3 p4 : Pos} (he : JE c Γ e f) (ha : JV c Γ a fa) (hN : c.N[i]? = some x) (hv : Vis c.sc x) (hΓ : Γ.getD i .sh = .odl) (hline : (p2.endLine == p3.line) = true := by rfl) (hst : ∀ env, starEach [e] env = [(false, eval e env)] := by intro _; rfl) (hns : NoSl a := by exact fun _ _ => rfl) (hd : (x == ("__debug__" : Str)) = false := by decide) (hcd : (x == ("__classdict__" : Str)) = false := by decide) :
    JS c Γ Γ Γl (.Expr (.Call (.Attribute (.Subscript (.Name x p1) a p4) "append" p2) [e] [] p3) pos) (dappS i fa f) := by
  obtain ⟨t, h1, h2⟩ := he
  obtain ⟨ta, a1, a2⟩ := ha
  refine ⟨tDrop (tBM c.W.K "list" rAppend (tDGet (tVar i) ta) (tCons t tNil)), fun X hX => ?_, fun B ρ s σ Hf H D V p => ?_⟩
  · have q := pe_bm1 (X := X) (cpos := p3) (apos := p2) PySem.F.plainAttrs_list PySem.F.slot_list_append PySem.F.type_list_append (mt_append (X := X)) (pe_dget (pos := p4) hX.u1 (pe_var (i := i) (x := x) (pos := p1) (by rw [hX.N]; exact hN) (hX.vis hv) hd hcd) (a1 X hX) hns) (h1 X hX) (fun _ => rfl) hst hline
    rw [hX.K] at q
    exact ps_expr q
  · unfold dappS at p
    rw [post_bind] at p
    obtain ⟨d0, e0, p⟩ := post_slot p
    rw [post_bind] at p
    obtain ⟨l, rfl, pp⟩ := post_asDct p
    rw [post_bind] at pp
    obtain ⟨ow, g1, g2⟩ := V.own
    obtain ⟨v, e1, z⟩ := g1 i _ e0
    rw [hΓ] at z
    obtain ⟨q, qs, ds, b1, b2, b3, b4, b5, b6, b7⟩ := z
    subst b1
    cases b2
    refine ⟨.ref q, e1, ?_⟩
    refine a2 B ρ s σ Hf H _ V (pp.imp (fun kd s1 p1 v1 Hf1 H1 x1 r1 => ?_) fun _ _ _ z => z)
    rw [post_bind, post_opt] at p1
    obtain ⟨k, hk, p1⟩ := p1
    have ek := asKey_v hk r1
    subst ek
    rw [post_bind, post_opt] at p1
    obtain ⟨m, hm, p1⟩ := p1
    rw [post_bind] at p1
    obtain ⟨ml, rfl, p2'⟩ := post_asLst p1
    rw [post_bind] at p2'
    obtain ⟨r, l', c1, c2, c3, c4, xs, c5, c6, c7⟩ := odl_val (F := fun q z => ow q = some i ∧ ∃ xs, H q = some (.lst xs) ∧ xs.length ≤ sizeLine ∧ AtAll c.W Hf xs z) b7 hm
    cases c1
    have hq1 : H1 q = some (.dK (qs.map fun z => (z.1, .ref z.2))) := x1.old _ _ (g2 _ _ b3).2.1 b4
    have hr1 : H1 r = some (.lst xs) := x1.old _ _ (g2 _ _ c4).2.1 c5
    refine ⟨q, .ref r, rfl, by rw [← c2]; exact DGet.k hq1, .inl ⟨rfl, _, SqL.of hr1⟩, h2 B ρ s1 σ Hf1 H1 _ (V.ext' x1) (p2'.imp (fun d s2 p3' v2 Hf2 H2 x2 r2 => ?_) fun _ _ _ z => z)⟩
    have x12 := x1.trans x2
    obtain ⟨k1, k2⟩ := own_ext (s := s) x12 g1 g2
    have hr2 : H2 r = some (.lst xs) := x12.old _ _ (g2 _ _ c4).2.1 c5
    have hq2 : H2 q = some (.dK (qs.map fun z => (z.1, .ref z.2))) := x12.old _ _ (g2 _ _ b3).2.1 b4
    by_cases hlt : ml.length < sizeLine
    · rw [if_pos hlt] at p3'
      have hz : xs.length < sizeLine := by rw [c7.len]; exact hlt
      refine ⟨r, xs, v2, rfl, rfl, hr2, hz, ?_⟩
      have ndq := List.nodup_cons.mp b6
      obtain ⟨ds', u1, u2⟩ := odl_upd (F := fun q z => ow q = some i ∧ ∃ xs, H q = some (.lst xs) ∧ xs.length ≤ sizeLine ∧ AtAll c.W Hf xs z) (G := fun q z => ow q = some i ∧ ∃ ys, upd H2 r (.lst (xs ++ [v2])) q = some (.lst ys) ∧ ys.length ≤ sizeLine ∧ AtAll c.W Hf2 ys z) (l' := ml ++ [d]) ndq.2 b7 c2
        (fun q' z hne ⟨w1, ys, w2, w3, w4⟩ => ⟨w1, ys, by rw [upd_ne hne]; exact x12.old _ _ (g2 _ _ w1).2.1 w2, w3, w4.mono x12.ff⟩) ⟨c4, xs ++ [v2], upd_same, by rw [List.length_append]; simp; omega, (c7.mono x12.ff).append (.cons r2 .nil)⟩
      rw [u1] at p3'
      have ne : q ≠ r := fun e => ndq.1 (by rw [e]; exact c3)
      exact p3' _ _ _ ((V.ext' x12).turn k1 k2 e1 hΓ c4 ⟨q, qs, ds', rfl, rfl, b3, by rw [upd_ne ne]; exact hq2, b5, b6, u2⟩)
    · rw [if_neg hlt] at p3'; exact p3'.elim
end
end VL
namespace VL
open PySem PySem.Spec PyProof.Rows L2
def envS (sc : Scope) : Env := { (default : Env) with scope := sc }
theorem swapped_env (ts : List Expr) (v : Expr) (env : Env) : swappedStores ts v env = swappedStores ts v (envS env.scope) := by
  unfold swappedStores envS Env.blockKind Env.kindOf
  rfl
theorem swaps_env (v : Expr) (t : Option Expr) (l : Nat) (env : Env) : swapsWith v t l env = swapsWith v t l (envS env.scope) := by
  unfold swapsWith envS Env.blockKind Env.kindOf
  rfl
section
variable {c : Ctx} {W : Wd} {E : XK} {Γ Γ' Γ'' Γl : Gam} {e a b d' o : Expr} {f fa fb fc fo : Rho → M D} {pos : Pos} {Hf H : Hp} {st : Stmt} {sts rest : List Stmt}
theorem Is.sws {X : Cx} (h : Is c X) {ts : List Expr} {v : Expr} {r : Sem (Option (List Str))} (q : swappedStores ts v (envS c.sc) = r) : swappedStores ts v X.env = r := by
  rw [swapped_env, h.sc]; exact q
theorem Is.swp {X : Cx} (h : Is c X) {t : Option Expr} {v : Expr} {l : Nat} {r : Sem Bool} (q : swapsWith v t l (envS c.sc) = r) : swapsWith v t l X.env = r := by
  rw [swaps_env, h.sc]; exact q
def parS (i j : Nat) (fa fb : Rho → M D) : Rho → M Fl := fun ρ => do
  let d ← fa ρ
  let e ← fb ρ
  pure (.nx ((ρ.set i (some d)).set j (some e)))
def parS3 (i j l : Nat) (fa fb fc : Rho → M D) : Rho → M Fl := fun ρ => do
  let d ← fa ρ
  let e ← fb ρ
  let z ← fc ρ
  pure (.nx (((ρ.set i (some d)).set j (some e)).set l (some z)))
theorem js_par (i j : Nat) {x y : Str} {px py pt pt2 : Pos} {kt k2} {R1 R2 : Wd → Res} {k1 k2' : Own} (ha : JX c R1 Γ a fa) (hb : JX c R2 Γ b fb) (f1 : ∀ W, Fits W (R1 W) k1) (f2 : ∀ W, Fits W (R2 W) k2') (hi : c.N[i]? = some x) (hj : c.N[j]? = some y) (hij : i ≠ j := by decide)
    (hx : c.sc.names.lookup x = some .local) (hy : c.sc.names.lookup y = some .local) (hw : swappedStores [.Tuple [.Name x px, .Name y py] kt pt] (.Tuple [a, b] k2 pt2) (envS c.sc) = pure (some [x, y]))
    (gi : i < Γ.length := by decide) (gj : j < Γ.length := by decide) (hs : ∀ env, swapsWithSole [.Tuple [.Name x px, .Name y py] kt pt] (.Tuple [a, b] k2 pt2) pos.line env = pure false := by intro _; rfl) (s1 : ∀ env, starEach [a, b] env = (false, eval a env) :: starEach [b] env := by intro _; rfl) (s2 : ∀ env, starEach [b] env = (false, eval b env) :: starEach [] env := by intro _; rfl) :
    JS c Γ ((Γ.set i k1).set j k2') Γl (.Assign [.Tuple [.Name x px, .Name y py] kt pt] (.Tuple [a, b] k2 pt2) pos) (parS i j fa fb) := by
  obtain ⟨ta, a1, a2⟩ := ha
  obtain ⟨tb, b1, b2⟩ := hb
  refine ⟨tPar i j (tCons ta (tCons tb tNil)), fun X hX => ps_par hX.calm hX.nd (by rw [hX.N]; exact hi) (by rw [hX.N]; exact hj) hij (by rw [hX.sc]; exact hx) (by rw [hX.sc]; exact hy) (pa_cons (a1 X hX) (pa_cons (b1 X hX) pa_nil (s2 _)) (s1 _)) (hX.sws hw) (hs _), fun B ρ s σ Hf H D V p => ?_⟩
  unfold parS at p
  rw [post_bind] at p
  refine a2 B ρ s σ Hf H _ V (p.imp (fun d s1 p1 v Hf1 H1 x1 r1 => ?_) fun _ _ _ z => z)
  rw [post_bind] at p1
  refine b2 B ρ s1 σ Hf1 H1 _ (V.ext' x1) (p1.imp (fun e s2 p2 w Hf2 H2 x2 r2 => ?_) fun _ _ _ z => z)
  exact ⟨v, w, rfl, p2 _ _ _ ((V.put x1 (f1 _) r1 gi).put x2 (f2 _) r2 (by rw [List.length_set]; exact gj))⟩
theorem js_parT (i j : Nat) {x y : Str} {px py pt pt2 : Pos} {kt k2} {R1 R2 : Wd → Res} {k1 k2' : Own} (ha : JX c R1 Γ a fa) (hb : JX c R2 Γ b fb) (f1 : ∀ W, Fits W (R1 W) k1) (f2 : ∀ W, Fits W (R2 W) k2') (hi : c.N[i]? = some x) (hj : c.N[j]? = some y)
    (hx : Loc c.sc x) (hy : Loc c.sc y) (hw : swappedStores [.Tuple [.Name x px, .Name y py] kt pt] (.Tuple [a, b] k2 pt2) (envS c.sc) = pure none)
    (gi : i < Γ.length := by decide) (gj : j < Γ.length := by decide) (hs : ∀ env, swapsWithSole [.Tuple [.Name x px, .Name y py] kt pt] (.Tuple [a, b] k2 pt2) pos.line env = pure false := by intro _; rfl) (s1 : ∀ env, starEach [a, b] env = (false, eval a env) :: starEach [b] env := by intro _; rfl) (s2 : ∀ env, starEach [b] env = (false, eval b env) :: starEach [] env := by intro _; rfl)
    (hfx : c.fnf x = true ∨ c.sc.names.lookup x = some .local := by first | exact .inl rfl | exact .inr rfl) (hfy : c.fnf y = true ∨ c.sc.names.lookup y = some .local := by first | exact .inl rfl | exact .inr rfl) :
    JS c Γ ((Γ.set i k1).set j k2') Γl (.Assign [.Tuple [.Name x px, .Name y py] kt pt] (.Tuple [a, b] k2 pt2) pos) (parS i j fa fb) := by
  obtain ⟨ta, a1, a2⟩ := ha
  obtain ⟨tb, b1, b2⟩ := hb
  refine ⟨tAsg (tTup (tCons ta (tCons tb tNil))) (gTup c.W.K 2 (gCons (gName i) (gCons (gName j) gNil))), fun X hX => ?_, fun B ρ s σ Hf H D V p => ?_⟩
  · have q := ps_asg (X := X) (pos := pos) (pe_tup (pos := pt2) (x1 := k2) (pa_cons (a1 X hX) (pa_cons (b1 X hX) pa_nil (s2 _)) (s1 _))) (pg_tup (k := kt) (pos := pt) (n := 2) hX.calm (pgs_cons (pg_name (X := X) (pos := px) (i := i) (x := x) hX.nd (by rw [hX.N]; exact hi) (by rw [hX.sc]; exact hx) (by rw [hX.fn, hX.sc]; exact hfx)) (pgs_cons (pg_name (X := X) (pos := py) (i := j) (x := y) hX.nd (by rw [hX.N]; exact hj) (by rw [hX.sc]; exact hy) (by rw [hX.fn, hX.sc]; exact hfy)) pgs_nil)) rfl rfl) (hs _) (hX.sws hw)
    rw [hX.K] at q
    exact q
  · unfold parS at p
    rw [post_bind] at p
    refine a2 B ρ s σ Hf H _ V (p.imp (fun d s1 p1 v Hf1 H1 x1 r1 => ?_) fun _ _ _ z => z)
    rw [post_bind] at p1
    refine b2 B ρ s1 σ Hf1 H1 _ (V.ext' x1) (p1.imp (fun e s2 p2 w Hf2 H2 x2 r2 => ?_) fun _ _ _ z => z)
    refine ⟨by show 2 ≤ sizeLine; decide, fun q hq => ?_⟩
    have V2 := ((V.put x1 (f1 _) r1 gi).put x2 (f2 _) r2 (by rw [List.length_set]; exact gj))
    obtain ⟨y, _, _⟩ := x2.newU (o := .tup [v, w]) hq
    exact ⟨q, [v, w], rfl, .inl (.inl upd_same), rfl, v, [w], rfl, w, [], rfl, rfl, p2 _ _ _ (V2.ext' y)⟩
theorem js_par3 (i j l : Nat) {x y z : Str} {px py pz pt pt2 : Pos} {kt k2} {R1 R2 R3 : Wd → Res} {k1 k2' k3 : Own} (ha : JX c R1 Γ a fa) (hb : JX c R2 Γ b fb) (hc : JX c R3 Γ d' fc) (f1 : ∀ W, Fits W (R1 W) k1) (f2 : ∀ W, Fits W (R2 W) k2') (f3 : ∀ W, Fits W (R3 W) k3) (hi : c.N[i]? = some x) (hj : c.N[j]? = some y) (hl : c.N[l]? = some z) (hij : i ≠ j := by decide) (hil : i ≠ l := by decide) (hjl : j ≠ l := by decide)
    (hx : c.sc.names.lookup x = some .local) (hy : c.sc.names.lookup y = some .local) (hz : c.sc.names.lookup z = some .local) (hw : swappedStores [.Tuple [.Name x px, .Name y py, .Name z pz] kt pt] (.Tuple [a, b, d'] k2 pt2) (envS c.sc) = pure (some [x, y, z]))
    (gi : i < Γ.length := by decide) (gj : j < Γ.length := by decide) (gl : l < Γ.length := by decide) (hs : ∀ env, swapsWithSole [.Tuple [.Name x px, .Name y py, .Name z pz] kt pt] (.Tuple [a, b, d'] k2 pt2) pos.line env = pure false := by intro _; rfl) (s1 : ∀ env, starEach [a, b, d'] env = (false, eval a env) :: starEach [b, d'] env := by intro _; rfl) (s2 : ∀ env, starEach [b, d'] env = (false, eval b env) :: starEach [d'] env := by intro _; rfl) (s3 : ∀ env, starEach [d'] env = (false, eval d' env) :: starEach [] env := by intro _; rfl) :
    JS c Γ (((Γ.set i k1).set j k2').set l k3) Γl (.Assign [.Tuple [.Name x px, .Name y py, .Name z pz] kt pt] (.Tuple [a, b, d'] k2 pt2) pos) (parS3 i j l fa fb fc) := by
  obtain ⟨ta, a1, a2⟩ := ha
  obtain ⟨tb, b1, b2⟩ := hb
  obtain ⟨tc, c1, c2⟩ := hc
  refine ⟨tPar3 i j l (tCons ta (tCons tb (tCons tc tNil))), fun X hX => ps_par3 hX.calm hX.nd (by rw [hX.N]; exact hi) (by rw [hX.N]; exact hj) (by rw [hX.N]; exact hl) hij hil hjl (by rw [hX.sc]; exact hx) (by rw [hX.sc]; exact hy) (by rw [hX.sc]; exact hz) (pa_cons (a1 X hX) (pa_cons (b1 X hX) (pa_cons (c1 X hX) pa_nil (s3 _)) (s2 _)) (s1 _)) (hX.sws hw) (hs _), fun B ρ s σ Hf H D V p => ?_⟩
  unfold parS3 at p
  rw [post_bind] at p
  refine a2 B ρ s σ Hf H _ V (p.imp (fun d s1 p1 v Hf1 H1 x1 r1 => ?_) fun _ _ _ z => z)
  rw [post_bind] at p1
  refine b2 B ρ s1 σ Hf1 H1 _ (V.ext' x1) (p1.imp (fun e s2 p2 w Hf2 H2 x2 r2 => ?_) fun _ _ _ z => z)
  rw [post_bind] at p2
  refine c2 B ρ s2 σ Hf2 H2 _ ((V.ext' x1).ext' x2) (p2.imp (fun g s3 p3 u Hf3 H3 x3 r3 => ?_) fun _ _ _ z => z)
  exact ⟨v, w, u, rfl, p3 _ _ _ (((V.put x1 (f1 _) r1 gi).put x2 (f2 _) r2 (by rw [List.length_set]; exact gj)).put x3 (f3 _) r3 (by rw [List.length_set, List.length_set]; exact gl))⟩
def tgtS (g : D → Rho → Option Rho) (f : Rho → M D) : Rho → M Fl := fun ρ => do
  let d ← f ρ
  let ρ' ← opt (g d ρ)
  pure (.nx ρ')
theorem js_tgt {is : List Nat} {tg : Expr} {g : D → Rho → Option Rho} (he : JE c Γ e f) (hg : JG c Γ is tg g) (hs : ∀ env, swapsWithSole [tg] e pos.line env = pure false := by intro _; rfl) (hw : swappedStores [tg] e (envS c.sc) = pure none := by rfl) (h1 : ∀ env, (assignEach [tg] env).map (·.2) = [assign tg env] := by intro _; rfl) : JS c Γ Γ Γl (.Assign [tg] e pos) (tgtS g f) := by
  obtain ⟨t, a1, a2⟩ := he
  obtain ⟨gt, b1, b2⟩ := hg
  refine ⟨tAsg t gt, fun X hX => ps_asg (a1 X hX) (b1 X hX) (hs _) (hX.sws hw) (h1 _), fun B ρ s σ Hf H D V p => ?_⟩
  unfold tgtS at p
  rw [post_bind] at p
  refine a2 B ρ s σ Hf H _ V (p.imp (fun d s1 p1 v Hf1 H1 x1 r1 => ?_) fun _ _ _ z => z)
  rw [post_bind, post_opt] at p1
  obtain ⟨ρ', hρ, p1⟩ := p1
  exact b2 B ρ s1 σ Hf1 H1 v d ρ' _ (V.ext' x1) r1 hρ fun σ' V' _ => p1 _ _ _ V'
def potAt (s : Pot) (k : Int) : Option Int := if k = 0 then some s.1 else if k = 1 then some s.2.1 else if k = 2 then some s.2.2 else none
def potR (k : Int) : M D := fun s => match potAt s k with
  | some z => .ok (.int z) s
  | none => .fail
def potGet (fa fb : Rho → M D) : Rho → M D := fun ρ => do
  let d ← fa ρ
  let e ← fb ρ
  match d, e with
  | .pot, .int k => potR k
  | _, _ => nope
theorem je_potGet (ha : JE c Γ a fa) (hb : JE c Γ b fb) (hs : PlainIx b := by exact fun _ _ => rfl) : JE c Γ (.Subscript a b pos) (potGet fa fb) := by
  obtain ⟨ta, a1, a2⟩ := ha
  obtain ⟨tb, b1, b2⟩ := hb
  refine ⟨tOp (rIx c.W.K) ta tb, fun X h => ?_, fun B ρ s σ Hf H Q V p => ?_⟩
  · have q := ix_seq (X := X)
    rw [h.K] at q
    exact pe_ix q (a1 X h) (b1 X h) hs
  · unfold potGet at p
    rw [post_bind] at p
    refine a2 B ρ s σ Hf H _ V (p.imp (fun d s1 p1 v Hf1 H1 x1 r1 => ?_) fun _ _ _ z => z)
    rw [post_bind] at p1
    refine b2 B ρ s1 σ Hf1 H1 _ (V.ext' x1) (p1.imp (fun e s2 p2 w Hf2 H2 x2 r2 => ?_) fun _ _ _ z => z)
    cases d with
    | pot =>
      cases e with
      | int k =>
        cases r1
        cases r2
        have p2 : Post _ _ (potR k s2) := p2
        unfold potR at p2
        cases q : potAt s2 k with
        | none => rw [q] at p2; exact p2.elim
        | some z =>
          rw [q] at p2
          refine .inl ⟨c.P, _, k, .int z, rfl, rfl, SqL.of x2.pot, ?_, p2 _ _ _ (x1.trans x2) (.int z)⟩
          unfold potAt at q
          split at q
          · rename_i hk; subst hk; cases q; rfl
          · split at q
            · rename_i hk; subst hk; cases q; rfl
            · split at q
              · rename_i hk; subst hk; cases q; rfl
              · cases q
      | _ => exact p2.elim
    | _ => exact p2.elim
def potPut (s : Pot) (k z : Int) : Option Pot := if k = 0 then some (z, s.2.1, s.2.2) else if k = 1 then some (s.1, z, s.2.2) else if k = 2 then some (s.1, s.2.1, z) else none
def potW (k z : Int) (ρ : Rho) : M Fl := fun s => match potPut s k z with
  | some s' => .ok (.nx ρ) s'
  | none => .fail
def potSet (fa fb fe : Rho → M D) : Rho → M Fl := fun ρ => do
  let x ← fe ρ
  let d ← fa ρ
  let e ← fb ρ
  match d, e, x with
  | .pot, .int k, .int z => potW k z ρ
  | _, _, _ => nope
theorem EnvAt.pot {B : Hp × Hp} {ρ : Rho} {s s' : Pot} {σ : L2.St} (V : EnvAt W B Γ ρ s σ Hf H) : EnvAt W B Γ ρ s' σ Hf (upd H W.P (potO s')) := by
  have x : Ext W Hf H Hf (upd H W.P (potO s')) s' := by
    refine ⟨Same.refl _, fun b o e => ?_, V.ext.potF, upd_same, fun b o hb e => ?_, fun b o e n => n⟩
    · rw [upd_ne (fun z => by rw [z, V.ext.potF] at e; cases e)]; exact V.ext.fh _ _ e
    · rw [upd_ne hb]; exact e
  exact V.ext' x
theorem js_potSet {p2 : Pos} (he : JE c Γ e f) (ha : JE c Γ a fa) (hb : JE c Γ b fb) (hs : ∀ env, swapsWithSole [.Subscript a b p2] e pos.line env = pure false := by intro _; rfl) (hw : swappedStores [.Subscript a b p2] e (envS c.sc) = pure none := by rfl) (h1 : ∀ env, (assignEach [.Subscript a b p2] env).map (·.2) = [assign (.Subscript a b p2) env] := by intro _; rfl)
    (hq : ∀ env v, assign (.Subscript a b p2) env v = (do
      let ov ← holding [v] (eval a env)
      let iv ← holding [v, ov] (eval b env)
      standAt p2
      holding [v, ov, iv] (setItem ov iv v)
      release [v, ov, iv] []) := by intro _ _; rfl) : JS c Γ Γ Γl (.Assign [.Subscript a b p2] e pos) (potSet fa fb f) := by
  obtain ⟨t, e1, e2⟩ := he
  obtain ⟨ta, a1, a2⟩ := ha
  obtain ⟨tb, b1, b2⟩ := hb
  refine ⟨tAsg t (gSub ta tb rSetL), fun X hX => ps_asg (e1 X hX) (pg_sub (a1 X hX) (b1 X hX) set_list (hq _)) (hs _) (hX.sws hw) (h1 _), fun B ρ s σ Hf H D V p => ?_⟩
  unfold potSet at p
  rw [post_bind] at p
  refine e2 B ρ s σ Hf H _ V (p.imp (fun x s0 p0 u Hf0 H0 x0 r0 => ?_) fun _ _ _ z => z)
  rw [post_bind] at p0
  refine a2 B ρ s0 σ Hf0 H0 _ (V.ext' x0) (p0.imp (fun d s1 p1 v Hf1 H1 x1 r1 => ?_) fun _ _ _ z => z)
  rw [post_bind] at p1
  refine b2 B ρ s1 σ Hf1 H1 _ ((V.ext' x0).ext' x1) (p1.imp (fun e s2 p2 w Hf2 H2 x2 r2 => ?_) fun _ _ _ z => z)
  cases d with
  | pot =>
    cases e with
    | int k =>
      cases x with
      | int z =>
        cases r0
        cases r1
        cases r2
        have p2 : Post _ _ (potW k z ρ s2) := p2
        unfold potW at p2
        cases q : potPut s2 k z with
        | none => rw [q] at p2; exact p2.elim
        | some s' =>
          rw [q] at p2
          have fin := p2 σ Hf2 _ (((V.ext' x0).ext' x1).ext' x2).pot
          unfold potPut at q
          split at q
          · rename_i hk; subst hk; cases q; exact ⟨c.P, _, 0, 0, rfl, rfl, x2.pot, rfl, fin⟩
          · split at q
            · rename_i hk; subst hk; cases q; exact ⟨c.P, _, 1, 1, rfl, rfl, x2.pot, rfl, fin⟩
            · split at q
              · rename_i hk; subst hk; cases q; exact ⟨c.P, _, 2, 2, rfl, rfl, x2.pot, rfl, fin⟩
              · cases q
      | _ => exact p2.elim
    | _ => exact p2.elim
  | _ => exact p2.elim
end
end VL
namespace VL
open PySem PySem.Spec PyProof.Rows L2
def spOf (K : PySem.W.Frag) (cls : Nat → Addr) (n : Nat) (F : List D → M D) : Sp := fun vs H Q E => vs.length = n ∧ ∃ (P : Addr) (Hf : Hp) (ds : List D) (s : Pot), Ext ⟨K, cls, P⟩ Hf H Hf H s ∧ AtAll ⟨K, cls, P⟩ Hf vs ds ∧
  Post (fun d s' => ∀ v Hf' H', Ext ⟨K, cls, P⟩ Hf H Hf' H' s' → At ⟨K, cls, P⟩ Hf' v d → Q v H') (ErrOk ⟨K, cls, P⟩ (Hf, H) E) (F ds s)
def endD (z : Fl) : M D := match z with
  | .rt d => pure d
  | .nx _ => pure .non
  | _ => nope
def rho0 (n : Nat) (ds : List D) : Rho := ds.map some ++ List.replicate (n - ds.length) none
def runD (n : Nat) (body : Rho → M Fl) : List D → M D := fun ds => do
  let z ← body (rho0 n ds)
  endD z
abbrev gam0 (n : Nat) : Gam := List.replicate n .sh
abbrev ctxB (g : Bool) (G : Glob) (N : List Str) (sc : Scope) (k : Nat) (P : Addr) (E : XK) : Ctx := ⟨G, N, sc, k, P, E, fun _ => true, g⟩
abbrev ctxOf (G : Glob) (N : List Str) (sc : Scope) (k : Nat) (P : Addr) (E : XK) : Ctx := ctxB false G N sc k P E
theorem getD_rep {n i : Nat} : (gam0 n).getD i .sh = .sh := by
  rw [List.getD_eq_getElem?_getD]
  cases h : (gam0 n)[i]? with
  | none => rfl
  | some o =>
    have := List.mem_of_getElem? h
    rw [List.eq_of_mem_replicate this]; rfl
theorem is_defB {g : Bool} {G : Glob} {N ps : List Str} {qual : Str} {sc : Scope} {k : Nat} {P f : Addr} {cdv : Value} {A : Around} {outer : List Env} {s : Shared} {H : Hp} {E : XK} (S : FnScope N ps sc) (hr : Room k (A.deeper (envOfC qual sc s.heap.objs.size f cdv))) (hg : g = true → A.guards = some []) : Is (ctxB g G N sc k P E) (cxOf (L2.CX G.prog G.w) G.prog G.w G.K G.mg G.base N qual sc f cdv A outer s H E) where
  prog := rfl
  w := rfl
  K := rfl
  mg := rfl
  base := rfl
  N := rfl
  sc := rfl
  room := hr
  calm := rfl
  nd := S.nd
  fn := rfl
  pass := passes_call (takes_of rfl rfl rfl rfl) fun _ _ _ _ h => h
  own := passes_of rfl
  kind := S.kind
  gd := hg
theorem is_def {G : Glob} {N ps : List Str} {qual : Str} {sc : Scope} {k : Nat} {P f : Addr} {cdv : Value} {A : Around} {outer : List Env} {s : Shared} {H : Hp} {E : XK} (S : FnScope N ps sc) (hr : Room k (A.deeper (envOfC qual sc s.heap.objs.size f cdv))) : Is (ctxOf G N sc k P E) (cxOf (L2.CX G.prog G.w) G.prog G.w G.K G.mg G.base N qual sc f cdv A outer s H E) := is_defB S hr fun h => by cases h
theorem env_start {W : Wd} {Hf H : Hp} {s : Pot} {N : List Str} {vs : List V} {ds : List D} (x : Ext W Hf H Hf H s) (ha : AtAll W Hf vs ds) (hl : vs.length ≤ N.length) : EnvAt W (Hf, H) (gam0 N.length) (rho0 N.length ds) s (L2.start N vs) Hf H := by
  have e := ha.len
  refine ⟨x, by simp [L2.start, rho0, e], fun _ => none, fun i d h => ?_, fun q i h => by cases h⟩
  have hi : i < ds.length := by
    by_cases hi : i < ds.length
    · exact hi
    · rw [rho0, List.getElem?_append_right (by simpa using hi)] at h
      have := List.mem_of_getElem? h
      have := List.eq_of_mem_replicate this
      cases this
  rw [rho0, List.getElem?_append_left (by simpa using hi), List.getElem?_map] at h
  have h' : ds[i]? = some d := by
    cases q : ds[i]? with
    | none => rw [q] at h; cases h
    | some d' => rw [q] at h; simpa using h
  obtain ⟨v, hv, a⟩ := ha.get' h'
  refine ⟨v, ?_, ?_⟩
  · rw [L2.start, List.getElem?_append_left (by simp; omega), List.getElem?_map, hv]; rfl
  · rw [getD_rep]; exact a
structure FnI (G : Glob) (x : Str) (lvl n : Nat) (dd : List D) (F : List D → M D) : Prop where
  ex : ∃ (f : Addr) (fd : FuncData) (ps : List Str) (dvs : List V) (ds : List Value), G.mg x = some (.ref f) ∧ PySem.W.keepIn G.K (.ref f) = true ∧ ps.length = n ∧ FnOk G.prog G.w G.K G.mg G.base (L2.CX G.prog G.w) lvl f fd ps (spOf G.K G.cls n F) ∧ Binds G.K fd ps ds ∧ Vals dvs ds ∧ (∀ P H, AtAll ⟨G.K, G.cls, P⟩ H dvs dd)
section
variable {c : Ctx} {W : Wd} {E : XK} {Γ Γ' Γ'' Γl : Gam} {e a b d' o : Expr} {f fa fb fc fo : Rho → M D} {pos : Pos} {Hf H : Hp}
def callN (n : Nat) (F : List D → M D) (ds : List D) : M D := if ds.length = n then F ds else nope
def fnF (n : Nat) (F : List D → M D) (dd : List D) (fs : Rho → M (List D)) : Rho → M D := fun ρ => do
  let ds ← fs ρ
  callN n F (ds ++ dd)
theorem post_callN {n : Nat} {F : List D → M D} {ds : List D} {A : D → Pot → Prop} {B : Nat → D → Pot → Prop} {s : Pot} (h : Post A B (callN n F ds s)) : ds.length = n ∧ Post A B (F ds s) := by
  unfold callN at h
  split at h
  · exact ⟨by assumption, h⟩
  · exact h.elim
theorem ErrOk.back {B : Hp × Hp} {Hf1 H1 : Hp} {s1 s : Pot} {n : Nat} {v : D} (x : Ext W B.1 B.2 Hf1 H1 s1) (h : ErrOk W B E n v s) : ErrOk W (Hf1, H1) E n v s := fun dx u Hf' H' y => h dx u Hf' H' (x.trans y)
theorem je_call {x : Str} {lvl n : Nat} {dd : List D} {F : List D → M D} {es : List Expr} {fs : Rho → M (List D)} {p : Pos} (T : FnI c.G x lvl n dd F) (hl : lvl ≤ c.k) (ha : JA c Γ (e :: es) fs) (hg : c.sc.names.lookup x = some .globalImplicit)
    (he : ∀ env, starEach (e :: es) env = (false, eval e env) :: starEach es env := by intro _; rfl) (hpl : ∀ env, (backTo pos (starEach es env)).any (·.1) = false := by intro _; rfl) (hd : (x == ("__debug__" : Str)) = false := by decide) : JE c Γ (.Call (.Name x p) (e :: es) [] pos) (fnF n F dd fs) := by
  obtain ⟨f, fd, ps, dvs, ds, hm, hk, hps, hF, hb, hv, hat⟩ := T.ex
  obtain ⟨t, h1, h2⟩ := ha
  refine ⟨tCall (spOf c.G.K c.G.cls n F) dvs c.E t, fun X hX => ?_, fun B ρ s σ Hf H Q V p => ?_⟩
  · have hF' : FnOk X.prog X.w X.K X.mg X.base (L2.CX X.prog X.w) lvl f fd ps (spOf c.G.K c.G.cls n F) := by
      rw [hX.prog, hX.w, hX.K, hX.mg, hX.base]; exact hF
    exact pe_call hF' (hX.room.mono hl) (hX.gl hg) (by rw [hX.mg]; exact hm) (by rw [hX.K]; exact hk) (by rw [hX.K]; exact hb) hv hX.pass (h1 X hX) hd (he _) (hpl _)
  · unfold fnF at p
    rw [post_bind] at p
    refine h2 B ρ s σ Hf H _ V (p.imp (fun l s1 p1 vs Hf1 H1 x1 r1 => ?_) fun _ _ _ z => z)
    obtain ⟨hl, p2⟩ := post_callN p1
    have ra := r1.append (hat c.P Hf1)
    refine ⟨by rw [ra.len]; exact hl, c.P, Hf1, l ++ dd, s1, x1.refl, ra, ?_⟩
    exact p2.imp (fun d s2 k v Hf2 H2 x2 a2 => k v Hf2 H2 (x1.trans x2) a2) fun n v s2 z => z.back (V.ext.trans x1)
def fldF (ci i : Nat) (f : Rho → M D) : Rho → M D := fun ρ => do
  let d ← f ρ
  match d with
  | .obj c l => if c = ci then opt l[i]? else nope
  | _ => nope
theorem je_fld {ci i : Nat} {p : Addr} {fl : Str} (ha : JE c Γ o fo) (hc : SlX.SCls c.G.K (c.G.cls ci)) (hs : SlX.Slot1 c.G.K (c.G.cls ci) fl p i) (hb : ∀ env, attributeBase o fl env (eval o env) = eval o env := by intro _; rfl) : JE c Γ (.Attribute o fl pos) (fldF ci i fo) := by
  obtain ⟨t, h1, h2⟩ := ha
  refine ⟨SlX.tSl c.W.K t fl, fun X hX => ?_, fun B ρ s σ Hf H Q V p' => ?_⟩
  · have q := SlX.pe_sl (pos := pos) (f := fl) (h1 X hX) (hb _)
    rw [hX.K] at q; exact q
  · unfold fldF at p'
    rw [post_bind] at p'
    refine h2 B ρ s σ Hf H _ V (p'.imp (fun d s1 p1 v Hf1 H1 x1 r1 => ?_) fun _ _ _ z => z)
    cases r1 with
    | obj g1 g2 =>
      rename_i a dx c' xs ds
      have p1 : Post _ _ ((if c' = ci then opt ds[i]? else nope : M D) s1) := p1
      by_cases e : c' = ci
      · subst e
        rw [if_pos rfl, post_opt] at p1
        obtain ⟨z, hz, k⟩ := p1
        obtain ⟨w, hw, aw⟩ := g2.get' hz
        exact ⟨a, _, dx, p, _, i, w, rfl, Same.slt x1.fh g1, hc, hs, by rw [List.getElem?_map, hw]; rfl, k w Hf1 H1 x1 aw⟩
      · rw [if_neg e] at p1; exact p1.elim
    | _ => exact p1.elim
structure PropI (G : Glob) (ci : Nat) (m : Str) (lvl : Nat) (F : List D → M D) : Prop where
  sc : SlX.SCls G.K (G.cls ci)
  ex : ∃ p g, PySem.W.findIn G.K (.ref (G.cls ci)) m = some (some (.ref p)) ∧ PySem.W.specialIn G.K (.ref p) "__get__" = some (some (.builtin "property.__get__")) ∧ PySem.W.takesIn G.K (.ref p) = some true ∧ (∃ rest, PySem.W.recIn G.K p "property" = some (.ref g :: rest)) ∧
    FnR G.prog G.w G.K G.mg G.base (L2.CX G.prog G.w) lvl g (spOf G.K G.cls 1 F)
def propF (ci : Nat) (F : List D → M D) (f : Rho → M D) : Rho → M D := fun ρ => do
  let d ← f ρ
  match d with
  | .obj c l => if c = ci then noE (F [.obj c l]) else nope
  | _ => nope
theorem je_prop {ci lvl : Nat} {m : Str} {F : List D → M D} (T : PropI c.G ci m lvl F) (hl : lvl + 1 ≤ c.k) (ha : JE c Γ o fo) (hb : ∀ env, attributeBase o m env (eval o env) = eval o env := by intro _; rfl) : JE c Γ (.Attribute o m pos) (propF ci F fo) := by
  obtain ⟨p, g, t1, t2, t3, t4, hF⟩ := T.ex
  obtain ⟨t, h1, h2⟩ := ha
  refine ⟨SlX.tPropSl (c.G.cls ci) (spOf c.G.K c.G.cls 1 F) (fun _ _ _ => False) t, fun X hX => ?_, fun B ρ s σ Hf H Q V p' => ?_⟩
  · have hF' : FnR X.prog X.w X.K X.mg X.base (L2.CX X.prog X.w) lvl g (spOf c.G.K c.G.cls 1 F) := by
      rw [hX.prog, hX.w, hX.K, hX.mg, hX.base]; exact hF
    exact SlX.pe_propSl (h1 X hX) (by rw [hX.K]; exact T.sc) (by rw [hX.K]; exact t1) (by rw [hX.K]; exact t2) (by rw [hX.K]; exact t3) (by rw [hX.K]; exact t4) hF' (hX.room.mono hl) (fun H s e s' z => by obtain ⟨_, _, _, _, _, _, _, _, _, _, _, _, z⟩ := z; exact z) (hb _)
  · unfold propF at p'
    rw [post_bind] at p'
    refine h2 B ρ s σ Hf H _ V (p'.imp (fun d s1 p1 v Hf1 H1 x1 r1 => ?_) fun _ _ _ z => z)
    have r1' := r1
    cases r1 with
    | obj g1 g2 =>
      rename_i a dx c' xs ds
      have p1 : Post _ _ ((if c' = ci then noE (F [.obj c' ds]) else nope : M D) s1) := p1
      by_cases e : c' = ci
      · subst e
        rw [if_pos rfl, post_noE] at p1
        refine ⟨a, dx, _, rfl, Same.slt x1.fh g1, rfl, c.P, Hf1, _, s1, x1.refl, .cons r1' .nil, ?_⟩
        exact p1.imp (fun d s2 k v Hf2 H2 x2 a2 => k v Hf2 H2 (x1.trans x2) a2) fun _ _ _ z => z.elim
      · rw [if_neg e] at p1; exact p1.elim
    | _ => exact p1.elim
structure MethI (G : Glob) (ci : Nat) (m : Str) (lvl n : Nat) (dd : List D) (F : List D → M D) : Prop where
  sc : SlX.SCls G.K (G.cls ci)
  ex : ∃ g dvs, Meth G.K (G.cls ci) m g ∧ FnR G.prog G.w G.K G.mg G.base (L2.CX G.prog G.w) lvl g (fun vs H Q E => spOf G.K G.cls n F (vs ++ dvs) H Q E) ∧ (∀ P H, AtAll ⟨G.K, G.cls, P⟩ H dvs dd)
def methF (ci n : Nat) (F : List D → M D) (dd : List D) (f : Rho → M D) (fs : Rho → M (List D)) : Rho → M D := fun ρ => do
  let d ← f ρ
  match d with
  | .obj c l => if c = ci then (fs ρ >>= fun ds => callN n F (.obj c l :: (ds ++ dd))) else nope
  | _ => nope
theorem je_meth {ci lvl n : Nat} {m : Str} {dd : List D} {F : List D → M D} {es : List Expr} {fs : Rho → M (List D)} {apos : Pos} (pl : Env → Sem Bool) (T : MethI c.G ci m lvl n dd F) (hl : lvl ≤ c.k) (ho : JE c Γ o fo) (ha : JA c Γ (e :: es) fs)
    (ht : ∀ env, eval (.Call (.Attribute o m apos) (e :: es) [] pos) env = (do
      let ov ← eval o env
      standAt apos.atName
      let (f, first) ← holding [ov] (getMethod ov m (pl env))
      callWith pos f first (backTo pos (starEach (e :: es) env)) (backToKw pos (keywordEach [] env))) := by intro _; rfl)
    (he : ∀ env, starEach (e :: es) env = (false, eval e env) :: starEach es env := by intro _; rfl) (hpl : ∀ env, (backTo pos (starEach es env)).any (·.1) = false := by intro _; rfl) : JE c Γ (.Call (.Attribute o m apos) (e :: es) [] pos) (methF ci n F dd fo fs) := by
  obtain ⟨g, dvs, hm, hF, hat⟩ := T.ex
  obtain ⟨t, h1, h2⟩ := ho
  obtain ⟨u, a1, a2⟩ := ha
  refine ⟨SlX.tMethSl (c.G.cls ci) (fun vs H Q E => spOf c.G.K c.G.cls n F (vs ++ dvs) H Q E) c.E t u, fun X hX => ?_, fun B ρ s σ Hf H Q V p' => ?_⟩
  · have hF' : FnR X.prog X.w X.K X.mg X.base (L2.CX X.prog X.w) lvl g (fun vs H Q E => spOf c.G.K c.G.cls n F (vs ++ dvs) H Q E) := by
      rw [hX.prog, hX.w, hX.K, hX.mg, hX.base]; exact hF
    exact SlX.pe_methSl (pl := pl X.env) (h1 X hX) (by rw [hX.K]; exact T.sc) (by rw [hX.K]; exact hm) hF' (hX.room.mono hl) hX.pass (a1 X hX) (he _) (hpl _) (ht _)
  · unfold methF at p'
    rw [post_bind] at p'
    refine h2 B ρ s σ Hf H _ V (p'.imp (fun d s1 p1 v Hf1 H1 x1 r1 => ?_) fun _ _ _ z => z)
    have r1' := r1
    cases r1 with
    | obj g1 g2 =>
      rename_i a dx c' xs ds
      have p1 : Post _ _ ((if c' = ci then (fs ρ >>= fun l => callN n F (.obj c' ds :: (l ++ dd))) else nope : M D) s1) := p1
      by_cases e : c' = ci
      · subst e
        rw [if_pos rfl, post_bind] at p1
        refine ⟨a, dx, _, rfl, Same.slt x1.fh g1, a2 B ρ s1 σ Hf1 H1 _ (V.ext' x1) (p1.imp (fun l s2 p2 vs Hf2 H2 x2 r2 => ?_) fun _ _ _ z => z)⟩
        obtain ⟨hl, p3⟩ := post_callN p2
        have ra : AtAll c.W Hf2 (L2.V.ref a :: (vs ++ dvs)) (.obj c' ds :: (l ++ dd)) := .cons (At.mono x2.ff r1') (r2.append (hat c.P Hf2))
        refine ⟨by have h := ra.len; rw [hl] at h; simpa using h, c.P, Hf2, _, s2, x2.refl, by simpa using ra, ?_⟩
        exact p3.imp (fun d s3 k v Hf3 H3 x3 a3 => k v Hf3 H3 (x1.trans (x2.trans x3)) a3) fun n v s2 z => z.back (V.ext.trans (x1.trans x2))
      · rw [if_neg e] at p1; exact p1.elim
    | _ => exact p1.elim
end
end VL
namespace VL
open PySem PySem.Spec PyProof.Rows L2
def tyD : D → Option String
  | .non => some "NoneType"
  | .bl _ => some "bool"
  | .int _ => some "int"
  | .str _ => some "str"
  | .tup _ => some "tuple"
  | .lst _ => some "list"
  | .dct _ => some "dict"
  | _ => none
def tyNames : List String := ["NoneType", "bool", "int", "str", "tuple", "list", "dict"]
structure ClsI (G : Glob) (ci : Nat) : Prop where
  sc : SlX.SCls G.K (G.cls ci)
  si : SlX.SIsi G.K (G.cls ci)
  kt : ∀ T ∈ tyNames, PySem.W.kitOne G.K (.ref (G.cls ci)) (.type T) = some false
def isTy (cs : List Nat) (T : String) (d : D) : Option D := match d with
  | .obj c _ => if c ∈ cs then some (.bl false) else none
  | d => (tyD d).map fun t => .bl (t == T || (t == "bool" && T == "int"))
section
variable {c : Ctx} {W : Wd} {E : XK} {Γ Γ' Γ'' Γl : Gam} {e a b d' o : Expr} {f fa fb fc fo : Rho → M D} {pos : Pos} {Hf H : Hp} {st : Stmt} {sts rest : List Stmt}
theorem tyX_of {K : PySem.W.Frag} {W : Wd} (hK : W.K = K) {v : V} {d : D} {t : String} (e : Same Hf H) (h : VAt W Hf H v d) (ht : tyD d = some t) : TyX K H v (.type t) := by
  subst hK
  cases h with
  | fr h =>
    cases h with
    | non => cases ht; exact .base .non
    | bl _ => cases ht; exact .base (.bl _)
    | int _ => cases ht; exact .base (.int _)
    | str _ => cases ht; exact .base (.str _)
    | tup g _ _ =>
      cases ht
      rcases Same.sqT e g with (g | ⟨o, g⟩) | ⟨o, its, n, g1, g2, _⟩
      · exact .base (.tup g)
      · exact .fTuple g
      · exact .kTuple g1 g2
    | lst g _ _ => cases ht; exact .base (.lst (e _ _ g))
    | dct g _ _ =>
      cases ht
      rcases Same.rd e g with g | ⟨o, g⟩
      · exact .base (.dK g)
      · exact .fDict g
    | obj _ _ => cases ht
    | pot => cases ht
    | tok _ => cases ht
  | lst _ g _ _ => cases ht; exact .base (.lst g)
  | dct _ g _ _ => cases ht; exact .base (.dK g)
theorem tyD_mem {d : D} {t : String} (h : tyD d = some t) : t ∈ tyNames := by
  cases d <;> simp only [tyD, Option.some.injEq, reduceCtorEq] at h <;> subst h <;> decide
def rIsiA (K : PySem.W.Frag) (u : Value) : List V → Hp → VK → Prop := fun xs H Q => rIsi K xs H Q ∨ SlX.rIsiSl K u xs H Q
theorem cr_isi (u : Value) (X : Cx) (h : Is c X) : CallR X (.builtin "isinstance") (rIsiA c.W.K u) := by
  show CallR X _ (rIsiA c.G.K u)
  rw [← h.K]
  exact CallR.or call_isi (SlX.call_isiSl u)
def isiF (g : D → Option D) (f : Rho → M D) : Rho → M D := fun ρ => do opt (g (← f ρ))
theorem je_isi0 {es : Expr} {v : V} {u : Value} {g : D → Option D} {p : Pos} (hv : ∀ X, Is c X → PE X es (tC v)) (cu : ClsV v u)
    (hg1 : ∀ d t, tyD d = some t → ∀ z, g d = some z → ∃ bb, z = .bl bb ∧ PySem.W.kitOne c.G.K (.type t) u = some bb)
    (hg2 : ∀ ci l z, g (.obj ci l) = some z → ∃ bb, z = .bl bb ∧ SlX.SCls c.G.K (c.G.cls ci) ∧ SlX.SIsi c.G.K (c.G.cls ci) ∧ PySem.W.kitOne c.G.K (.ref (c.G.cls ci)) u = some bb)
    (hg3 : ∀ d z, tyD d = none → g d = some z → ∃ ci l, d = .obj ci l)
    (ha : JV c Γ a fa) (hg : c.sc.names.lookup ("isinstance" : Str) = some .globalImplicit) (hm : c.G.mg "isinstance" = none)
    (he : ∀ env, starEach [a, es] env = (false, eval a env) :: starEach [es] env := by intro _; rfl) (he2 : ∀ env, starEach [es] env = (false, eval es env) :: starEach [] env := by intro _; rfl) (hpl : ∀ env, (backTo pos (starEach [es] env)).any (·.1) = false := by intro _; rfl) :
    JE c Γ (.Call (.Name "isinstance" p) [a, es] [] pos) (isiF g fa) := by
  obtain ⟨t, h1, h2⟩ := ha
  refine ⟨tCB (rIsiA c.W.K u) (tCons t (tCons (tC v) tNil)), fun X h => pe_callB (cr_isi u X h) (h.gl hg) (by rw [h.mg]; exact hm) PyProof.Rows.boot_isinstance (pa_cons (h1 X h) (pa_cons (hv X h) pa_nil (he2 _)) (he _)) (he := he _) (hpl := hpl _), fun B ρ s σ Hf H Q V p => ?_⟩
  unfold isiF at p
  rw [post_bind] at p
  refine h2 B ρ s σ Hf H _ V (p.imp (fun d s1 p1 x Hf1 H1 x1 r1 => ?_) fun _ _ _ z => z)
  rw [post_opt] at p1
  obtain ⟨z, hz, p1⟩ := p1
  have hq : ∀ bb, z = .bl bb → Q (.bl bb) H1 := fun bb e => by subst e; exact p1 _ _ _ x1 (.bl _)
  show rIsiA c.W.K u [x, v] H1 Q
  have sm : Same Hf1 H1 := x1.fh
  cases ht : tyD d with
  | some T =>
    obtain ⟨bb, e1, e2⟩ := hg1 d T ht z hz
    exact .inl ⟨x, v, .type T, u, bb, rfl, cu, tyX_of rfl sm r1 ht, e2, hq _ e1⟩
  | none =>
    obtain ⟨ci, l, rfl⟩ := hg3 d z ht hz
    obtain ⟨bb, e1, e2, e3, e4⟩ := hg2 ci l z hz
    cases r1 with
    | fr r1 =>
      cases r1 with
      | obj g1 g2 =>
        refine .inr ⟨_, _, _, _, v, bb, rfl, ?_, fun w hw => cu.eq hw, Same.slt sm g1, e2, e3, e4, hq _ e1⟩
        cases cu <;> rfl
theorem je_isT {cs : List Nat} {T : String} {x : Str} {px p : Pos} (hT : ∀ t ∈ tyNames, kitB t T = some (t == T || (t == "bool" && T == "int"))) (hTn : T ∈ tyNames) (hcs : ∀ i ∈ cs, ClsI c.G i)
    (hx : c.sc.names.lookup x = some .globalImplicit) (hxm : c.G.mg x = none) (hxb : bootBuiltins x = some (.type T)) (ha : JV c Γ a fa)
    (hg : c.sc.names.lookup ("isinstance" : Str) = some .globalImplicit) (hm : c.G.mg "isinstance" = none) (hn : x ≠ "__name__" := by decide) (hd : (x == ("__debug__" : Str)) = false := by decide)
    (he : ∀ env, starEach [a, .Name x px] env = (false, eval a env) :: starEach [.Name x px] env := by intro _; rfl) :
    JE c Γ (.Call (.Name "isinstance" p) [a, .Name x px] [] pos) (isiF (isTy cs T) fa) := by
  refine je_isi0 (v := .ty T) (u := .type T) (fun X h => pe_bltn (h.gl hx) (by rw [h.mg]; exact hxm) hxb rfl hn hd) (.ty T) (fun d t ht z hz => ?_) (fun ci l z hz => ?_) (fun d z ht hz => ?_) ha hg hm he
  · have e : isTy cs T d = (tyD d).map fun t => .bl (t == T || (t == "bool" && T == "int")) := by cases d <;> first | rfl | cases ht
    rw [e, ht] at hz
    cases hz
    exact ⟨_, rfl, kit_ty (hT t (tyD_mem ht))⟩
  · unfold isTy at hz
    dsimp only at hz
    split at hz
    · rename_i hc
      cases hz
      have k := hcs ci hc
      exact ⟨_, rfl, k.sc, k.si, k.kt T hTn⟩
    · cases hz
  · cases d <;> first | cases ht | skip
    · exact ⟨_, _, rfl⟩
    all_goals cases hz
theorem kit_str : ∀ t ∈ tyNames, kitB t "str" = some (t == "str" || (t == "bool" && "str" == "int")) := by decide +kernel
theorem kit_tuple : ∀ t ∈ tyNames, kitB t "tuple" = some (t == "tuple" || (t == "bool" && "tuple" == "int")) := by decide +kernel
theorem btn_str : bootBuiltins "str" = some (.type "str") := by decide +kernel
theorem btn_tuple : bootBuiltins "tuple" = some (.type "tuple") := by decide +kernel
def chainF (g g' : D → D → Option D) (fa fb fc : Rho → M D) : Rho → M D := fun ρ => do
  let d ← fa ρ
  let e ← fb ρ
  let z ← opt (g d e)
  let b ← asBl z
  if b = true then do
    let w ← fc ρ
    opt (g' e w)
  else pure (.bl false)
theorem rx_chain {r r' : R2} {g g' : D → D → Option D} {ta tb tc : TE} (ho : OpD W (rAt W) r g) (ho' : OpD W (rAt W) r' g') (ha : RX W E Γ (rV W) ta fa) (hb : RX W E Γ (rV W) tb fb) (hc : RX W E Γ (rV W) tc fc) : RX W E Γ (rAt W) (tChain r r' ta tb tc) (chainF g g' fa fb fc) := by
  intro B ρ s σ Hf H Q V p
  unfold chainF at p
  rw [post_bind] at p
  refine ha B ρ s σ Hf H _ V (p.imp (fun d s1 p1 x Hf1 H1 x1 r1 => ?_) fun _ _ _ z => z)
  rw [post_bind] at p1
  have V1 := V.ext' x1
  refine hb B ρ s1 σ Hf1 H1 _ V1 (p1.imp (fun d2 s2 p2 y Hf2 H2 x2 r2 => ?_) fun _ _ _ z => z)
  rw [post_bind, post_opt] at p2
  obtain ⟨z, hz, p2⟩ := p2
  have V2 := V1.ext' x2
  refine ho Hf2 H2 s2 x y d d2 z _ x2.refl (r1.ext x2) r2 hz fun v Hf3 H3 x3 r3 => ?_
  rw [post_bind] at p2
  obtain ⟨k, rfl, p3⟩ := post_asBl p2
  cases r3
  refine ⟨k, rfl, ?_⟩
  have V3 := V2.ext' x3
  cases k with
  | false =>
    rw [if_neg (by simp)] at p3 ⊢
    rw [post_pure] at p3
    exact p3 _ _ _ ((x1.trans x2).trans x3) (.bl _)
  | true =>
    rw [if_pos rfl] at p3 ⊢
    rw [post_bind] at p3
    refine hc B ρ s2 σ Hf3 H3 _ V3 (p3.imp (fun d4 s4 p4 w Hf4 H4 x4 r4 => ?_) fun _ _ _ z => z)
    rw [post_opt] at p4
    obtain ⟨z', hz', p4⟩ := p4
    exact ho' Hf4 H4 s4 y w d2 d4 z' _ x4.refl ((r2.ext x3).ext x4) r4 hz' fun v Hf5 H5 x5 r5 => p4 _ _ _ ((((x1.trans x2).trans x3).trans x4).trans x5) r5
theorem jt_chain {op op' : CmpOp} {r r' : R2} {g g' : D → D → Option D} {ec : Expr} (hr : ∀ X, Is c X → OpR X (compareOp op) r) (hr' : ∀ X, Is c X → OpR X (compareOp op') r') (ho : OpD c.W (rAt c.W) r g) (ho' : OpD c.W (rAt c.W) r' g')
    (ha : JV c Γ a fa) (hb : JV c Γ b fb) (hc : JV c Γ ec fc) (hm : lastMarks [op, op'] [b, ec] = false) : JT c Γ (.Compare a [op, op'] [b, ec] pos) (tst (chainF g g' fa fb fc)) := by
  obtain ⟨ta, a1, a2⟩ := ha
  obtain ⟨tb, b1, b2⟩ := hb
  obtain ⟨tc, c1, c2⟩ := hc
  refine ⟨tTest (tChain r r' ta tb tc), fun X h => pt_chain (hr X h) (hr' X h) (a1 X h) (b1 X h) (c1 X h) hm, ?_⟩
  have := rx_chain (E := c.E) (Γ := Γ) ho ho' a2 b2 c2
  refine rt_of fun B ρ s σ Hf H Q V p => this B ρ s σ Hf H Q V (p.imp (fun d s1 p1 v Hf1 H1 x1 r1 => p1 v Hf1 H1 x1 (.fr r1)) fun _ _ _ z => z)
theorem ch_le (X : Cx) (h : Is c X) : OpR X (compareOp .LtE) (rI0 fun i j => .bl (decide (i ≤ j))) := op_le
theorem cd_le : OpD W (rAt W) (rI0 fun i j => .bl (decide (i ≤ j))) leD := opd_b
def notBlD (d e : D) : Option D := match d, e with
  | .bl a, .bl b => some (.bl (!decide (a = b)))
  | _, _ => none
theorem opd_notBl : OpD W (rAt W) rNotB notBlD := by
  intro Hf H s x y d e z Q x0 hx hy hz q
  cases d <;> cases e <;> cases hz
  have e1 := hx.bl'; have e2 := hy.bl'; subst e1; subst e2
  exact ⟨_, _, rfl, rfl, q _ _ _ x0 (.bl _)⟩
theorem jt_notB (ha : JV c Γ a fa) (hb : JV c Γ b fb) (hm : behindInMarks .IsNot b = false := by rfl) : JT c Γ (.Compare a [.IsNot] [b] pos) (tst (bin notBlD fa fb)) := jt_cmp (fun _ _ => op_notBl) opd_notBl ha hb hm
def JGl (c : Ctx) (Γ : Gam) (tg : Expr) (f : D → Rho → Option Rho) : Prop := ∃ g, (∀ X, Is c X → PG X tg g) ∧
  ∀ B ρ s σ Hf H x d ρ' Q, EnvAt c.W B Γ ρ s σ Hf H → VAt c.W Hf H x d → f d ρ = some ρ' → (∀ σ', EnvAt c.W B Γ ρ' s σ' Hf H → Q σ' H) → g x σ H Q
def tgL (n : Nat) (f : List D → Rho → Option Rho) (d : D) (ρ : Rho) : Option Rho := match d with
  | .lst ds => if ds.length = n then f ds ρ else none
  | _ => none
theorem jg_unl {is : List Nat} {ts : List Expr} {fs : List D → Rho → Option Rho} {n k : Nat} (h : JGs c Γ is ts fs) (hn : ∀ env, (assignEach ts env).length = n := by intro _; rfl) (hst : ∀ env, (assignEach ts env).findIdx? (·.1) = none := by intro _; rfl) : JGl c Γ (.Tuple ts k pos) (tgL n fs) := by
  obtain ⟨g, h1, h2⟩ := h
  refine ⟨gUnl c.W.K n g, fun X hX => by have q := pg_unl (n := n) (k := k) (pos := pos) hX.calm (h1 X hX) (hn _) (hst _); rw [hX.K] at q; exact q, fun B ρ s σ Hf H x d ρ' Q V hx he q => ?_⟩
  unfold tgL at he
  split at he
  · split at he
    · rename_i ds hl
      obtain ⟨p, xs, rfl, e1, e2, e3⟩ := hx.lst' V.ext.fh
      exact ⟨p, xs, rfl, SqL.of e1, by rw [e3.len]; exact hl, h2 B ρ s σ Hf H xs ds ρ' Q V e3 he fun σ' V' _ => q σ' V'⟩
    · cases he
  · cases he
theorem js_tgtL {tg : Expr} {g : D → Rho → Option Rho} (he : JV c Γ e f) (hg : JGl c Γ tg g) (hs : ∀ env, swapsWithSole [tg] e pos.line env = pure false := by intro _; rfl) (hw : swappedStores [tg] e (envS c.sc) = pure none := by rfl) (h1 : ∀ env, (assignEach [tg] env).map (·.2) = [assign tg env] := by intro _; rfl) : JS c Γ Γ Γl (.Assign [tg] e pos) (tgtS g f) := by
  obtain ⟨t, a1, a2⟩ := he
  obtain ⟨gt, b1, b2⟩ := hg
  refine ⟨tAsg t gt, fun X hX => ps_asg (a1 X hX) (b1 X hX) (hs _) (hX.sws hw) (h1 _), fun B ρ s σ Hf H D V p => ?_⟩
  unfold tgtS at p
  rw [post_bind] at p
  refine a2 B ρ s σ Hf H _ V (p.imp (fun d s1 p1 v Hf1 H1 x1 r1 => ?_) fun _ _ _ z => z)
  rw [post_bind, post_opt] at p1
  obtain ⟨ρ', hρ, p1⟩ := p1
  exact b2 B ρ s1 σ Hf1 H1 v d ρ' _ (V.ext' x1) r1 hρ fun σ' V' => p1 _ _ _ V'
end
end VL
namespace VL
open PySem PySem.Spec PyProof.Rows L2
def SqA (K : PySem.W.Frag) (tup : Bool) (H : Hp) (a : Addr) (xs : List V) : Prop := if tup = true then SqT K H a xs else SqL K H a xs
def Ite2 (K : PySem.W.Frag) (tup : Bool) (k0 : Int) (a : Addr) : It :=
  ⟨fun i H => ∃ (xs : List V) (x : V), SqA K tup H a xs ∧ xs[i]? = some x, fun i H v H' => ∃ T x, v = .ref T ∧ H T = none ∧ H' = upd H T (.tup [.int (k0 + (i : Nat)), x]) ∧ ∀ xs, SqA K tup H a xs → xs[i]? = some x, fun i H => ∃ xs : List V, SqA K tup H a xs ∧ xs.length ≤ i⟩
def HasIt (tup : Bool) (it a : Addr) (i : Nat) (h : Heap) : Prop := if tup = true then h.IsTupleIter it a i else h.IsListIter it a i
def HasSq (tup : Bool) (a : Addr) (its : Array Value) (h : Heap) : Prop := if tup = true then h.IsTuple a its else h.IsList a its
theorem HasIt.kept {tup : Bool} {it a : Addr} {i : Nat} {h h' : Heap} (x : HasIt tup it a i h) (k : ∀ o, h.get? it = some o → h'.get? it = some o) : HasIt tup it a i h' := by
  cases tup with
  | true => obtain ⟨o, ho, r⟩ := x; exact ⟨o, k o ho, r⟩
  | false => obtain ⟨o, ho, r⟩ := x; exact ⟨o, k o ho, r⟩
theorem HasIt.look {tup : Bool} {it a : Addr} {i : Nat} {h : Heap} (x : HasIt tup it a i h) : ∃ o, h.get? it = some o ∧ ∀ v, o.data ≠ .cell v := by
  cases tup with
  | true => obtain ⟨o, ho, hc, hd⟩ := x; exact ⟨o, ho, fun v q => by rw [hd] at q; cases q⟩
  | false => obtain ⟨o, ho, hc, hd⟩ := x; exact ⟨o, ho, fun v q => by rw [hd] at q; cases q⟩
theorem draws_sq {prog : Program} {w : World} {A : Around} (tup : Bool) (hh : A.handled = none) (it a : Addr) (hne : a ≠ it) (its : Array Value) :
    Draws prog w A it [it, a] its.size (fun i v => its[i]? = some v) (fun i h => HasIt tup it a i h ∧ HasSq tup a its h) := by
  cases tup with
  | true => exact Draws.tuple hh it a hne its
  | false => exact Draws.list hh it a hne its
theorem Inv.sq {X : Cx} {pins : List (Addr × Obj)} {σ : L2.St} {H : Hp} {s : Shared} {tup : Bool} {a : Addr} {xs : List V} (I : Inv X pins σ H s) (h : SqA X.K tup H a xs) : ∃ its : List Value, Vals xs its ∧ HasSq tup a its.toArray s.heap := by
  cases tup with
  | true => obtain ⟨its, rv, p, hz⟩ := I.tuple h; exact ⟨its, rv, p⟩
  | false => obtain ⟨its, rv, p, hz⟩ := I.list h; exact ⟨its, rv, p.isList⟩
theorem Inv.sq_inj {X : Cx} {pins : List (Addr × Obj)} {σ : L2.St} {H : Hp} {s : Shared} {tup : Bool} {a : Addr} {xs ys : List V} (I : Inv X pins σ H s) (h : SqA X.K tup H a xs) (h' : SqA X.K tup H a ys) : xs = ys := by
  cases tup with
  | true => exact I.tuple_inj h h'
  | false => exact I.list_inj h h'
theorem turn_enum2 {P : Program} {w : World} {K : PySem.W.Frag} {elts : List Expr} {kk : Nat} {tpos : Pos} (tup : Bool) (k0 : Int) (a e it : Addr) (hae : a ≠ e) (hai : a ≠ it) :
    Turn P w K (.Tuple elts kk tpos) (Ite2 K tup k0 a) [e, it] e (fun i h => (∃ old, IsEnum h e it (k0 + ((i : Nat) : Int)) old) ∧ HasIt tup it a i h ∧ e ≠ it) where
  mem := by simp
  obj := fun i h st b hb => by
    obtain ⟨⟨old, he⟩, hi, _⟩ := st
    have e' : b = e ∨ b = it := by simpa using hb
    rcases e' with z | z
    · rw [z]; exact ⟨_, he, fun v q => nomatch q⟩
    · rw [z]; exact hi.look
  keep := fun i h h' st k => let ⟨⟨old, he⟩, hi, hne⟩ := st; ⟨⟨old, k e (by simp) _ he⟩, hi.kept fun o q => k it (by simp) o q, hne⟩
  item := by
    intro X hP hw hK hc i pins s σ H E I hf st hg
    subst hP hw hK
    obtain ⟨⟨old, he⟩, hit, hne⟩ := st
    obtain ⟨xs, x, hq, hx⟩ := hg
    obtain ⟨its, rv, p⟩ := Inv.sq I hq
    obtain ⟨u, hu, ru⟩ := rv.get hx
    have hel : e < s.heap.objs.size := Heap.lt_size he
    have hil : it < s.heap.objs.size := by obtain ⟨_, q, _⟩ := hit.look; exact Heap.lt_size q
    have hi : i < its.toArray.size := by
      have := (List.getElem?_eq_some_iff.mp hu).1
      simpa using this
    refine wpAny_pyNext_enum_itemC (draws_sq (prog := X.prog) (w := X.w) (A := X.A.in1) tup (I.ok.hd hc) it a hai its.toArray) he ⟨hit, p⟩ hi hne (by simp; exact ⟨hne, fun z => hae z.symm⟩) fun y h' tk hy ho hst' hT hsz hk => ?_
    have e1 : y = u := by
      have hu' : its.toArray[i]? = some u := by simpa using hu
      rw [hu'] at hy
      cases hy; rfl
    subst e1
    refine ⟨_, rfl, wpAny_letOwnedTupleGo_enum (s := { s with heap := h', toks := tk + 1 }) ho fun h'' he' sb => ?_⟩
    have hT2 : h''.get? s.heap.objs.size = some { cls := .type "tuple", data := .seq #[.int (k0 + ((i : Nat) : Int)) tk, y] } := (sb.2 _ (Nat.ne_of_gt hel)).trans hT
    have new : ObjOk X.prog X.w (upd H s.heap.objs.size (.tup [.int (k0 + (i : Nat)), x])) h'' s.heap.objs.size (.tup [.int (k0 + (i : Nat)), x]) :=
      ⟨by show 2 ≤ sizeLine; decide, [.int (k0 + (i : Nat)) tk, y], .cons ⟨_, rfl⟩ (.cons ru .nil), ⟨_, hT2, rfl, _, rfl⟩⟩
    have I1 : Inv X pins σ (upd H s.heap.objs.size (.tup [.int (k0 + (i : Nat)), x])) { s with heap := h'', toks := tk + 1 } :=
      I.turnedNew (ch := [e, it]) (fun b ob hb q => (sb.2 b (fun z => hb (by simp [z]))).trans (hk b ob (fun z => hb (by simp [z])) (fun z => hb (by simp [z])) q)) hf (Nat.le_refl _) new
    refine ⟨.ref s.heap.objs.size, _, I1, rfl, ⟨_, x, rfl, I.hok.fresh (Nat.le_refl _), rfl, fun ys hy => by rw [Inv.sq_inj I hy hq]; exact hx⟩, ⟨⟨y, ?_⟩, hst'.1.kept fun o q => (sb.2 it (Ne.symm hne)).trans q, hne⟩, fun b hb => ?_⟩
    · have e1 : k0 + ((i + 1 : Nat) : Int) = k0 + (i : Int) + 1 := by omega
      rw [e1]; exact he'
    · have hb' : b < s.heap.objs.size := by
        have e' : b = e ∨ b = it := by simpa using hb
        rcases e' with z | z
        · rw [z]; exact hel
        · rw [z]; exact hil
      rw [upd_ne (Nat.ne_of_lt hb')]
      exact (hf b hb).1
  done := by
    intro X hP hw hK hc i pins s σ H E I hf st hg
    subst hP hw hK
    obtain ⟨⟨old, he⟩, hit, hne⟩ := st
    obtain ⟨xs, hq, hx⟩ := hg
    obtain ⟨its, rv, p⟩ := Inv.sq I hq
    obtain ⟨f0, f1, f2, f3, f4, f5⟩ := hf it (by simp)
    have hl := rv.length
    unfold pyNext
    have hT : s.TypeIs (.ref e) "enumerate" := ⟨_, he, rfl⟩
    refine wpAny_bind (wpAny_attempt (wpAny_callSpecial?_slot (name := Str.ofString "__next__") hT F.slot_enumerate_next
      (wpAny_call_entry F.slot_enumerate_next hT F.entry_enumerate_next ?_ (F.args_enumerate_next_1 _))))
    show wpAny _ _ (field (.ref e) 2 >>= _) _ _ _
    refine wpAny_bind (wpAny_field he rfl (x := .ref it) rfl ?_)
    cases tup with
    | true =>
      refine wpAny_bind (wpAny_nextOf_tuple_end (I.ok.hd hc) hit p (by simp; omega) fun h' x he' hx' => ?_)
      obtain ⟨o, ho, hcl⟩ := hx'
      refine wpAny_bind (wpAny_isInstance (T := "StopIteration") (b := true) ⟨o, ho, hcl⟩ isSubtype_stop ?_)
      exact wpAny_pure ⟨rfl, I.turned (t' := s.toks) (fun b o hb q => he' b o hb q) f0 f1 f3 f4 f5⟩
    | false =>
      refine wpAny_bind (wpAny_nextOf_list_end (I.ok.hd hc) hit p (by simp; omega) fun h' x he' hx' => ?_)
      obtain ⟨o, ho, hcl⟩ := hx'
      refine wpAny_bind (wpAny_isInstance (T := "StopIteration") (b := true) ⟨o, ho, hcl⟩ isSubtype_stop ?_)
      exact wpAny_pure ⟨rfl, I.turned (t' := s.toks) (fun b o hb q => he' b o hb q) f0 f1 f3 f4 f5⟩
  self := fun A i s Q E st h => let ⟨⟨_, he⟩, _⟩ := st; wpAny_pyIter_enum he h
def iEnum2 (K : PySem.W.Frag) (two : Bool) (ta : TA) : TI := fun σ H R => ta σ H fun vs H1 => ∃ tup k0 a xs, vs = (if two = true then [.ref a, .int k0] else [.ref a]) ∧ (two = false → k0 = 0) ∧ -(2 ^ 63) ≤ k0 ∧ k0 < 2 ^ 63 ∧ SqA K tup H1 a xs ∧ R (Ite2 K tup k0 a) H1
theorem meets_enumerate_newT (l : Addr) (items : Array Value) :
    Meets (Builtin.«enumerate.__new__» ⟨[.type "enumerate", .ref l], []⟩) (fun _ R s => s.heap.IsTuple l items ∧
      R (.ok (.ret (.ref (s.heap.push { cls := .type "tuple_iterator", data := .fields #[.ref l, .int 0 0] }).objs.size)))
        { s with heap := (s.heap.push { cls := .type "tuple_iterator", data := .fields #[.ref l, .int 0 0] }).push { cls := .type "enumerate", data := .fields #[.none, .bool false, .ref s.heap.objs.size, rawInt 0, .none, .none] } }) :=
  .of_wp fun prog w A R s h => by
    obtain ⟨hp, g, d, tk, os⟩ := s; obtain ⟨h1, h⟩ := h
    have hsub := sub_enumerate
    have q1 : ∀ {A' : Around} {E : Value → Shared → Prop} {Q : Value → Shared → Prop}, Q (.ref hp.objs.size) ⟨hp.push { cls := .type "tuple_iterator", data := .fields #[.ref l, .int 0 0] }, g, d, tk, os⟩ → wpAny (model prog w) A' (pyIter (.ref l)) Q E ⟨hp, g, d, tk, os⟩ :=
      fun q => wpAny_pyIter_tuple h1 q
    wp_walk using q1
    refine wpAny_stack_any fun st => wpAny_pure ?_
    split
    · rename_i c _ _ _ _ _
      cases (c == Value.type "enumerate")
      · wp_walk using q1
        exact ⟨_, rfl, h⟩
      · wp_walk using q1
        exact ⟨_, rfl, h⟩
    · wp_walk using q1
      exact ⟨_, rfl, h⟩
theorem call_enumerate_tuple {prog : Program} {w : World} {A : Around} {E : Value → Shared → Prop} {s : Shared} {l : Addr} {items : Array Value} {Q : Value → Shared → Prop} (hL : s.heap.IsTuple l items)
    (h : ∀ h', IsEnum h' (s.heap.objs.size + 1) s.heap.objs.size 0 .none → h'.IsTupleIter s.heap.objs.size l 0 → h'.objs.size = s.heap.objs.size + 2 →
      (∀ b o, s.heap.get? b = some o → h'.get? b = some o) → Q (.ref (s.heap.objs.size + 1)) { s with heap := h' }) :
    wpAny (model prog w) A (call (.type "enumerate") [.ref l]) Q E s := by
  refine callType_new F.called_enumerate (by decide) (F.typeCall_enumerate_1 _) (F.newCall_enumerate_1 _) (fun obj => F.args_object_init_2 obj _) F.entry_enumerate_new
    (meets_enumerate_newT l items) ⟨hL, ?_⟩
  have hz : (s.heap.push { cls := .type "tuple_iterator", data := .fields #[.ref l, .int 0 0] }).objs.size = s.heap.objs.size + 1 := Heap.size_push ..
  show _ ∧ _
  rw [hz]
  have he : IsEnum ((s.heap.push { cls := .type "tuple_iterator", data := .fields #[.ref l, .int 0 0] }).push
      { cls := .type "enumerate", data := .fields #[.none, .bool false, .ref s.heap.objs.size, rawInt 0, .none, .none] }) (s.heap.objs.size + 1) s.heap.objs.size 0 .none := by
    have := Heap.get?_push_size (s.heap.push { cls := .type "tuple_iterator", data := .fields #[.ref l, .int 0 0] })
      (o := { cls := .type "enumerate", data := .fields #[.none, .bool false, .ref s.heap.objs.size, rawInt 0, .none, .none] }) rfl
    rw [hz] at this; exact this
  refine ⟨⟨_, he, rfl⟩, h _ he ⟨_, Heap.get?_push_of_some _ (Heap.get?_push_size _ rfl), rfl, rfl⟩ (by rw [Heap.size_push, hz]) fun b o x => Heap.get?_push_of_some _ (Heap.get?_push_of_some _ x)⟩
theorem enum1_begins {prog : Program} {w : World} {A : Around} {E : Value → Shared → Prop} {s : Shared} {tup : Bool} {a : Addr} {its : Array Value} {Q : Value → Shared → Prop} (h1 : HasSq tup a its s.heap)
    (h : ∀ h', IsEnum h' (s.heap.objs.size + 1) s.heap.objs.size 0 .none → HasIt tup s.heap.objs.size a 0 h' →
      (∀ b o, s.heap.get? b = some o → h'.get? b = some o) → Q (.ref (s.heap.objs.size + 1)) { s with heap := h' }) :
    wpAny (model prog w) A (call (.type "enumerate") [.ref a]) Q E s := by
  cases tup with
  | false => exact call_enumerate_list h1 fun h' e1 e2 _ e3 => h h' e1 e2 e3
  | true => exact call_enumerate_tuple h1 fun h' e1 e2 _ e3 => h h' e1 e2 e3
theorem enum2_begins {prog : Program} {w : World} {A : Around} {E : Value → Shared → Prop} {s : Shared} {tup : Bool} {a : Addr} {its : Array Value} {k : Int} {t : Tok} {Q : Value → Shared → Prop} (h1 : HasSq tup a its s.heap) (hk0 : -(2 ^ 63) ≤ k) (hk1 : k < 2 ^ 63)
    (h : ∀ h', IsEnum h' (s.heap.objs.size + 1) s.heap.objs.size k .none → HasIt tup s.heap.objs.size a 0 h' →
      (∀ b o, s.heap.get? b = some o → h'.get? b = some o) → Q (.ref (s.heap.objs.size + 1)) { s with heap := h' }) :
    wpAny (model prog w) A (call (.type "enumerate") [.ref a, .int k t]) Q E s := by
  cases tup with
  | false => exact enum_begins (begins_list a its) h1 hk0 hk1 fun h' e1 e2 _ e3 => h h' e1 ⟨_, e2, rfl, rfl⟩ e3
  | true => exact enum_begins (begins_tuple a its) h1 hk0 hk1 fun h' e1 e2 _ e3 => h h' e1 ⟨_, e2, rfl, rfl⟩ e3
theorem hasSq_lt {tup : Bool} {a : Addr} {its : Array Value} {h : Heap} (x : HasSq tup a its h) : a < h.objs.size := by
  cases tup with
  | false => obtain ⟨o, ho, _⟩ := x; exact Heap.lt_size ho
  | true => obtain ⟨o, ho, _⟩ := x; exact Heap.lt_size ho
theorem enum_pie {X : Cx} {pins : List (Addr × Obj)} {s1 : Shared} {σ : L2.St} {H1 : Hp} {R : It → Hp → Prop} {elts : List Expr} {kk : Nat} {tpos : Pos} {tup : Bool} {k0 : Int} {a : Addr} {xs : List V} {its : Array Value} {h' : Heap} (I1 : Inv X pins σ H1 s1) (hsq : HasSq tup a its s1.heap)
    (he : IsEnum h' (s1.heap.objs.size + 1) s1.heap.objs.size k0 .none) (hit : HasIt tup s1.heap.objs.size a 0 h') (hk : ∀ b o, s1.heap.get? b = some o → h'.get? b = some o) (q : R (Ite2 X.K tup k0 a) H1) :
    wpAny (model X.prog X.w) X.A (pyIter (.ref (s1.heap.objs.size + 1))) (PIE X pins σ (.Tuple elts kk tpos) R) X.xe { s1 with heap := h' } := by
  have hlt := hasSq_lt hsq
  have I2 : Inv X pins σ H1 { s1 with heap := h' } := I1.kept (t' := s1.toks) hk
  refine wpAny_pyIter_enum he ⟨s1.heap.objs.size + 1, [s1.heap.objs.size + 1, s1.heap.objs.size], _, _, H1, rfl, I2, turn_enum2 tup k0 a (s1.heap.objs.size + 1) s1.heap.objs.size (fun z => by rw [z] at hlt; exact absurd hlt (Nat.not_lt.mpr (Nat.le_succ _))) (Nat.ne_of_lt hlt), ⟨⟨.none, by simpa using he⟩, hit, Nat.succ_ne_self _⟩, fun b hb => ?_, q⟩
  have e' : b = s1.heap.objs.size + 1 ∨ b = s1.heap.objs.size := by simpa using hb
  have hle : s1.heap.objs.size ≤ b := by
    rcases e' with z | z
    · rw [z]; exact Nat.le_add_right _ _
    · rw [z]; exact Nat.le_refl _
  exact I1.fpOk hle (I1.hok.fresh hle)
theorem pi_enum1 {X : Cx} {e : Expr} {ta : TA} {p pos tpos : Pos} {elts : List Expr} {kk : Nat} (hg : Gl X "enumerate") (hm : X.mg "enumerate" = none) (ha : PA X [e] ta) (hs : starEach [e] X.env = [(false, eval e X.env)]) :
    PI X (.Tuple elts kk tpos) (.Call (.Name "enumerate" p) [e] [] pos) (iEnum2 X.K false ta) := by
  refine ⟨fun pins s σ H R I h => ?_⟩
  refine Call_ (ld_blt I hg hm boot_enumerate (PyProof.Rows.callWith_type1 (thn (ha.run pos pins s σ H _ I h) fun us s1 ⟨vs, H1, I1, r1, q1⟩ => ?_) hs rfl))
  obtain ⟨tup, k0, a, xs, ex, h0, _, _, hq, q⟩ := q1
  simp only [Bool.false_eq_true, if_false] at ex
  subst ex
  cases h0 rfl
  obtain ⟨u, rfl, r⟩ := r1.one
  cases r
  obtain ⟨its, rv, p'⟩ := Inv.sq I1 hq
  exact enum1_begins p' fun h' he hit hk => enum_pie (xs := xs) I1 p' he hit hk q
theorem pi_enum2 {X : Cx} {e e2 : Expr} {ta : TA} {p pos tpos : Pos} {elts : List Expr} {kk : Nat} (hg : Gl X "enumerate") (hm : X.mg "enumerate" = none) (ha : PA X [e, e2] ta) (hs : starEach [e, e2] X.env = [(false, eval e X.env), (false, eval e2 X.env)]) (hs2 : starEach [e2] X.env = [(false, eval e2 X.env)]) :
    PI X (.Tuple elts kk tpos) (.Call (.Name "enumerate" p) [e, e2] [] pos) (iEnum2 X.K true ta) := by
  refine ⟨fun pins s σ H R I h => ?_⟩
  refine Call_ (ld_blt I hg hm boot_enumerate (PyProof.Rows.callWith_type1 (thn (ha.run pos pins s σ H _ I h) fun us s1 ⟨vs, H1, I1, r1, q1⟩ => ?_) (by rw [hs, hs2]) (by rw [hs2]; rfl)))
  obtain ⟨tup, k0, a, xs, ex, _, z1, z2, hq, q⟩ := q1
  simp only [if_true] at ex
  subst ex
  obtain ⟨u, u2, rfl, r, r2⟩ := r1.two
  cases r
  obtain ⟨t, rfl⟩ := r2
  obtain ⟨its, rv, p'⟩ := Inv.sq I1 hq
  exact enum2_begins p' z1 z2 fun h' he hit hk => enum_pie (xs := xs) I1 p' he hit hk q
section
variable {c : Ctx} {W : Wd} {E : XK} {Γ Γ' Γ'' Γl : Gam} {e a b d' o : Expr} {f fa fb fc fo : Rho → M D} {pos : Pos} {Hf H : Hp} {st : Stmt} {sts rest : List Stmt}
def enumL (k0 : Int) : List D → List D
  | [] => []
  | d :: r => .tup [.int k0, d] :: enumL (k0 + 1) r
theorem enumL_len : ∀ (l : List D) (k0 : Int), (enumL k0 l).length = l.length
  | [], _ => rfl
  | _ :: r, k0 => by simp [enumL, enumL_len r]
theorem enumL_get : ∀ (l : List D) (k0 : Int) (i : Nat) (z : D), (enumL k0 l)[i]? = some z → ∃ d, l[i]? = some d ∧ z = .tup [.int (k0 + i), d]
  | [], _, i, z, h => by simp [enumL] at h
  | d :: r, k0, 0, z, h => by simp [enumL] at h; exact ⟨d, by simp, by rw [← h]; simp⟩
  | d :: r, k0, i + 1, z, h => by
    simp only [enumL, List.getElem?_cons_succ] at h
    obtain ⟨d', h1, h2⟩ := enumL_get r (k0 + 1) i z h
    refine ⟨d', by simpa using h1, ?_⟩
    rw [h2]
    have : k0 + 1 + (i : Int) = k0 + ((i + 1 : Nat) : Int) := by omega
    rw [this]
theorem ite2_okF {tup : Bool} {k0 : Int} {q : Addr} {xs : List V} {ds : List D} (K : ∀ Hf1 H1 s1, Same Hf Hf1 → Ext W Hf1 H1 Hf1 H1 s1 → SqA W.K tup H1 q xs) (ha : AtAll W Hf xs ds) : ItF W (Ite2 W.K tup k0 q) Hf (enumL k0 ds) := by
  intro i Hf1 H1 s1 hs x
  have hq := K Hf1 H1 s1 hs x
  refine ⟨fun h => ⟨xs, hq, by rw [ha.len]; rw [enumL_len] at h; exact h⟩, fun d hd => ?_⟩
  obtain ⟨d0, h1, rfl⟩ := enumL_get _ _ _ _ hd
  obtain ⟨y, e1, a1⟩ := ha.get' h1
  refine ⟨⟨xs, y, hq, e1⟩, fun z H2 ⟨T, x0, e2, e3, e4, h2⟩ => ?_⟩
  subst e2 e4
  have e5 := h2 xs hq
  rw [e1] at e5
  cases e5
  refine ⟨upd Hf1 T _, x.newF e3, .tup (.inl (.inl upd_same)) (by simp; decide) (.cons (.int _) (.cons (a1.mono (hs.trans ?_)) .nil))⟩
  exact (x.newF (o := .tup [.int (k0 + (i : Nat)), y]) e3).ff
end
end VL
namespace VL
open PySem PySem.Spec PyProof.Rows L2
section
variable {c : Ctx} {W : Wd} {E : XK} {Γ Γ' Γ'' Γl : Gam} {e a b d' o : Expr} {f fa fb fc fo : Rho → M D} {pos : Pos} {Hf H : Hp} {st : Stmt} {sts rest : List Stmt}
theorem seq_atF {v : V} {d : D} {l : List D} (h : At W Hf v d) (hl : seqOf d = some l) : ∃ tup q xs, v = .ref q ∧ SqA W.K tup Hf q xs ∧ xs.length ≤ sizeLine ∧ AtAll W Hf xs l ∧ (∀ Hf1 H1, Same Hf Hf1 → Same Hf1 H1 → SqA W.K tup H1 q xs) := by
  cases h with
  | lst g1 g2 g3 => cases hl; exact ⟨false, _, _, rfl, SqL.of g1, g2, g3, fun Hf1 H1 x y => SqL.of (y _ _ (x _ _ g1))⟩
  | tup g1 g2 g3 => cases hl; exact ⟨true, _, _, rfl, g1, g2, g3, fun Hf1 H1 x y => Same.sqT y (Same.sqT x g1)⟩
  | _ => cases hl
theorem VAll.atAll1 {xs : List V} {d : D} (h : AtAll W Hf xs [d]) : ∃ x, xs = [x] ∧ At W Hf x d := by
  cases h with
  | cons a r => cases r; exact ⟨_, rfl, a⟩
theorem VAll.atAll2 {xs : List V} {d e : D} (h : AtAll W Hf xs [d, e]) : ∃ x y, xs = [x, y] ∧ At W Hf x d ∧ At W Hf y e := by
  cases h with
  | cons a r => cases r with
    | cons b r => cases r; exact ⟨_, _, rfl, a, b⟩
theorem At.int' {v : V} {i : Int} (h : At W H v (.int i)) : v = .int i := by cases h; rfl
def enumD1 (ds : List D) : Option (List D) := match ds with
  | [d] => (seqOf d).map (enumL 0)
  | _ => none
def enumD2 (ds : List D) : Option (List D) := match ds with
  | [d, .int k] => if -(2 ^ 63) ≤ k ∧ k < 2 ^ 63 then (seqOf d).map (enumL k) else none
  | _ => none
theorem ji_enum1 {elts : List Expr} {kk : Nat} {tpos p : Pos} {fs : Rho → M (List D)} (ha : JA c Γ [a] fs) (hg : c.sc.names.lookup ("enumerate" : Str) = some .globalImplicit) (hm : c.G.mg "enumerate" = none) (hs : ∀ env, starEach [a] env = [(false, eval a env)] := by intro _; rfl) :
    JI c Γ (.Tuple elts kk tpos) (.Call (.Name "enumerate" p) [a] [] pos) (rngF enumD1 fs) := by
  obtain ⟨t, h1, h2⟩ := ha
  refine ⟨iEnum2 c.W.K false t, fun X hX => by have q := pi_enum1 (elts := elts) (kk := kk) (tpos := tpos) (p := p) (pos := pos) (hX.gl hg) (by rw [hX.mg]; exact hm) (h1 X hX) (hs _); rw [hX.K] at q; exact q, fun B ρ s σ Hf H R V p => ?_⟩
  unfold rngF at p
  rw [post_bind] at p
  refine h2 B ρ s σ Hf H _ V (p.imp (fun d s1 p1 v Hf1 H1 x1 r1 => ?_) fun _ _ _ z => z)
  rw [post_opt] at p1
  obtain ⟨l, hl, k⟩ := p1
  unfold enumD1 at hl
  split at hl
  · obtain ⟨m, hm, rfl⟩ := Option.map_eq_some_iff.mp hl
    obtain ⟨x, rfl, hx⟩ := VAll.atAll1 r1
    obtain ⟨tup, q, xs, rfl, e1, e2, e3, e4⟩ := seq_atF hx hm
    refine ⟨tup, 0, q, xs, rfl, fun _ => rfl, by decide, by decide, e4 _ _ (fun _ _ z => z) x1.fh, k _ _ _ x1 (by rw [enumL_len, ← e3.len]; exact e2) (ite2_okF (fun Hf2 H2 s2 z1 z2 => e4 _ _ z1 z2.fh) e3)⟩
  · cases hl
theorem ji_enum2 {elts : List Expr} {kk : Nat} {tpos p : Pos} {fs : Rho → M (List D)} (ha : JA c Γ [a, b] fs) (hg : c.sc.names.lookup ("enumerate" : Str) = some .globalImplicit) (hm : c.G.mg "enumerate" = none) (hs : ∀ env, starEach [a, b] env = [(false, eval a env), (false, eval b env)] := by intro _; rfl) (hs2 : ∀ env, starEach [b] env = [(false, eval b env)] := by intro _; rfl) :
    JI c Γ (.Tuple elts kk tpos) (.Call (.Name "enumerate" p) [a, b] [] pos) (rngF enumD2 fs) := by
  obtain ⟨t, h1, h2⟩ := ha
  refine ⟨iEnum2 c.W.K true t, fun X hX => by have q := pi_enum2 (elts := elts) (kk := kk) (tpos := tpos) (p := p) (pos := pos) (hX.gl hg) (by rw [hX.mg]; exact hm) (h1 X hX) (hs _) (hs2 _); rw [hX.K] at q; exact q, fun B ρ s σ Hf H R V p => ?_⟩
  unfold rngF at p
  rw [post_bind] at p
  refine h2 B ρ s σ Hf H _ V (p.imp (fun d s1 p1 v Hf1 H1 x1 r1 => ?_) fun _ _ _ z => z)
  rw [post_opt] at p1
  obtain ⟨l, hl, k⟩ := p1
  unfold enumD2 at hl
  split at hl
  · split at hl
    · rename_i hb
      obtain ⟨m, hm, rfl⟩ := Option.map_eq_some_iff.mp hl
      obtain ⟨x, y, rfl, hx, hy⟩ := VAll.atAll2 r1
      have := hy.int'
      subst this
      obtain ⟨tup, q, xs, rfl, e1, e2, e3, e4⟩ := seq_atF hx hm
      refine ⟨tup, _, q, xs, rfl, fun z => absurd z (by decide), hb.1, hb.2, e4 _ _ (fun _ _ z => z) x1.fh, k _ _ _ x1 (by rw [enumL_len, ← e3.len]; exact e2) (ite2_okF (fun Hf2 H2 s2 z1 z2 => e4 _ _ z1 z2.fh) e3)⟩
    · cases hl
  · cases hl
def popIx (k : Int) (n : Nat) : Option Nat := if -(2 ^ 63) ≤ k ∧ k < 2 ^ 63 then seqIndex? k n else none
def popD (i j : Nat) (fk : Rho → M D) : Rho → M Fl := fun ρ => do
  let z ← slot j ρ
  let _ ← asLst z
  let y ← slot i ρ
  let l ← asLst y
  let kd ← fk ρ
  let k ← asInt kd
  let n ← opt (popIx k l.length)
  let m ← asLst z
  let d ← opt l[n]?
  if m.length < sizeLine then pure (.nx ((ρ.set i (some (.lst (l.eraseIdx n)))).set j (some (.lst (m ++ [d]))))) else nope
theorem AtAll.erase : ∀ {v : List V} {d : List D} (n : Nat), AtAll W H v d → AtAll W H (v.eraseIdx n) (d.eraseIdx n)
  | _, _, _, .nil => by simp; exact .nil
  | _, _, 0, .cons _ r => by simpa using r
  | _, _, n + 1, .cons h r => by simp only [List.eraseIdx_cons_succ]; exact .cons h (r.erase n)
theorem own_turn {ρ : Rho} {σ : L2.St} {i : Nat} {k : Own} {d : D} {v : V} {p : Addr} {o' : HO} {ow : Addr → Option Nat} {B : Hp × Hp}
    (h1 : ∀ i d, ρ[i]? = some (some d) → ∃ v, σ[i]? = some (some v) ∧ OwnAt W Hf H ow i (Γ.getD i .sh) v d) (h2 : ∀ q i, ow q = some i → Hf q = none ∧ q ≠ W.P ∧ B.2 q = none ∧ ∃ o, H q = some o)
    (hσ : σ[i]? = some (some v)) (hk : Γ.getD i .sh = k) (hp : ow p = some i) (hn : OwnAt W Hf (upd H p o') ow i k v d) :
    (∀ j d', (ρ.set i (some d))[j]? = some (some d') → ∃ v, σ[j]? = some (some v) ∧ OwnAt W Hf (upd H p o') ow j (Γ.getD j .sh) v d') ∧ (∀ q i, ow q = some i → Hf q = none ∧ q ≠ W.P ∧ B.2 q = none ∧ ∃ o, (upd H p o') q = some o) := by
  refine ⟨fun j d' e => ?_, fun q j e => ?_⟩
  · rcases set_get e with ⟨rfl, e1, _⟩ | ⟨hj, e1⟩
    · cases e1
      exact ⟨v, hσ, by rw [hk]; exact hn⟩
    · obtain ⟨v', e2, z⟩ := h1 j d' e1
      refine ⟨v', e2, ?_⟩
      have ne : ∀ q, ow q = some j → q ≠ p := fun q hq e => by rw [e, hp] at hq; cases hq; exact hj rfl
      cases hg : Γ.getD j .sh with
      | sh => rw [hg] at z; exact z
      | ol => rw [hg] at z; obtain ⟨q, xs, ds, a1, a2, a3, a4, r⟩ := z; exact ⟨q, xs, ds, a1, a2, a3, by rw [upd_ne (ne q a3)]; exact a4, r⟩
      | od => rw [hg] at z; obtain ⟨q, xs, ds, a1, a2, a3, a4, r⟩ := z; exact ⟨q, xs, ds, a1, a2, a3, by rw [upd_ne (ne q a3)]; exact a4, r⟩
      | odl =>
        rw [hg] at z
        obtain ⟨q, qs, ds, a1, a2, a3, a4, a5, a6, a7⟩ := z
        exact ⟨q, qs, ds, a1, a2, a3, by rw [upd_ne (ne q a3)]; exact a4, a5, a6, Paired.mapP a7 fun a b ⟨z1, z2, xs, z3, z4⟩ => ⟨z1, z2, xs, by rw [upd_ne (ne _ z2)]; exact z3, z4⟩⟩
      | lk => rw [hg] at z; exact z
  · obtain ⟨z1, z2, z3, o, z4⟩ := h2 q j e
    refine ⟨z1, z2, z3, ?_⟩
    by_cases hq : q = p
    · rw [hq]; exact ⟨_, upd_same⟩
    · exact ⟨o, by rw [upd_ne hq]; exact z4⟩
theorem own_ext' {ρ : Rho} {σ : L2.St} {ow : Addr → Option Nat} {B : Hp × Hp} {Hf' H' : Hp} {s' : Pot}
    (g1 : ∀ i d, ρ[i]? = some (some d) → ∃ v, σ[i]? = some (some v) ∧ OwnAt W Hf H ow i (Γ.getD i .sh) v d) (g2 : ∀ q i, ow q = some i → Hf q = none ∧ q ≠ W.P ∧ B.2 q = none ∧ ∃ o, H q = some o) (x1 : Ext W Hf H Hf' H' s') :
    (∀ i d, ρ[i]? = some (some d) → ∃ v, σ[i]? = some (some v) ∧ OwnAt W Hf' H' ow i (Γ.getD i .sh) v d) ∧ (∀ q i, ow q = some i → Hf' q = none ∧ q ≠ W.P ∧ B.2 q = none ∧ ∃ o, H' q = some o) := by
  refine ⟨fun i d e => ?_, fun q i e => ?_⟩
  · obtain ⟨v, e1, z⟩ := g1 i d e
    exact ⟨v, e1, z.ext x1 fun q j e => (g2 q j e).2.1⟩
  · obtain ⟨z1, z2, z3, o, z4⟩ := g2 q i e
    exact ⟨x1.unf _ _ z4 z1, z2, z3, o, x1.old _ _ z2 z4⟩
theorem js_appPop (i j : Nat) {x y : Str} {p1 p2 p3 p4 p5 p6 : Pos} (he : JV c Γ e f) (hi : c.N[i]? = some x) (hj : c.N[j]? = some y) (hx : Vis c.sc x) (hy : Vis c.sc y) (hΓi : Γ.getD i .sh = .ol) (hΓj : Γ.getD j .sh = .ol) (hij : i ≠ j)
    (hline : (p2.endLine == p3.line) = true := by rfl) (hline2 : (p5.endLine == p6.line) = true := by rfl) (hst : ∀ env, starEach [e] env = [(false, eval e env)] := by intro _; rfl)
    (hd : (x == ("__debug__" : Str)) = false := by decide) (hcd : (x == ("__classdict__" : Str)) = false := by decide) (hd2 : (y == ("__debug__" : Str)) = false := by decide) (hcd2 : (y == ("__classdict__" : Str)) = false := by decide) :
    JS c Γ Γ Γl (.Expr (.Call (.Attribute (.Name y p1) "append" p2) [.Call (.Attribute (.Name x p4) "pop" p5) [e] [] p6] [] p3) pos) (popD i j f) := by
  obtain ⟨t, h1, h2⟩ := he
  refine ⟨tDrop (tBM c.W.K "list" rAppend (tVar j) (tCons (tBM c.W.K "list" rPopAt (tVar i) (tCons t tNil)) tNil)), fun X hX => ?_, fun B ρ s σ Hf H D V p => ?_⟩
  · have q1 := pe_bm1 (X := X) (cpos := p6) (apos := p5) PySem.F.plainAttrs_list PySem.F.slot_list_pop PySem.F.type_list_pop (mt_popAt (X := X)) (pe_var (i := i) (x := x) (pos := p4) (by rw [hX.N]; exact hi) (hX.vis hx) hd hcd) (h1 X hX) (fun _ => rfl) hst hline2
    have q := pe_bm1 (X := X) (cpos := p3) (apos := p2) PySem.F.plainAttrs_list PySem.F.slot_list_append PySem.F.type_list_append (mt_append (X := X)) (pe_var (i := j) (x := y) (pos := p1) (by rw [hX.N]; exact hj) (hX.vis hy) hd2 hcd2) q1 (fun _ => rfl) (fun _ => rfl) hline
    rw [hX.K] at q
    exact ps_expr q
  · unfold popD at p
    rw [post_bind] at p
    obtain ⟨dj, ej, pa⟩ := post_slot p
    rw [post_bind] at pa
    obtain ⟨lj, rfl, pb⟩ := post_asLst pa
    rw [post_bind] at pb
    obtain ⟨di, ei, pc⟩ := post_slot pb
    rw [post_bind] at pc
    obtain ⟨li, rfl, pd⟩ := post_asLst pc
    rw [post_bind] at pd
    obtain ⟨ow, g1, g2⟩ := V.own
    obtain ⟨vj, ej1, zj⟩ := g1 j _ ej
    obtain ⟨vi, ei1, zi⟩ := g1 i _ ei
    rw [hΓj] at zj
    rw [hΓi] at zi
    obtain ⟨qj, xj, dsj, b1, b2, b3, b4, b5, b6⟩ := zj
    obtain ⟨qi, xi, dsi, a1, a2, a3, a4, a5, a6⟩ := zi
    subst a1 b1
    cases a2
    cases b2
    refine ⟨.ref qj, ej1, .inl ⟨rfl, _, SqL.of b4⟩, .ref qi, ei1, .inl ⟨rfl, _, SqL.of a4⟩, h2 B ρ s σ Hf H _ V (pd.imp (fun d s1 p1 v1 Hf1 H1 x1 r1 => ?_) fun _ _ _ z => z)⟩
    have V1 := V.ext' x1
    rw [post_bind] at p1
    obtain ⟨k, rfl, p2⟩ := post_asInt p1
    have := r1.int'
    subst this
    rw [post_bind, post_opt] at p2
    obtain ⟨n, hn, p3⟩ := p2
    unfold popIx at hn
    split at hn
    · rename_i hk
      rw [post_bind] at p3
      obtain ⟨m, hm, p4⟩ := post_asLst p3
      cases hm
      rw [post_bind, post_opt] at p4
      obtain ⟨w, hw, p5⟩ := p4
      obtain ⟨k1, k2⟩ := own_ext' g1 g2 x1
      have hqi : H1 qi = some (.lst xi) := x1.old _ _ (g2 _ _ a3).2.1 a4
      have hqj : H1 qj = some (.lst xj) := x1.old _ _ (g2 _ _ b3).2.1 b4
      have ai := a6.mono x1.ff
      have aj := b6.mono x1.ff
      obtain ⟨y0, hy0, ay⟩ := ai.get' hw
      have ne : qj ≠ qi := fun e => by rw [e, a3] at b3; cases b3; exact hij rfl
      refine ⟨qi, xi, k, n, y0, rfl, rfl, hqi, hk.1, hk.2, by rw [ai.len]; exact hn, hy0, ?_⟩
      have len1 : (xi.eraseIdx n).length ≤ xi.length := by rw [List.length_eraseIdx]; split <;> omega
      have hO : OwnAt c.W Hf1 (upd H1 qi (.lst (xi.eraseIdx n))) ow i .ol (.ref qi) (.lst (li.eraseIdx n)) := ⟨qi, _, _, rfl, rfl, a3, upd_same, Nat.le_trans len1 a5, ai.erase n⟩
      obtain ⟨m1, m2⟩ := own_turn (B := B) k1 k2 ei1 hΓi a3 hO
      have V2 := V1.turn k1 k2 ei1 hΓi a3 hO
      by_cases hlt : lj.length < sizeLine
      · rw [if_pos hlt] at p5
        refine ⟨qj, xj, y0, rfl, rfl, by rw [upd_ne ne]; exact hqj, by rw [aj.len]; exact hlt, ?_⟩
        exact p5 _ _ _ (V2.turn m1 m2 ej1 hΓj b3 ⟨qj, xj ++ [y0], lj ++ [w], rfl, rfl, b3, upd_same, by rw [List.length_append, aj.len]; simp; omega, aj.append (.cons ay .nil)⟩)
      · rw [if_neg hlt] at p5; exact p5.elim
    · cases hn
end
end VL
namespace VL
open PySem PySem.Spec PyProof.Rows L2
section
variable {c : Ctx} {W : Wd} {E : XK} {Γ Γ' Γ'' Γl : Gam} {e a b d' o : Expr} {f fa fb fc fo : Rho → M D} {pos : Pos} {Hf H : Hp} {st : Stmt} {sts rest : List Stmt}
def JP (c : Ctx) (Γ : Gam) (ks : List (Option Expr)) (vs : List Expr) (f : Rho → M (List (Key × D))) : Prop := ∃ trs, (∀ X pos, Is c X → PPs X pos ks vs trs) ∧
  ∀ B ρ s σ Hf H Q, EnvAt c.W B Γ ρ s σ Hf H → Post (fun kds s' => ∀ kvs Hf' H', Ext c.W Hf H Hf' H' s' → AtKv c.W Hf' kvs kds → Q (kvs.map fun kv => (kV kv.1, kv.2)) H') (ErrOk c.W B c.E) (f ρ s) → tPairs trs σ H Q
def nilP : Rho → M (List (Key × D)) := fun _ => pure []
def consP (fk fv : Rho → M D) (fr : Rho → M (List (Key × D))) : Rho → M (List (Key × D)) := fun ρ => do
  let k ← fk ρ
  let v ← fv ρ
  let r ← fr ρ
  let k ← opt (asKey k)
  pure ((k, v) :: r)
theorem jp_nil : JP c Γ [] [] nilP := ⟨[], fun X pos h => pps_nil, fun B ρ s σ Hf H Q V p => p [] _ _ V.ext0 .nil⟩
theorem jp_cons {ks : List (Option Expr)} {vs : List Expr} {fr : Rho → M (List (Key × D))} (ha : JE c Γ a fa) (hb : JE c Γ b fb) (hr : JP c Γ ks vs fr) : JP c Γ (some a :: ks) (b :: vs) (consP fa fb fr) := by
  obtain ⟨ta, a1, a2⟩ := ha
  obtain ⟨tb, b1, b2⟩ := hb
  obtain ⟨tr, r1, r2⟩ := hr
  refine ⟨(ta, tb) :: tr, fun X pos h => pps_cons (a1 X h) (b1 X h) (r1 X pos h), fun B ρ s σ Hf H Q V p => ?_⟩
  unfold consP at p
  rw [post_bind] at p
  refine a2 B ρ s σ Hf H _ V (p.imp (fun d s1 p1 x Hf1 H1 x1 q1 => ?_) fun _ _ _ z => z)
  rw [post_bind] at p1
  have V1 := V.ext' x1
  refine b2 B ρ s1 σ Hf1 H1 _ V1 (p1.imp (fun d2 s2 p2 y Hf2 H2 x2 q2 => ?_) fun _ _ _ z => z)
  rw [post_bind] at p2
  refine r2 B ρ s2 σ Hf2 H2 _ (V1.ext' x2) (p2.imp (fun kds s3 p3 kvs Hf3 H3 x3 q3 => ?_) fun _ _ _ z => z)
  rw [post_bind, post_opt] at p3
  obtain ⟨k, hk, p4⟩ := p3
  rw [post_pure] at p4
  have e1 := asKey_v hk (VAt.fr (H := H1) q1)
  have := p4 ((k, y) :: kvs) Hf3 H3 ((x1.trans x2).trans x3) (.cons (q2.mono x3.ff) q3)
  rw [e1]
  exact this
def mergeD (kvs more : List (Key × D)) : List (Key × D) := more.foldl (fun acc kv => putD acc kv.1 kv.2) kvs
theorem AtKv.merge : ∀ {ks : List (Key × V)} {ds : List (Key × D)} {ks' : List (Key × V)} {ds' : List (Key × D)}, AtKv W H ks' ds' → AtKv W H ks ds → AtKv W H (mergeK ks ks') (mergeD ds ds')
  | _, _, _, _, .nil, r => r
  | ks, ds, (k, v) :: ks', (_, d) :: ds', .cons h t, r => by
    show AtKv W H (mergeK (putK ks k v) ks') (mergeD (putD ds k d) ds')
    exact AtKv.merge t (AtKv.put h r)
def dispF (f : Rho → M (List (Key × D))) : Rho → M D := fun ρ => do
  let l ← f ρ
  if l.length ≤ 15 then pure (.dct (mergeD [] l)) else nope
theorem jfd_disp {ks : List (Option Expr)} {vs : List Expr} {fr : Rho → M (List (Key × D))} (h : JP c Γ ks vs fr) (hall : ks.all (·.isSome) = true := by rfl) (hl : ks.length = vs.length := by rfl) (h0 : ks ≠ [] := by exact List.cons_ne_nil _ _) (h15 : ks.length ≤ 15 := by decide) : JFd c Γ (.Dict ks vs pos) (dispF fr) := by
  obtain ⟨tr, r1, r2⟩ := h
  refine ⟨tDisp tr, fun X hX => pe_disp (r1 X _ hX) hall hl h0 h15, fun B ρ s σ Hf H Q V p => ?_⟩
  unfold dispF at p
  rw [post_bind] at p
  intro D0 hD0
  obtain ⟨y0, nf0, nP0⟩ := V.ext0.newU (o := .dK []) hD0
  refine r2 B ρ s σ Hf _ _ (V.ext' y0) (p.imp (fun kds s1 p1 kvs Hf1 H1 x1 q1 => ?_) fun _ _ _ z => z)
  have hD1 : H1 D0 = some (.dK []) := x1.old _ _ nP0 upd_same
  have hDf1 : Hf1 D0 = none := x1.unf _ _ upd_same nf0
  split at p1
  · rename_i hz
    refine ⟨hD1, kvs, rfl, by rw [q1.len]; exact hz, ?_⟩
    have x2 : Ext c.W Hf H Hf1 (upd H1 D0 (.dK (mergeK [] kvs))) s1 := (y0.trans x1).write hDf1 nP0 hD0
    refine p1 _ Hf1 _ x2 ⟨D0, mergeK [] kvs, _, rfl, rfl, hD0, hDf1, nP0, upd_same, ?_, AtKv.merge q1 .nil⟩
    have := length_mergeK kvs []
    have h3 : kvs.length ≤ 15 := by rw [q1.len]; exact hz
    have h4 : (15 : Nat) ≤ sizeLine := by decide
    simp at this
    omega
  · exact p1.elim
theorem jfd_empty : JFd c Γ (.Dict [] [] pos) (fun _ => pure (.dct [])) :=
  ⟨tDNewK, fun X hX => pe_dnewK, fun B ρ s σ Hf H Q V p D0 hD0 => by
    obtain ⟨y0, nf0, nP0⟩ := V.ext0.newU (o := .dK []) hD0
    exact p _ _ _ y0 ⟨D0, [], [], rfl, rfl, hD0, nf0, nP0, upd_same, Nat.zero_le _, .nil⟩⟩
def dcL (tg : D → Rho → Option Rho) (tt : Rho → M Bool) (tk tv : Rho → M D) (ρ : Rho) (acc : List (Key × D)) : List D → M (List (Key × D))
  | [] => pure acc
  | d :: r => do
    let ρ' ← opt (tg d ρ)
    let b ← tt ρ'
    if b = true then do
      let k ← tk ρ'
      let v ← tv ρ'
      let k ← opt (asKey k)
      dcL tg tt tk tv ρ (putD acc k v) r
    else dcL tg tt tk tv ρ acc r
def dcF (vs : List Nat) (fi : Rho → M (List D)) (tg : D → Rho → Option Rho) (tt : Rho → M Bool) (tk tv : Rho → M D) : Rho → M D := fun ρ => do
  let ds ← fi ρ
  let ys ← noE (dcL tg tt tk tv (wipeR ρ vs) [] ds)
  pure (.dct ys)
def SetOk (X : Cx) (e : Expr) (t : TE) : Prop := ∀ (i : Nat) (y : Str) (p1 sp : Pos), X.N[i]? = some y → X.env.scope.names.lookup y = some .local → swapsWith e (some (.Name y p1)) sp.line X.env = pure true → PS X (.Assign [.Name y p1] e sp) (tAsg t (gName i))
theorem setOk_dc {X : Cx} {kx vx tg iter : Expr} {ifs : List Expr} {scope : Scope} {own : List (Str × Nat)} {p0 : Pos} {wi : TI} {g : TG} {tt : TT} {tk tv : TE} (calm : X.calm = true) (nd : X.N.Nodup) (hi : PI X tg iter wi) (ok : BlkOk X.N X.env.scope scope own)
    (fg : ∀ (s : Shared) (H : Hp) (C : Addr) (cl : List (Str × Addr)) (fp : List Addr), PG (X.blk s H scope (compEnvC scope cl C X.env) fp) tg g) (ft : ∀ (s : Shared) (H : Hp) (C : Addr) (cl : List (Str × Addr)) (fp : List Addr), PTs (X.blk s H scope (compEnvC scope cl C X.env) fp) ifs tt)
    (fk : ∀ (s : Shared) (H : Hp) (C : Addr) (cl : List (Str × Addr)) (fp : List Addr), PE (X.blk s H scope (compEnvC scope cl C X.env) fp) kx tk)
    (fv : ∀ (s : Shared) (H : Hp) (C : Addr) (cl : List (Str × Addr)) (fp : List Addr), PE (X.blk s H scope (compEnvC scope cl C X.env) fp) vx tv) (hs : ∀ x, foldedSetIterable iter X.env x = pure x) : SetOk X (.DictComp kx vx [⟨tg, iter, ifs, 0⟩] scope p0) (tDc wi g tt tk tv (own.map (·.2))) := by
  intro i y p1 sp hN hl hw
  refine ⟨fun pins s σ H D I h => ?_⟩
  rw [exec_Assign_Name_used _ _ _ _ hw]
  refine wpAny_bind (wpAny_standAt (wpAny_bind ?_))
  show wpAny _ X.A (do let _ ← comprehension (.DictComp kx vx [⟨tg, iter, ifs, 0⟩] scope p0) scope X.env (firstIterPos [⟨tg, iter, ifs, 0⟩] p0) newDict false (eval iter X.env) (some (assign (.Name y p1) X.env))) _ _ s
  have q : tDc wi g tt tk tv (own.map (·.2)) σ H (fun x H1 => gName i x σ H1 D.nx) := h
  refine wpAny_bind (thn (dc_core (Qf := fun _ t => SP X pins D .next t) calm nd I hi ok fg ft fk fv hs q fun L C t m H' J r hn f => ?_) fun _ t ht => wpAny_pure (wpAny_pure ht))
  show wpAny _ _ (assign (.Name y p1) X.env (.ref L)) _ _ _
  obtain ⟨f0, f1, f2, f3, f4, f5⟩ := f
  refine wpAny_assign_Name (store_ok2 (v := V.ref L) J nd hN (.inl hl) rfl (fun s2 I2 ⟨b, sb, hb⟩ => ?_) (.inr hl))
  have ne : C ≠ b := by
    rcases hb with z | z
    · rw [z]; exact f1
    · exact fun e => f4 y b z e.symm
  exact ⟨m, hn.sameBut sb ne, fun h3 s3 => ⟨_, H', I2.turned (t' := s2.toks) (fun b o hb e => (s3.2 b hb).trans e) f0 f1 f3 f4 f5, r⟩⟩
def JXs (c : Ctx) (Rs : Wd → Res) (Γ : Gam) (e : Expr) (f : Rho → M D) : Prop := ∃ t, (∀ X, Is c X → PE X e t) ∧ (∀ X, Is c X → SetOk X e t) ∧ RX c.W c.E Γ (Rs c.W) t f
theorem JXs.jx {c : Ctx} {Rs : Wd → Res} {Γ : Gam} {e : Expr} {f : Rho → M D} (h : JXs c Rs Γ e f) : JX c Rs Γ e f := by
  obtain ⟨t, h1, _, h2⟩ := h
  exact ⟨t, h1, h2⟩
theorem js_setDc {c : Ctx} {Rs : Wd → Res} {Γ Γl : Gam} {e : Expr} {f : Rho → M D} {k : Own} (i : Nat) {x : Str} {p' pos : Pos} (ft : ∀ W, Fits W (Rs W) k) (he : JXs c Rs Γ e f) (hN : c.N[i]? = some x) (hx : c.sc.names.lookup x = some .local)
    (hsw : ∀ X, Is c X → swapsWith e (some (.Name x p')) pos.line X.env = pure true) (hi : i < Γ.length := by decide) : JS c Γ (Γ.set i k) Γl (.Assign [.Name x p'] e pos) (setS i f) := by
  obtain ⟨t, _, h1, h2⟩ := he
  exact ⟨_, fun X hX => h1 X hX i x p' pos (by rw [hX.N]; exact hN) (by rw [hX.sc]; exact hx) (hsw X hX), rs_set (ft _) hi h2⟩
theorem jfd_dcS {Γ : Gam} {is : List Nat} {tg iter kx vx : Expr} {ifs : List Expr} {scope : Scope} {own : List (Str × Nat)} {fi : Rho → M (List D)} {ft : D → Rho → Option Rho} {ftt : Rho → M Bool} {fk fv : Rho → M D}
    (hi : JIv c Γ tg iter fi) (ok : BlkOk c.N c.sc scope own) (hg : JG (c.blk scope) Γ is tg ft) (ht : JTs (c.blk scope) Γ ifs ftt) (hk : JE (c.blk scope) Γ kx fk) (he : JE (c.blk scope) Γ vx fv)
    (his : ∀ i ∈ is, i ∈ own.map (·.2) := by decide) (hs : ∀ env x, foldedSetIterable iter env x = pure x := by intro _ _; rfl) : JXs c rFd Γ (.DictComp kx vx [⟨tg, iter, ifs, 0⟩] scope pos) (dcF (own.map (·.2)) fi ft ftt fk fv) := by
  obtain ⟨wi, i1, i2⟩ := hi
  obtain ⟨g, g1, g2⟩ := hg
  obtain ⟨tt, t1, t2⟩ := ht
  obtain ⟨tk, k1, k2⟩ := hk
  obtain ⟨te, e1, e2⟩ := he
  refine ⟨tDc wi g tt tk te (own.map (·.2)), fun X hX => pe_dc hX.calm hX.nd (i1 X hX) (by rw [hX.N, hX.sc]; exact ok) (fun s H C cl fp => g1 _ (hX.blk ok.kind s H C cl fp)) (fun s H C cl fp => t1 _ (hX.blk ok.kind s H C cl fp)) (fun s H C cl fp => k1 _ (hX.blk ok.kind s H C cl fp)) (fun s H C cl fp => e1 _ (hX.blk ok.kind s H C cl fp)) (hs _), fun X hX => setOk_dc hX.calm hX.nd (i1 X hX) (by rw [hX.N, hX.sc]; exact ok) (fun s H C cl fp => g1 _ (hX.blk ok.kind s H C cl fp)) (fun s H C cl fp => t1 _ (hX.blk ok.kind s H C cl fp)) (fun s H C cl fp => k1 _ (hX.blk ok.kind s H C cl fp)) (fun s H C cl fp => e1 _ (hX.blk ok.kind s H C cl fp)) (hs _), ?_⟩
  intro B ρ s σ Hf H Q V p
  unfold dcF at p
  rw [post_bind] at p
  refine i2 B ρ s σ Hf H _ V (p.imp (fun ds s1 p1 J Hf1 H1 x1 hz it => ?_) fun _ _ _ z => z)
  rw [post_bind, post_noE] at p1
  have V1 := (V.ext' x1).wipe' (own.map (·.2))
  intro D0 hD0
  obtain ⟨y0, nf0, nP0⟩ := x1.newU (o := .dK []) hD0
  have nP : D0 ≠ c.W.P := nP0
  refine ⟨fun i m H2 => ∃ Hf2 s2 acc das, i ≤ ds.length ∧ m = ds.length - i ∧ Ext c.W Hf1 H1 Hf2 H2 s2 ∧ H2 D0 = some (.dK acc) ∧ Hf2 D0 = none ∧ acc.length ≤ i ∧ AtKv c.W Hf2 acc das ∧
    Post (fun ys s' => ∀ v Hf' H', Ext c.W Hf H Hf' H' s' → rFd c.W H Hf' H' v (.dct ys) → Q v H') (fun _ _ _ => False) (dcL ft ftt fk fv (wipeR ρ (own.map (·.2))) das (ds.drop i) s2), ?_, ?_⟩
  · refine ⟨ds.length - 0, Hf1, s1, [], [], Nat.zero_le _, rfl, y0, upd_same, nf0, Nat.le_refl _, .nil, ?_⟩
    refine p1.imp (fun ys s' k v Hf' H' x r => ?_) fun _ _ _ z => z
    exact k v Hf' H' x r
  · intro i m H2 ⟨Hf2, s2, acc, das, hi, hm, x2, hD, hDf, hl, ha, p2⟩
    have hit := it i Hf2 H2 s2 x2
    by_cases hlt : i < ds.length
    · right
      have hd : ds[i]? = some ds[i] := List.getElem?_eq_getElem hlt
      obtain ⟨go, yl⟩ := hit.2 _ hd
      refine ⟨go, fun H3 => ∃ Hf3 s3 acc3 das3, Ext c.W Hf1 H1 Hf3 H3 s3 ∧ H3 D0 = some (.dK acc3) ∧ Hf3 D0 = none ∧ acc3.length ≤ i + 1 ∧ AtKv c.W Hf3 acc3 das3 ∧
        Post (fun ys s' => ∀ v Hf' H', Ext c.W Hf H Hf' H' s' → rFd c.W H Hf' H' v (.dct ys) → Q v H') (fun _ _ _ => False) (dcL ft ftt fk fv (wipeR ρ (own.map (·.2))) das3 (ds.drop (i + 1)) s3),
        fun H3 ⟨Hf3, s3, acc3, das3, q1, q2, q3, q4, q5, q6⟩ => ⟨ds.length - (i + 1), by omega, Hf3, s3, acc3, das3, hlt, rfl, q1, q2, q3, q4, q5, q6⟩, fun x H3 hy => ?_⟩
      obtain ⟨Hf3, x3, ax⟩ := yl x H3 hy
      have x13 := x2.trans x3
      have V3 : EnvAt (c.blk scope).W B Γ (wipeR ρ (own.map (·.2))) s2 (wipe σ (own.map (·.2))) Hf3 H3 := V1.ext' x13
      rw [List.drop_eq_getElem_cons hlt] at p2
      unfold dcL at p2
      rw [post_bind, post_opt] at p2
      obtain ⟨ρ', eρ, p2⟩ := p2
      refine g2 B (wipeR ρ (own.map (·.2))) s2 (wipe σ (own.map (·.2))) Hf3 H3 x _ ρ' _ V3 ax eρ fun σ' V4 w4 => ?_
      refine ⟨?_, ?_⟩
      · rw [w4 _ his, wipe_wipe fun _ h => h]
      · rw [post_bind] at p2
        refine t2 B ρ' s2 σ' Hf3 H3 _ V4 (p2.imp (fun b s3 p3 Hf4 H4 x4 => ?_) fun _ _ _ z => z.elim)
        have hD3 : H3 D0 = some (.dK acc) := x3.old _ _ nP hD
        have hDf3 : Hf3 D0 = none := x3.unf _ _ hD hDf
        have hD4 : H4 D0 = some (.dK acc) := x4.old _ _ nP hD3
        have hDf4 : Hf4 D0 = none := x4.unf _ _ hD3 hDf3
        have x14 : Ext c.W Hf1 H1 Hf4 H4 s3 := x13.trans x4
        cases b with
        | false =>
          simp only [Bool.false_eq_true, if_false] at p3 ⊢
          exact ⟨Hf4, s3, acc, das, x14, hD4, hDf4, by omega, ha.mono (x3.ff.trans x4.ff), p3⟩
        | true =>
          simp only [if_true] at p3 ⊢
          rw [post_bind] at p3
          have V4' := V4.ext' x4
          refine k2 B ρ' s3 σ' Hf4 H4 _ V4' (p3.imp (fun y s4 p4 v5 Hf5 H5 x5 r5 => ?_) fun _ _ _ z => z.elim)
          rw [post_bind] at p4
          refine e2 B ρ' s4 σ' Hf5 H5 _ (V4'.ext' x5) (p4.imp (fun z6 s6 p6 v6 Hf6 H6 x6 r6 => ?_) fun _ _ _ z => z.elim)
          rw [post_bind, post_opt] at p6
          obtain ⟨k, hk, p7⟩ := p6
          have hD5 : H5 D0 = some (.dK acc) := x5.old _ _ nP hD4
          have hDf5 : Hf5 D0 = none := x5.unf _ _ hD4 hDf4
          have hD6 : H6 D0 = some (.dK acc) := x6.old _ _ nP hD5
          have hDf6 : Hf6 D0 = none := x6.unf _ _ hD5 hDf5
          have ekey : v5 = kV k := asKey_v hk (VAt.fr (H := H5) r5)
          have hpl := putK_len acc k v6
          refine ⟨acc, k, ekey, hD6, by omega, Hf6, s6, putK acc k v6, putD das k z6, ((x14.trans x5).trans x6).write hDf6 nP hD0, upd_same, hDf6, by omega, AtKv.put r6 (ha.mono (x3.ff.trans (x4.ff.trans (x5.ff.trans x6.ff)))), p7⟩
    · left
      have e : i = ds.length := by omega
      subst e
      refine ⟨hit.1 (Nat.le_refl _), ?_⟩
      rw [List.drop_length] at p2
      have k := p2 (.ref D0) Hf2 H2 (x1.trans x2)
      exact k ⟨D0, acc, das, rfl, rfl, Rs_old x1 hD0 nP0, hDf, nP0, hD, by omega, ha⟩
theorem jfd_dc {Γ : Gam} {is : List Nat} {tg iter kx vx : Expr} {ifs : List Expr} {scope : Scope} {own : List (Str × Nat)} {fi : Rho → M (List D)} {ft : D → Rho → Option Rho} {ftt : Rho → M Bool} {fk fv : Rho → M D}
    (hi : JIv c Γ tg iter fi) (ok : BlkOk c.N c.sc scope own) (hg : JG (c.blk scope) Γ is tg ft) (ht : JTs (c.blk scope) Γ ifs ftt) (hk : JE (c.blk scope) Γ kx fk) (he : JE (c.blk scope) Γ vx fv)
    (his : ∀ i ∈ is, i ∈ own.map (·.2) := by decide) (hs : ∀ env x, foldedSetIterable iter env x = pure x := by intro _ _; rfl) : JFd c Γ (.DictComp kx vx [⟨tg, iter, ifs, 0⟩] scope pos) (dcF (own.map (·.2)) fi ft ftt fk fv) := JXs.jx (jfd_dcS hi ok hg ht hk he his hs)
end
end VL
namespace VL
open PySem PySem.Spec PyProof.Rows L2
def Le {α : Type} (m' m : M α) : Prop := ∀ s, match m' s with
  | .fail => True
  | r => m s = r
theorem Le.post {α : Type} {m' m : M α} (h : Le m' m) {A : α → Pot → Prop} {B : Nat → D → Pot → Prop} {s : Pot} (p : Post A B (m' s)) : Post A B (m s) := by
  have := h s
  cases e : m' s with
  | ok a s' => rw [e] at this p; dsimp only at this; rw [this]; exact p
  | err c v s' => rw [e] at this p; dsimp only at this; rw [this]; exact p
  | fail => rw [e] at p; exact p.elim
theorem Le.refl {α : Type} (m : M α) : Le m m := fun s => by cases m s <;> first | trivial | rfl
theorem Le.of_eq {α : Type} {m' m : M α} (h : m' = m) : Le m' m := h ▸ Le.refl _
theorem Le.nope {α : Type} {m : M α} : Le (nope : M α) m := fun s => True.intro
theorem spOf_imp {K : PySem.W.Frag} {cls : Nat → Addr} {n : Nat} {F F' : List D → M D} (h : ∀ ds, Le (F' ds) (F ds)) {vs : List V} {H : Hp} {Q : VK} {E : XK} (p : spOf K cls n F' vs H Q E) : spOf K cls n F vs H Q E := by
  obtain ⟨hl, P, Hf, ds, s, x, ha, q⟩ := p
  exact ⟨hl, P, Hf, ds, s, x, ha, (h ds).post q⟩
theorem FnI.imp {G : Glob} {x : Str} {lvl n : Nat} {dd : List D} {F F' : List D → M D} (T : FnI G x lvl n dd F) (h : ∀ ds, Le (F' ds) (F ds)) : FnI G x lvl n dd F' := by
  obtain ⟨f, fd, ps, dvs, ds, e1, e2, e3, e4, e5, e6, e7⟩ := T.ex
  exact ⟨f, fd, ps, dvs, ds, e1, e2, e3, e4.imp fun vs H Q E p => spOf_imp h p, e5, e6, e7⟩
theorem PropI.imp {G : Glob} {ci : Nat} {m : Str} {lvl : Nat} {F F' : List D → M D} (T : PropI G ci m lvl F) (h : ∀ ds, Le (F' ds) (F ds)) : PropI G ci m lvl F' := by
  obtain ⟨p, g, e1, e2, e3, e4, e5⟩ := T.ex
  exact ⟨T.sc, p, g, e1, e2, e3, e4, e5.imp fun vs H Q E p => spOf_imp h p⟩
theorem MethI.imp {G : Glob} {ci : Nat} {m : Str} {lvl n : Nat} {dd : List D} {F F' : List D → M D} (T : MethI G ci m lvl n dd F) (h : ∀ ds, Le (F' ds) (F ds)) : MethI G ci m lvl n dd F' := by
  obtain ⟨g, dvs, e1, e2, e3⟩ := T.ex
  exact ⟨T.sc, g, dvs, e1, e2.imp fun vs H Q E p => spOf_imp h p, e3⟩
end VL
namespace VL
open PySem PySem.Spec PyProof.Rows L2
inductive FldAt (W : Wd) (Hf : Hp) : List (Option V) → List (Option D) → Prop
  | nil : FldAt W Hf [] []
  | no {xs : List (Option V)} {fs : List (Option D)} (r : FldAt W Hf xs fs) : FldAt W Hf (Option.none :: xs) (Option.none :: fs)
  | ye {v : V} {d : D} {xs : List (Option V)} {fs : List (Option D)} (h : At W Hf v d) (r : FldAt W Hf xs fs) : FldAt W Hf (Option.some v :: xs) (Option.some d :: fs)
def putF (i : Nat) (d : D) (fs : List (Option D)) : List (Option D) := (fs ++ List.replicate (i + 1 - fs.length) Option.none).set i (some d)
section
variable {W : Wd} {Hf Hf' H H' : Hp}
theorem FldAt.mono (e : Same Hf Hf') : ∀ {xs : List (Option V)} {fs : List (Option D)}, FldAt W Hf xs fs → FldAt W Hf' xs fs
  | _, _, .nil => .nil
  | _, _, .no r => .no (r.mono e)
  | _, _, .ye h r => .ye (h.mono e) (r.mono e)
theorem FldAt.len : ∀ {xs : List (Option V)} {fs : List (Option D)}, FldAt W Hf xs fs → xs.length = fs.length
  | _, _, .nil => rfl
  | _, _, .no r => by simp [r.len]
  | _, _, .ye h r => by simp [r.len]
theorem FldAt.pad : ∀ {xs : List (Option V)} {fs : List (Option D)} (n : Nat), FldAt W Hf xs fs → FldAt W Hf (xs ++ List.replicate n Option.none) (fs ++ List.replicate n Option.none)
  | _, _, 0, .nil => .nil
  | _, _, n + 1, .nil => by
    have := FldAt.pad n (FldAt.nil (W := W) (Hf := Hf))
    exact .no this
  | _, _, n, .no r => .no (r.pad n)
  | _, _, n, .ye h r => .ye h (r.pad n)
theorem FldAt.set {v : V} {d : D} (h : At W Hf v d) : ∀ {xs : List (Option V)} {fs : List (Option D)} (i : Nat), FldAt W Hf xs fs → FldAt W Hf (xs.set i (some v)) (fs.set i (some d))
  | _, _, _, .nil => .nil
  | _, _, 0, .no r => .ye h r
  | _, _, 0, .ye _ r => .ye h r
  | _, _, i + 1, .no r => .no (r.set h i)
  | _, _, i + 1, .ye z r => .ye z (r.set h i)
theorem FldAt.put {v : V} {d : D} (h : At W Hf v d) {xs : List (Option V)} {fs : List (Option D)} (i : Nat) (r : FldAt W Hf xs fs) : FldAt W Hf (SlX.putS i v xs) (putF i d fs) := by
  unfold SlX.putS putF
  rw [r.len]
  exact (r.pad _).set h i
def allF : List (Option D) → Option (List D)
  | [] => some []
  | some d :: r => (allF r).map (d :: ·)
  | none :: _ => none
theorem FldAt.all : ∀ {xs : List (Option V)} {fs : List (Option D)} {ds : List D}, FldAt W Hf xs fs → allF fs = some ds → ∃ vs, xs = vs.map some ∧ AtAll W Hf vs ds
  | _, _, _, .nil, h => by cases h; exact ⟨[], rfl, .nil⟩
  | _, _, _, .no r, h => by cases h
  | _, _, _, .ye z r, h => by
    unfold allF at h
    obtain ⟨m, hm, rfl⟩ := Option.map_eq_some_iff.mp h
    obtain ⟨vs, e, k⟩ := r.all hm
    exact ⟨_ :: vs, by rw [e]; rfl, .cons z k⟩
end
structure InitAt (W : Wd) (B : Hp × Hp) (ci n : Nat) (ρ : Rho) (fs : List (Option D)) (s : Pot) (σ : L2.St) (Hf H : Hp) : Prop where
  ex : ∃ a dx xs, ρ[0]? = some (some (.tok a)) ∧ B.2 a = none ∧ B.2 dx = none ∧ a ≠ W.P ∧ dx ≠ W.P ∧ dx ≠ a ∧ Hf a = none ∧ Hf dx = none ∧ SlX.Slt H a (W.cls ci) dx xs ∧ FldAt W Hf xs fs ∧ (∃ o, H a = some o) ∧ (∃ o, H dx = some o)
  ext : Ext W B.1 B.2 Hf H s
  env : EnvAt W (Hf, H) (gam0 n) ρ s σ Hf H
section
variable {c : Ctx} {W : Wd} {E : XK} {Γ Γ' Γ'' Γl : Gam} {e a b d' o : Expr} {f fa fb fc fo : Rho → M D} {pos : Pos} {Hf H : Hp} {st : Stmt} {sts rest : List Stmt} {n ci : Nat}
theorem env_all {B : Hp × Hp} {ρ : Rho} {s : Pot} {σ : L2.St} (V : EnvAt W B (gam0 n) ρ s σ Hf H) : ∀ (i : Nat) (d : D), ρ[i]? = some (some d) → ∃ v, σ[i]? = some (some v) ∧ At W Hf v d := fun i d e => by
  obtain ⟨ow, g1, g2⟩ := V.own
  obtain ⟨v, e1, z⟩ := g1 i d e
  rw [getD_rep] at z
  exact ⟨v, e1, z⟩
theorem env_mk {ρ : Rho} {s : Pot} {σ : L2.St} (x : Ext W Hf H Hf H s) (hl : σ.length = ρ.length) (h : ∀ (i : Nat) (d : D), ρ[i]? = some (some d) → ∃ v, σ[i]? = some (some v) ∧ At W Hf v d) : EnvAt W (Hf, H) (gam0 n) ρ s σ Hf H :=
  ⟨x, hl, fun _ => none, fun i d e => by obtain ⟨v, e1, z⟩ := h i d e; exact ⟨v, e1, by rw [getD_rep]; exact z⟩, fun q i e => nomatch e⟩
def RIni (W : Wd) (E : XK) (ci n : Nat) (t : TS) (f : Rho → List (Option D) → M (Rho × List (Option D))) : Prop :=
  ∀ B ρ fs s σ Hf H D, InitAt W B ci n ρ fs s σ Hf H → Post (fun r s' => ∀ σ' Hf' H', InitAt W B ci n r.1 r.2 s' σ' Hf' H' → D.nx σ' H') (ErrOk W B E) (f ρ fs s) → t D σ H
def JIni (c : Ctx) (ci n : Nat) (st : Stmt) (f : Rho → List (Option D) → M (Rho × List (Option D))) : Prop := ∃ t, (∀ X, Is c X → PS X st t) ∧ RIni c.W c.E ci n t f
def JInis (c : Ctx) (ci n : Nat) (st : List Stmt) (f : Rho → List (Option D) → M (Rho × List (Option D))) : Prop := ∃ t, (∀ X, Is c X → PSs X st t) ∧ RIni c.W c.E ci n t f
def seqI (f g : Rho → List (Option D) → M (Rho × List (Option D))) : Rho → List (Option D) → M (Rho × List (Option D)) := fun ρ fs => do
  let r ← f ρ fs
  g r.1 r.2
theorem jini_nil : JInis c ci n [] (fun ρ fs => pure (ρ, fs)) := ⟨_, fun X h => pss_nil, fun B ρ fs s σ Hf H D V p => p _ _ _ V⟩
theorem jini_cons {f g : Rho → List (Option D) → M (Rho × List (Option D))} (h1 : JIni c ci n st f) (h2 : JInis c ci n sts g) : JInis c ci n (st :: sts) (seqI f g) := by
  obtain ⟨t, a1, a2⟩ := h1
  obtain ⟨u, b1, b2⟩ := h2
  refine ⟨tSeq t u, fun X h => pss_cons (a1 X h) (b1 X h), fun B ρ fs s σ Hf H D V p => ?_⟩
  unfold seqI at p
  rw [post_bind] at p
  refine a2 B ρ fs s σ Hf H _ V (p.imp (fun r s1 p1 σ' Hf' H' V' => ?_) fun _ _ _ z => z)
  exact b2 B r.1 r.2 s1 σ' Hf' H' D V' p1
def sameTok (ρ ρ' : Rho) : Bool := match ρ[0]?, ρ'[0]? with
  | some (some (D.tok a)), some (some (D.tok b)) => a == b
  | _, _ => false
def plainI (g : Rho → M Fl) : Rho → List (Option D) → M (Rho × List (Option D)) := fun ρ fs => do
  let z ← g ρ
  match z with
  | .nx ρ' => if sameTok ρ ρ' = true then pure (ρ', fs) else nope
  | _ => nope
theorem jini_plain {g : Rho → M Fl} (h : JS c (gam0 n) (gam0 n) (gam0 n) st g) : JIni c ci n st (plainI g) := by
  obtain ⟨t, h1, h2⟩ := h
  refine ⟨t, h1, fun B ρ fs s σ Hf H D V p => ?_⟩
  obtain ⟨a, dx, xs, e1, e2, e3, e4, e5, e6, e7, e8, e9, e10, e11, e12⟩ := V.ex
  unfold plainI at p
  rw [post_bind] at p
  refine h2 (Hf, H) ρ s σ Hf H D V.env (p.imp (fun z s1 p1 => ?_) fun n v s1 z => z.back V.ext)
  cases z with
  | rt d => exact p1.elim
  | bk _ => exact p1.elim
  | ct _ => exact p1.elim
  | nx ρ' =>
    intro σ' Hf' H' V'
    dsimp only at p1
    split at p1
    · rename_i hst
      obtain ⟨o1, h1⟩ := e11
      obtain ⟨o2, h2⟩ := e12
      have tok' : ρ'[0]? = some (some (.tok a)) := by
        unfold sameTok at hst
        rw [e1] at hst
        split at hst
        · rename_i a1 b1 q1 q2
          cases q1
          rw [q2]
          simp at hst
          rw [hst]
        · cases hst
      have x := V'.ext
      refine p1 σ' Hf' H' ⟨⟨a, dx, xs, tok', e2, e3, e4, e5, e6, x.unf _ _ h1 e7, x.unf _ _ h2 e8, ?_, e10.mono x.ff, ⟨o1, x.old _ _ e4 h1⟩, ⟨o2, x.old _ _ e5 h2⟩⟩, V.ext.trans x, env_mk x.refl V'.len (env_all V')⟩
      rcases e9 with ⟨z1, z2⟩ | ⟨z1, z2⟩
      · exact .inl ⟨x.old _ _ e4 z1, z2⟩
      · exact .inr ⟨x.old _ _ e4 z1, x.old _ _ e5 z2⟩
    · exact p1.elim
def setI (i : Nat) (fe : Rho → M D) : Rho → List (Option D) → M (Rho × List (Option D)) := fun ρ fs => do
  let d ← fe ρ
  pure (ρ, putF i d fs)
theorem jini_set {i : Nat} {pd : Addr} {x fl : Str} {px pa : Pos} (hc : SlX.SCls c.G.K (c.G.cls ci)) (hs : SlX.Slot1 c.G.K (c.G.cls ci) fl pd i) (he : JE c (gam0 n) e f) (hN : c.N[0]? = some x) (hv : Vis c.sc x)
    (hd : (x == ("__debug__" : Str)) = false := by decide) (hcd : (x == ("__classdict__" : Str)) = false := by decide) (hw : swapsWith e (some (.Attribute (.Name x px) fl pa)) pos.line (envS c.sc) = pure false := by rfl) :
    JIni c ci n (.Assign [.Attribute (.Name x px) fl pa] e pos) (setI i f) := by
  obtain ⟨t, h1, h2⟩ := he
  refine ⟨SlX.sSl c.W.K (tVar 0) t fl, fun X hX => by have q := SlX.ps_sl (X := X) (o := .Name x px) (value := e) (f := fl) (pos := pos) (pos' := pa) (pe_var (i := 0) (x := x) (pos := px) (by rw [hX.N]; exact hN) (hX.vis hv) hd hcd) (h1 X hX) (hX.swp hw); rw [hX.K] at q; exact q, fun B ρ fs s σ Hf H D V p => ?_⟩
  obtain ⟨a, dx, xs, e1, e2, e3, e4, e5, e6, e7, e8, e9, e10, e11, e12⟩ := V.ex
  obtain ⟨o1, g1⟩ := e11
  obtain ⟨o2, g2⟩ := e12
  unfold setI at p
  rw [post_bind] at p
  refine h2 (Hf, H) ρ s σ Hf H _ V.env (p.imp (fun d s1 p1 v Hf1 H1 x1 r1 => ?_) fun n v s1 z => z.back V.ext)
  have V1 := V.env.ext' x1
  obtain ⟨w, hw, aw⟩ := env_all V1 0 _ e1
  cases aw
  have z9 : SlX.Slt H1 a (c.W.cls ci) dx xs := by
    rcases e9 with ⟨z1, z2⟩ | ⟨z1, z2⟩
    · exact .inl ⟨x1.old _ _ e4 z1, z2⟩
    · exact .inr ⟨x1.old _ _ e4 z1, x1.old _ _ e5 z2⟩
  have ha1 : Hf1 a = none := x1.unf _ _ g1 e7
  have hx1 : Hf1 dx = none := x1.unf _ _ g2 e8
  refine ⟨.ref a, hw, a, _, dx, pd, xs, i, rfl, z9, hc, hs, ?_⟩
  rw [post_pure] at p1
  have y1 : Ext c.W B.1 B.2 Hf1 (upd H1 dx (.xd [])) s1 := (V.ext.trans x1).write hx1 e5 e3
  have y2 : Ext c.W B.1 B.2 Hf1 (SlX.slH H1 a (c.W.cls ci) dx (SlX.putS i v xs)) s1 := y1.write ha1 e4 e2
  refine p1 σ Hf1 _ ⟨⟨a, dx, SlX.putS i v xs, e1, e2, e3, e4, e5, e6, ha1, hx1, SlX.slH_slt e6, (e10.mono x1.ff).put r1 i, ⟨_, upd_same⟩, ?_⟩, y2, env_mk y2.refl V1.len (env_all V1)⟩
  exact ⟨_, by unfold SlX.slH; rw [upd_ne e6]; exact upd_same⟩
def spIni (K : PySem.W.Frag) (cls : Nat → Addr) (ci n : Nat) (F : List D → M (List D)) : Sp := fun vs H Q E => vs.length = n + 1 ∧ ∃ (P a dx : Addr) (vs' : List V) (B : Hp × Hp) (Hf : Hp) (ds : List D) (s : Pot), vs = .ref a :: vs' ∧
  B.2 a = none ∧ B.2 dx = none ∧ a ≠ P ∧ dx ≠ P ∧ dx ≠ a ∧ Hf a = none ∧ Hf dx = none ∧ H a = some (.ins (cls ci) dx []) ∧ (∃ o, H dx = some o) ∧ Ext ⟨K, cls, P⟩ B.1 B.2 Hf H s ∧ AtAll ⟨K, cls, P⟩ Hf vs' ds ∧
  Post (fun fd s' => ∀ Hf' H', Ext ⟨K, cls, P⟩ B.1 B.2 Hf' H' s' → At ⟨K, cls, P⟩ Hf' (.ref a) (.obj ci fd) → Q .non H') (ErrOk ⟨K, cls, P⟩ B E) (F ds s)
def rhoI (n a : Nat) (ds : List D) : Rho := rho0 n (.tok a :: ds)
def runIni (n : Nat) (body : Rho → List (Option D) → M (Rho × List (Option D))) (a : Nat) : List D → M (List D) := fun ds => do
  let r ← body (rhoI n a ds) []
  if sameTok (rhoI n a ds) r.1 = true then opt (allF r.2) else nope
structure MkI (G : Glob) (x : Str) (ci lvl n : Nat) (dd : List D) (F : List D → M (List D)) : Prop where
  ex : ∃ (f : Addr) (fd : FuncData) (ps : List Str) (dvs : List V) (ds : List Value), G.mg x = some (.ref (G.cls ci)) ∧ Mk G.K (G.cls ci) f ∧ FnOk G.prog G.w G.K G.mg G.base (L2.CX G.prog G.w) lvl f fd ps (spIni G.K G.cls ci n F) ∧ Binds G.K fd ps ds ∧ Vals dvs ds ∧ (∀ P H, AtAll ⟨G.K, G.cls, P⟩ H dvs dd)
def makeF (ci n : Nat) (F : List D → M (List D)) (dd : List D) (fs : Rho → M (List D)) : Rho → M D := fun ρ => do
  let ds ← fs ρ
  let l ← (if (ds ++ dd).length = n then F (ds ++ dd) else nope)
  pure (.obj ci l)
theorem je_make {x : Str} {ci lvl n : Nat} {dd : List D} {F : List D → M (List D)} {es : List Expr} {fs : Rho → M (List D)} {p : Pos} (T : MkI c.G x ci lvl n dd F) (hl : lvl + 1 ≤ c.k) (ha : JA c Γ (e :: es) fs) (hg : c.sc.names.lookup x = some .globalImplicit)
    (he : ∀ env, starEach (e :: es) env = (false, eval e env) :: starEach es env := by intro _; rfl) (hpl : ∀ env, (backTo pos (starEach es env)).any (·.1) = false := by intro _; rfl) (hd : (x == ("__debug__" : Str)) = false := by decide) :
    JE c Γ (.Call (.Name x p) (e :: es) [] pos) (makeF ci n F dd fs) := by
  obtain ⟨t, h1, h2⟩ := ha
  obtain ⟨fa, fd, ps, dvs, ds, e1, e2, e3, e4, e5, e6⟩ := T.ex
  refine ⟨tMake (c.G.cls ci) (spIni c.G.K c.G.cls ci n F) dvs c.E t, fun X hX => ?_, fun B ρ s σ Hf H Q V p => ?_⟩
  · refine pe_make (k := lvl) (f := fa) (fd := fd) (ps := ps) (ds := ds) (by rw [hX.K]; exact e2) (by rw [hX.prog, hX.w, hX.K, hX.mg, hX.base]; exact e3) (hX.room.mono hl) (hX.gl hg) (by rw [hX.mg]; exact e1) (by rw [hX.K]; exact e4) e5 ?_ (h1 X hX) (hdb := hd) (he := he _) (hpl := hpl _)
    have := hX.pass
    rw [hX.prog, hX.w] at this
    exact this
  · unfold makeF at p
    rw [post_bind] at p
    refine h2 B ρ s σ Hf H _ V (p.imp (fun l s1 p1 vs Hf1 H1 x1 r1 => ?_) fun _ _ _ z => z)
    intro y dx hy hdx hne
    rw [post_bind] at p1
    split at p1
    · rename_i hn
      have z1 := x1.newU (o := .own y) hdx
      have hy2 : (upd H1 dx (.own y)) y = none := by rw [upd_ne (Ne.symm hne)]; exact hy
      have V1 := V.ext' x1
      have z0 := V1.ext0.newU (o := .own y) hdx
      obtain ⟨x2, f2, P2⟩ := z0
      obtain ⟨x3, f3, P3⟩ := (V1.ext0.trans x2).newU (o := .ins (c.G.cls ci) dx []) hy2
      refine ⟨by have := r1.len; have e7 := (e6 c.P Hf1).len; simp at hn ⊢; omega, c.P, y, dx, _, (Hf1, H1), Hf1, _, s1, rfl, hy, hdx, P3, P2, hne, f3, f2, upd_same, ⟨_, by rw [upd_ne hne]; exact upd_same⟩, x2.trans x3, r1.append (e6 _ _), ?_⟩
      refine p1.imp (fun l s2 p2 Hf' H' x' a' => ⟨rfl, ?_⟩) fun n v s2 z => z.back V1.ext
      rw [post_pure] at p2
      exact p2 _ _ _ (x1.trans x') a'
    · exact p1.elim
end
end VL
namespace VL
open PySem PySem.Spec PyProof.Rows L2
def visB (sc : Scope) (x : Str) : Bool := match sc.names.lookup x with
  | some .local => true
  | some .cell => true
  | some .free => true
  | _ => false
theorem vis_of {sc : Scope} {x : Str} (h : visB sc x = true) : Vis sc x := by
  unfold visB at h
  unfold Vis
  split at h
  · rename_i e; exact .inl e
  · rename_i e; exact .inr (.inl e)
  · rename_i e; exact .inr (.inr e)
  · cases h
def locB (sc : Scope) (x : Str) : Bool := match sc.names.lookup x with
  | some .local => true
  | some .cell => true
  | _ => false
theorem loc_of {sc : Scope} {x : Str} (h : locB sc x = true) : L2.Loc sc x := by
  unfold locB at h
  unfold L2.Loc
  split at h
  · rename_i e; exact .inl e
  · rename_i e; exact .inr e
  · cases h
def blkB (N : List Str) (sc scope : Scope) (own : List (Str × Nat)) : Bool :=
  decide (scope.kind = .function) && scope.names.all (fun y => decide (scope.names.lookup y.1 = some y.2)) && own.all (fun p => decide (N[p.2]? = some p.1)) &&
  scope.names.all (fun y => decide (y.2 ≠ .free) || decide (sc.names.lookup y.1 = some .cell) || decide (sc.names.lookup y.1 = some .free)) &&
  scope.names.all (fun y => (decide (y.2 ≠ .local) && decide (y.2 ≠ .cell)) || decide (y.1 ∈ own.map (·.1)) || decide (y.1 ∉ N))
theorem blk_of {N : List Str} {sc scope : Scope} {own : List (Str × Nat)} (h : blkB N sc scope own = true) : BlkOk N sc scope own := by
  simp only [blkB, Bool.and_eq_true, List.all_eq_true, Bool.or_eq_true, decide_eq_true_eq] at h
  obtain ⟨⟨⟨⟨h1, h2⟩, h3⟩, h4⟩, h5⟩ := h
  refine ⟨h1, h2, h3, fun y hy hf => ?_, fun y hy hl => ?_⟩
  · rcases h4 y hy with (a | a) | a
    · exact absurd hf a
    · exact .inl a
    · exact .inr a
  · rcases h5 y hy with (⟨a, b⟩ | a) | a
    · rcases hl with hl | hl
      · exact absurd hl a
      · exact absurd hl b
    · exact .inl a
    · exact .inr a
structure SlotE (G : Glob) (ci : Nat) (f : Str) (i : Nat) : Prop where
  ex : ∃ p, SlX.Slot1 G.K (G.cls ci) f p i
section
variable {c : Ctx} {Γ : Gam} {e o : Expr} {f fo : Rho → M D} {pos : Pos} {n ci i : Nat}
theorem je_fldE {fl : Str} (ha : JE c Γ o fo) (hc : SlX.SCls c.G.K (c.G.cls ci)) (hs : SlotE c.G ci fl i) (hb : ∀ env, attributeBase o fl env (eval o env) = eval o env := by intro _; rfl) : JE c Γ (.Attribute o fl pos) (fldF ci i fo) := by
  obtain ⟨p, h⟩ := hs.ex
  exact je_fld ha hc h hb
theorem jini_setE {x fl : Str} {px pa : Pos} (hc : SlX.SCls c.G.K (c.G.cls ci)) (hs : SlotE c.G ci fl i) (he : JE c (gam0 n) e f) (hN : c.N[0]? = some x) (hv : Vis c.sc x)
    (hd : (x == ("__debug__" : Str)) = false := by decide) (hcd : (x == ("__classdict__" : Str)) = false := by decide) (hw : swapsWith e (some (.Attribute (.Name x px) fl pa)) pos.line (envS c.sc) = pure false := by rfl) :
    JIni c ci n (.Assign [.Attribute (.Name x px) fl pa] e pos) (setI i f) := by
  obtain ⟨p, h⟩ := hs.ex
  exact jini_set hc h he hN hv hd hcd hw
end
end VL
namespace VL
open PySem PySem.Spec PyProof.Rows L2
theorem def_okD {G : Glob} {x qual : Str} {params : Arguments} {bdy : List Stmt} {scope : Scope} {dvs : List V} {kws : List (Str × V)} {f : Addr} {fd : FuncData} {N ps : List Str} {k n : Nat} {Γ' Γl : Gam} {body : Rho → M Fl} (F : FunD G.K x qual params bdy scope dvs kws f fd) (S : FnScope N ps scope) (hn : N.length = n) (h : ∀ P E, JSs (ctxOf G N scope k P E) (gam0 n) Γ' Γl bdy body) (hps : ps.length ≤ N.length) :
    FnOk G.prog G.w G.K G.mg G.base (L2.CX G.prog G.w) (k + 1) f fd ps (spOf G.K G.cls ps.length (runD n body)) := by
  subst hn
  refine F.ok (CX := L2.CX G.prog G.w) S (fun vs H Q E h => h.1) (fun cdv A outer s H vs Q E hr hsp => ?_)
  obtain ⟨hl, P, Hf, ds, s0, x, ha, p⟩ := hsp
  obtain ⟨t, h1, h2⟩ := h P E
  refine ⟨t, h1 _ (is_def S hr), h2 (Hf, H) (rho0 N.length ds) s0 (L2.start N vs) Hf H _ (env_start x ha (by omega)) ?_⟩
  unfold runD at p
  rw [post_bind] at p
  refine p.imp (fun z s1 k => ?_) fun _ _ _ z => z
  cases z with
  | nx ρ' => exact fun σ' Hf' H' V => k .non _ _ V.ext .non
  | rt d => exact fun v Hf' H' y a => k v _ _ y a
  | bk _ => exact k.elim
  | ct _ => exact k.elim
theorem init_okD {G : Glob} {x qual : Str} {params : Arguments} {bdy : List Stmt} {scope : Scope} {dvs : List V} {kws : List (Str × V)} {f : Addr} {fd : FuncData} {N ps : List Str} {k n m ci : Nat} {body : Rho → List (Option D) → M (Rho × List (Option D))} {F : List D → M (List D)} (T : FunD G.K x qual params bdy scope dvs kws f fd) (S : FnScope N ps scope) (hn : N.length = n) (h : ∀ P E, JInis (ctxOf G N scope k P E) ci n bdy body) (hps : ps.length = m + 1) (hmn : m + 1 ≤ n)
    (hF : ∀ a ds, Le (F ds) (runIni n body a ds)) : FnOk G.prog G.w G.K G.mg G.base (L2.CX G.prog G.w) (k + 1) f fd ps (spIni G.K G.cls ci m F) := by
  subst hn
  refine T.ok (CX := L2.CX G.prog G.w) S (fun vs H Q E h => by rw [hps]; exact h.1) (fun cdv A outer s H vs Q E hr hsp => ?_)
  obtain ⟨hl, P, a, dx, vs', B, Hf, ds, s0, rfl, e1, e2, e3, e4, e5, e6, e7, e8, e9, x, ha, p⟩ := hsp
  obtain ⟨t, h1, h2⟩ := h P E
  have p := (hF a ds).post p
  unfold runIni at p
  rw [post_bind] at p
  have len : (V.ref a :: vs').length ≤ N.length := by rw [hl]; exact hmn
  have en : EnvAt ⟨G.K, G.cls, P⟩ (Hf, H) (gam0 N.length) (rho0 N.length (.tok a :: ds)) s0 (L2.start N (V.ref a :: vs')) Hf H := env_start x.refl (.cons (.tok a) ha) len
  refine ⟨t, h1 _ (is_def S hr), h2 B _ [] s0 _ Hf H _ ⟨⟨a, dx, [], rfl, e1, e2, e3, e4, e5, e6, e7, .inl ⟨e8, rfl⟩, .nil, ⟨_, e8⟩, e9⟩, x, en⟩ (p.imp (fun r s1 k σ' Hf' H' V => ?_) fun _ _ _ z => z)⟩
  split at k
  · rename_i hst
    rw [post_opt] at k
    obtain ⟨fd', hfd, k⟩ := k
    obtain ⟨a', dx', xs, z1, z2, z3, z4, z5, z6, z7, z8, z9, z10, z11, z12⟩ := V.ex
    have ea : a' = a := by
      unfold sameTok at hst
      have q0 : (rhoI N.length a ds)[0]? = some (some (D.tok a)) := rfl
      rw [q0, z1] at hst
      have q1 : a = a' := by simpa using hst
      exact q1.symm
    subst ea
    obtain ⟨vs, rfl, hall⟩ := z10.all hfd
    obtain ⟨o1, g1⟩ := z11
    obtain ⟨o2, g2⟩ := z12
    have x1 := V.ext.freeze g2 z8 z5 z3
    have x2 := x1.freeze g1 (by rw [upd_ne (Ne.symm z6)]; exact z7) z4 z2
    refine k _ _ x2 ?_
    have hsl : SlX.Slt (upd (upd Hf' dx' o2) a' o1) a' (G.cls ci) dx' (vs.map some) := by
      rcases z9 with ⟨w1, w2⟩ | ⟨w1, w2⟩
      · rw [g1] at w1
        cases w1
        exact .inl ⟨upd_same, w2⟩
      · rw [g1] at w1
        rw [g2] at w2
        cases w1
        cases w2
        exact .inr ⟨upd_same, by rw [upd_ne z6]; exact upd_same⟩
    refine .obj hsl (hall.mono ?_)
    have s1 : Same Hf' (upd Hf' dx' o2) := fun b o hb => by
      by_cases e : b = dx'
      · rw [e, z8] at hb; cases hb
      · rw [upd_ne e]; exact hb
    have s2 : Same (upd Hf' dx' o2) (upd (upd Hf' dx' o2) a' o1) := fun b o hb => by
      by_cases e : b = a'
      · rw [e, upd_ne (Ne.symm z6), z7] at hb; cases hb
      · rw [upd_ne e]; exact hb
    exact s1.trans s2
  · exact k.elim
section
variable {G : Glob} {x : Str} {lvl n : Nat} {dd : List D} {F : List D → M D} {f g p : Addr} {fd : FuncData} {ps : List Str} {dvs : List V} {ds : List Value} {ci : Nat} {m : Str}
theorem fnI_mk (o : FnOk G.prog G.w G.K G.mg G.base (L2.CX G.prog G.w) lvl f fd ps (spOf G.K G.cls n F)) (hm : G.mg x = some (.ref f)) (kp : PySem.W.keepIn G.K (.ref f) = true) (hn : ps.length = n) (b : Binds G.K fd ps ds) (v : Vals dvs ds) (ha : ∀ P H, AtAll ⟨G.K, G.cls, P⟩ H dvs dd) : FnI G x lvl n dd F :=
  ⟨f, fd, ps, dvs, ds, hm, kp, hn, o, b, v, ha⟩
theorem propI_mk (sc : SlX.SCls G.K (G.cls ci)) (o : FnOk G.prog G.w G.K G.mg G.base (L2.CX G.prog G.w) lvl g fd ps (spOf G.K G.cls 1 F)) (b : Binds G.K fd ps []) (e1 : PySem.W.findIn G.K (.ref (G.cls ci)) m = some (some (.ref p))) (e2 : PySem.W.specialIn G.K (.ref p) "__get__" = some (some (.builtin "property.__get__"))) (e3 : PySem.W.takesIn G.K (.ref p) = some true) {rest : List Value} (e4 : PySem.W.recIn G.K p "property" = some (.ref g :: rest)) : PropI G ci m lvl F :=
  ⟨sc, p, g, e1, e2, e3, ⟨rest, e4⟩, (FnOk.raw o b .nil).imp fun vs H Q E h => by rw [List.append_nil]; exact h⟩
theorem methI_mk (sc : SlX.SCls G.K (G.cls ci)) (o : FnOk G.prog G.w G.K G.mg G.base (L2.CX G.prog G.w) lvl g fd ps (spOf G.K G.cls n F)) (b : Binds G.K fd ps ds) (v : Vals dvs ds) (hm : Meth G.K (G.cls ci) m g) (ha : ∀ P H, AtAll ⟨G.K, G.cls, P⟩ H dvs dd) : MethI G ci m lvl n dd F :=
  ⟨sc, g, dvs, hm, FnOk.raw o b v, ha⟩
theorem mkI_mk {F : List D → M (List D)} (o : FnOk G.prog G.w G.K G.mg G.base (L2.CX G.prog G.w) lvl f fd ps (spIni G.K G.cls ci n F)) (hm : G.mg x = some (.ref (G.cls ci))) (mk : Mk G.K (G.cls ci) f) (b : Binds G.K fd ps ds) (v : Vals dvs ds) (ha : ∀ P H, AtAll ⟨G.K, G.cls, P⟩ H dvs dd) : MkI G x ci lvl n dd F :=
  ⟨f, fd, ps, dvs, ds, hm, mk, o, b, v, ha⟩
end
section
variable {P : Program} {w : World} {K : PySem.W.Frag} {mg : Str → Option Value} {base : Heap} {f : Addr} {fd : FuncData} {pa : Arguments} {bd : List Stmt} {sc : Scope} {dvs : List V} {kws : List (Str × V)}
theorem vis_par' {N ps : List Str} (S : FnScope N ps sc) {x : Str} (h : x ∈ ps) : Vis sc x := by
  rcases S.par x h with h | h
  · exact .inl h
  · exact .inr (.inl h)
abbrev cellsB (p1 p2 p3 p4 p5 p6 p7 p8 p9 p10 p11 p12 p13 p14 : Pos) (k0 : Nat) : List Stmt :=
  [.Return (some (.Call (.Name "list" p1) [.Call (.Name "range" p2) [.Call (.Name "max" p3) [.Constant (.int 1) k0 p4, .Call (.Name "min" p5) [.Name "_law_limit" p6, .Call (.Name "len" p7) [.Name "_law_script" p8] [] p9] [] p10] [] p11] [] p12] [] p13)) p14]
def cellsN (lim : Int) (n : Nat) : Int := let m := if (n : Int) < lim then (n : Int) else lim; if m > 1 then m else 1
def spCells (K : PySem.W.Frag) : Sp := fun vs H Q _ => ∃ (l : Addr) (ns : List Int) (lim : Int), vs = [.ref l, .int lim] ∧ SqL K H l (ns.map V.int) ∧ ns.length ≤ 63 ∧ lim ≤ 1000 ∧ ∀ q, H q = none → Q (.ref q) (upd H q (.lst (rgV 0 (cellsN lim ns.length))))
theorem ok_cells {p1 p2 p3 p4 p5 p6 p7 p8 p9 p10 p11 p12 p13 p14 : Pos} {k0 : Nat} {CX : CXT} (F : FunD K "_law_cells" "_law_cells" pa bd sc dvs kws f fd) (S : FnScope ["_law_script", "_law_limit"] ["_law_script", "_law_limit"] sc) (hb : bd = cellsB p1 p2 p3 p4 p5 p6 p7 p8 p9 p10 p11 p12 p13 p14 k0)
    (g1 : sc.names.lookup ("list" : Str) = some .globalImplicit) (g2 : sc.names.lookup ("range" : Str) = some .globalImplicit) (g3 : sc.names.lookup ("max" : Str) = some .globalImplicit) (g4 : sc.names.lookup ("min" : Str) = some .globalImplicit) (g5 : sc.names.lookup ("len" : Str) = some .globalImplicit)
    (m1 : mg "list" = none) (m2 : mg "range" = none) (m3 : mg "max" = none) (m4 : mg "min" = none) (m5 : mg "len" = none) : FnOk P w K mg base CX 1 f fd ["_law_script", "_law_limit"] (spCells K) := by
  subst hb
  refine F.ok (CX := CX) S (fun vs H Q E h => ?_) (fun cdv A outer s H vs Q E hr h => ?_)
  · obtain ⟨l, ns, lim, rfl, _⟩ := h; rfl
  · obtain ⟨l, ns, lim, rfl, hs, hl, hlim, q⟩ := h
    refine ⟨_, pss_one (ps_ret (pe_listRg rfl g1 m1 (prg_1 g2 m2 (pe_callB (call_max2 rfl) g3 m3 boot_max (pa_cons pe_int (pa_cons (pe_callB (call_min2 rfl) g4 m4 boot_min (pa_cons (pe_var (i := 1) rfl (vis_par' S (by simp))) (pa_cons (pe_callB call_len g5 m5 boot_len (pa_cons (pe_var (i := 0) rfl (vis_par' S (by simp))) pa_nil)) pa_nil))) pa_nil)))))), ?_⟩
    refine ⟨_, rfl, _, rfl, _, _, rfl, .inl ⟨_, hs, rfl⟩, _, _, rfl, _, _, rfl, _, rfl, ?_, fun z hz => ?_⟩
    · rw [List.length_map]
      refine RgOk.of_le (by decide) ?_ (by decide) ?_
      · split <;> split <;> omega
      · split <;> omega
    · have := q z hz
      rw [List.length_map]
      exact this
end
end VL
namespace VL
open PySem PySem.Spec PyProof.Rows L2
theorem op_powW {X : Cx} : OpR X (binaryOp .Pow) (rI (fun i j => 0 ≤ j ∧ (Builtin.Int.intBits i : Int) * j ≤ 2 ^ 27) fun i j => .int (i ^ j.toNat)) := opI fun _ _ _ _ _ _ _ hc q => pow_int hc.1 hc.2 q
section
variable {P : Program} {w : World} {K : PySem.W.Frag} {mg : Str → Option Value} {base : Heap} {f : Addr} {fd : FuncData} {pa : Arguments} {bd : List Stmt} {sc : Scope} {dvs : List V} {kws : List (Str × V)}
abbrev potB (p1 p2 p3 p4 p5 p6 p7 p8 p9 p10 p11 p12 p13 p14 p15 p16 p17 p18 p19 p20 p21 p22 p23 p24 p25 p26 p27 p28 p29 p30 p31 p32 p33 p34 p35 p36 p37 p38 p39 p40 p41 p42 p43 p44 p45 p46 p47 p48 p49 p50 p51 p52 p53 p54 p55 p56 p57 p58 p59 p60 p61 p62 p63 p64 p65 : Pos) (k1 k2 k3 k4 k5 k6 k7 k8 k9 k10 k11 k12 k13 : Nat) (c1 c2 c3 : Int) : List Stmt :=
  [.Assign [.Name "_law_cell" p1] (.IfExp (.Compare (.Name "_law_place" p2) [.Lt] [.Call (.Name "len" p3) [.Name "_law_script" p4] [] p5] p6) (.Subscript (.Name "_law_script" p7) (.Name "_law_place" p8) p9)
     (.BinOp (.BinOp (.Constant (.int c1) k1 p10) .Mult (.Name "_law_place" p11) p12) .Add (.Constant (.int c2) k2 p13) p14) p15) p16,
   .Assign [.Name "_law_own" p17] (.BinOp (.BinOp (.Call (.Name "int" p18) [.Call (.Name "abs" p19) [.Name "_law_cell" p20] [] p21] [] p22) .Mod
     (.BinOp (.BinOp (.Constant (.int 10) k3 p23) .Pow (.Constant (.int 60) k4 p24) p25) .Pow (.Constant (.int 5) k5 p26) p27) p28) .Mult
     (.Call (.Name "int" p29) [.Compare (.Call (.Name "abs" p30) [.Name "_law_cell" p31] [] p32) [.GtE] [.BinOp (.Constant (.int 10) k6 p33) .Pow (.Constant (.int 18) k7 p34) p35] p36] [] p37) p38) p39,
   .Assign [.Name "_law_small" p40] (.BinOp (.Call (.Name "int" p41) [.Name "_law_cell" p42] [] p43) .Mod (.Constant (.int 2305843009213693951) k8 p44) p45) p46,
   .Return (some (.List [.Name "_law_own" p47, .BinOp (.Call (.Name "int" p48) [.BinOp (.BinOp (.BinOp (.Name "_law_small" p49) .Mult (.Constant (.int c3) k9 p50) p51) .Add
     (.BinOp (.BinOp (.Constant (.int 7309) k10 p52) .Mult (.Name "_law_place" p53) p54) .Mult (.Name "_law_place" p55) p56) p57) .Add (.Constant (.int 163) k11 p58) p59] [] p60) .Mod (.Constant (.int 2305843009213693921) k12 p61) p62, .Constant (.int 0) k13 p63] p64)) p65]
def spPot (K : PySem.W.Frag) : Sp := fun vs H Q _ => ∃ (l : Addr) (ns : List Int) (j : Nat), vs = [.ref l, .int (j : Nat)] ∧ SqL K H l (ns.map V.int) ∧ ns.length ≤ 63 ∧ j < 1000 ∧ ∀ (q : Addr) (x y : Int), H q = none → 0 ≤ x → 0 ≤ y → y < 2305843009213693921 → Q (.ref q) (upd H q (potO (x, y, 0)))
theorem ok_pot {p1 p2 p3 p4 p5 p6 p7 p8 p9 p10 p11 p12 p13 p14 p15 p16 p17 p18 p19 p20 p21 p22 p23 p24 p25 p26 p27 p28 p29 p30 p31 p32 p33 p34 p35 p36 p37 p38 p39 p40 p41 p42 p43 p44 p45 p46 p47 p48 p49 p50 p51 p52 p53 p54 p55 p56 p57 p58 p59 p60 p61 p62 p63 p64 p65 : Pos} {k1 k2 k3 k4 k5 k6 k7 k8 k9 k10 k11 k12 k13 : Nat} {c1 c2 c3 : Int} {CX : CXT} (F : FunD K "_law_pot" "_law_pot" pa bd sc dvs kws f fd) (S : FnScope ["_law_script", "_law_place", "_law_cell", "_law_own", "_law_small"] ["_law_script", "_law_place"] sc) (hb : bd = potB p1 p2 p3 p4 p5 p6 p7 p8 p9 p10 p11 p12 p13 p14 p15 p16 p17 p18 p19 p20 p21 p22 p23 p24 p25 p26 p27 p28 p29 p30 p31 p32 p33 p34 p35 p36 p37 p38 p39 p40 p41 p42 p43 p44 p45 p46 p47 p48 p49 p50 p51 p52 p53 p54 p55 p56 p57 p58 p59 p60 p61 p62 p63 p64 p65 k1 k2 k3 k4 k5 k6 k7 k8 k9 k10 k11 k12 k13 c1 c2 c3)
    (h1 : 0 ≤ c1 ∧ c1 < 1000000) (h3 : 0 ≤ c3 ∧ c3 < 1000000)
    (l2 : sc.names.lookup ("_law_cell" : Str) = some .local) (l3 : sc.names.lookup ("_law_own" : Str) = some .local) (l4 : sc.names.lookup ("_law_small" : Str) = some .local)
    (g1 : sc.names.lookup ("int" : Str) = some .globalImplicit) (g2 : sc.names.lookup ("abs" : Str) = some .globalImplicit) (g5 : sc.names.lookup ("len" : Str) = some .globalImplicit)
    (m1 : mg "int" = none) (m2 : mg "abs" = none) (m5 : mg "len" = none) : FnOk P w K mg base CX 1 f fd ["_law_script", "_law_place"] (spPot K) := by
  subst hb
  refine F.ok (CX := CX) S (fun vs H Q E h => ?_) (fun cdv A outer s H vs Q E hr h => ?_)
  · obtain ⟨l, ns, j, rfl, _⟩ := h; rfl
  · obtain ⟨l, ns, j, rfl, hs, hl, hj, q⟩ := h
    have b1 : bootBuiltins "int" = some (.type "int") := by decide +kernel
    have b2 : bootBuiltins "abs" = some (.builtin "abs") := by decide +kernel
    have v0 : Vis sc "_law_script" := vis_par' S (by simp)
    have v1 : Vis sc "_law_place" := vis_par' S (by simp)
    refine ⟨_, pss_cons (ps_set (i := 2) S.nd rfl (.inl l2) (pe_ifExp (pt_cmp (pc_lt (pe_var (i := 1) rfl v1) (pe_callB call_len g5 m5 boot_len (pa_cons (pe_var (i := 0) rfl v0) pa_nil)))) (pe_ix ix_seq (pe_var (i := 0) rfl v0) (pe_var (i := 1) rfl v1) fun _ _ => rfl)
        (pe_op op_add (pe_op op_mul pe_int (pe_var (i := 1) rfl v1)) pe_int)))
      (pss_cons (ps_set (i := 3) S.nd rfl (.inl l3) (pe_op op_mul (pe_op op_modN (pe_callTy call_int1 g1 m1 b1 (pa_cons (pe_callB call_abs g2 m2 b2 (pa_cons (pe_var (i := 2) rfl (.inl l2)) pa_nil)) pa_nil)) (pe_op op_powW (pe_op op_pow pe_int pe_int) pe_int))
          (pe_callTy call_int1 g1 m1 b1 (pa_cons (pe_cmpR op_ge (pe_callB call_abs g2 m2 b2 (pa_cons (pe_var (i := 2) rfl (.inl l2)) pa_nil)) (pe_op op_pow pe_int pe_int) (by rfl)) pa_nil))))
      (pss_cons (ps_set (i := 4) S.nd rfl (.inl l4) (pe_op op_modN (pe_callTy call_int1 g1 m1 b1 (pa_cons (pe_var (i := 2) rfl (.inl l2)) pa_nil)) pe_int))
      (pss_one (ps_ret (pe_lst (pa_cons (pe_var (i := 3) rfl (.inl l3)) (pa_cons (pe_op op_modN (pe_callTy call_int1 g1 m1 b1 (pa_cons (pe_op op_add (pe_op op_add (pe_op op_mul (pe_var (i := 4) rfl (.inl l4)) pe_int) (pe_op op_mul (pe_op op_mul pe_int (pe_var (i := 1) rfl v1)) (pe_var (i := 1) rfl v1))) pe_int) pa_nil)) pe_int) (pa_cons pe_int pa_nil)))))))), ?_⟩
    refine ⟨_, rfl, _, rfl, .ref l, (ns.map V.int).length, rfl, .inl ⟨_, hs, rfl⟩, _, _, rfl, rfl, _, rfl, ?_⟩
    obtain ⟨v, hv⟩ : ∃ v : Int, ∀ K1 : VK, K1 (.int v) H → if decide (((j : Nat) : Int) < (((ns.map V.int).length : Nat) : Int)) = true then
        tOp (rIx K) (tVar 0) (tVar 1) (L2.start ["_law_script", "_law_place", "_law_cell", "_law_own", "_law_small"] [V.ref l, V.int (j : Nat)]) H K1
        else tOp (rI0 fun i j => .int (i + j)) (tOp (rI CMul fun i j => .int (i * j)) (tC (.int c1)) (tVar 1)) (tC (.int c2)) (L2.start ["_law_script", "_law_place", "_law_cell", "_law_own", "_law_small"] [V.ref l, V.int (j : Nat)]) H K1 := by
      by_cases hj' : j < ns.length
      · refine ⟨L2.cellOf ns j, fun K1 hk => ?_⟩
        rw [if_pos (decide_eq_true (by rw [List.length_map]; omega))]
        exact ⟨_, rfl, _, rfl, .inl ⟨l, _, _, _, rfl, rfl, hs, atI_cell hj', hk⟩⟩
      · refine ⟨c1 * (j : Nat) + c2, fun K1 hk => ?_⟩
        rw [if_neg (by rw [decide_eq_true_eq, List.length_map]; omega)]
        exact ⟨_, rfl, _, _, rfl, rfl, .inl (by omega), _, _, rfl, rfl, hk⟩
    refine hv _ ?_
    have ha : 0 ≤ (if v < 0 then -v else v) := by split <;> omega
    have hM : (0 : Int) < ((10 : Int) ^ (60 : Int).toNat) ^ (5 : Int).toNat := by decide +kernel
    have hmod : ∀ x m : Int, 0 < m → 0 ≤ x.fmod m ∧ x.fmod m < m := fun x m h => by
      rw [Int.fmod_eq_emod_of_nonneg x (by omega)]
      exact ⟨Int.emod_nonneg _ (by omega), Int.emod_lt_of_pos _ h⟩
    refine ⟨_, rfl, _, rfl, .inl ⟨_, rfl, _, _, rfl, rfl, ⟨by decide, by decide, by decide⟩, _, _, rfl, rfl, ⟨by decide, by decide +kernel⟩, _, _, rfl, rfl, Int.ne_of_gt hM, _, rfl, _, rfl, _, _, rfl, rfl, ⟨by decide, by decide, by decide⟩, _, _, rfl, rfl, .inr ⟨_, rfl, _, _, rfl, rfl, .inr ?_, ?_⟩⟩⟩
    · constructor <;> (split <;> split <;> decide)
    · refine ⟨_, rfl, .inl ⟨_, rfl, _, _, rfl, rfl, (show (2305843009213693951 : Int) ≠ 0 by decide), ?_⟩⟩
      have hsm := hmod v 2305843009213693951 (by decide)
      refine ⟨_, rfl, _, rfl, _, _, rfl, rfl, .inl (by omega), _, rfl, _, _, rfl, rfl, .inl (by decide), _, rfl, _, _, rfl, rfl, .inr (by omega), _, _, rfl, rfl, _, _, rfl, rfl, .inl ⟨_, rfl, _, _, rfl, rfl, (show (2305843009213693921 : Int) ≠ 0 by decide), ?_⟩⟩
      refine ⟨(show 3 ≤ sizeLine by decide), fun q0 hq0 => q q0 _ _ hq0 ?_ (hmod _ _ (by decide)).1 (hmod _ _ (by decide)).2⟩
      exact Int.mul_nonneg (hmod _ _ hM).1 (by split <;> (split <;> decide))
end
end VL
namespace VL
open PySem PySem.Spec PyProof.Rows L2
def Pk (b : Int) (s : Pot) : Prop := 0 ≤ s.1 ∧ 0 ≤ s.2.1 ∧ s.2.1 < 2305843009213693921 ∧ 0 ≤ s.2.2 ∧ s.2.2 ≤ b
theorem pk0 {x y : Int} (h : 0 ≤ x) (h1 : 0 ≤ y) (h2 : y < 2305843009213693921) : Pk 0 (x, y, 0) := ⟨h, h1, h2, Int.le_refl _, Int.le_refl _⟩
def hfOf (P : Addr) (H : Hp) : Hp := fun b => if b = P then none else H b
theorem ext_pot {K : PySem.W.Frag} {cls : Nat → Addr} {P : Addr} {H : Hp} {s : Pot} (h : H P = some (potO s)) : Ext ⟨K, cls, P⟩ (hfOf P H) H (hfOf P H) H s where
  ff := fun _ _ e => e
  fh := fun b o e => by
    unfold hfOf at e
    split at e
    · cases e
    · exact e
  potF := by show hfOf P H P = none; unfold hfOf; rw [if_pos rfl]
  pot := h
  old := fun _ _ _ e => e
  unf := fun _ _ _ e => e
def spLaw (K : PySem.W.Frag) : Sp := fun vs H Q _ => ∃ (a : Addr) (ns : List Int), vs = [.ref a] ∧ SqL K H a (ns.map V.int) ∧ ns.length ≤ 63 ∧ ∀ H', Q (.bl true) H'
theorem jss_all {g : Bool} {G : Glob} {N : List Str} {sc : Scope} {k : Nat} {E : XK} {Γ Γ' Γl : Gam} {sts : List Stmt} {f : Rho → M Fl} (h : ∀ P, JSs (ctxB g G N sc k P E) Γ Γ' Γl sts f) :
    ∃ t, (∀ X, (∀ P, Is (ctxB g G N sc k P E) X) → PSs X sts t) ∧ ∀ P, RS (ctxB g G N sc k P E).W E Γ Γ' Γl t f := by
  refine ⟨fun D σ H => ∃ P, (h P).choose D σ H, fun X hX => ⟨fun pins s σ H D I q => ?_⟩, fun P B ρ s σ Hf H D V p => ⟨P, (h P).choose_spec.2 B ρ s σ Hf H D V p⟩⟩
  obtain ⟨P, q⟩ := q
  exact ((h P).choose_spec.1 X (hX P)).run pins s σ H D I q
section
variable {G : Glob} {f fC fP : Addr} {fd fdC fdP : FuncData} {pa : Arguments} {bd : List Stmt} {sc : Scope} {dvs : List V} {kws : List (Str × V)}
abbrev LN (N : List Str) : List Str := ("_law_script" : Str) :: ("_law_place" : Str) :: ("_law_pot_here" : Str) :: N
abbrev lawB (p1 p2 p3 p4 p5 p6 p7 p8 p9 p10 p11 p12 p13 p14 : Pos) (k0 k1 : Nat) (lim : Int) (rest : List Stmt) : List Stmt :=
  [.For (.Name "_law_place" p1) (.Call (.Name "_law_cells" p2) [.Name "_law_script" p3, .Constant (.int lim) k0 p4] [] p5)
     (.Assign [.Name "_law_pot_here" p6] (.Call (.Name "_law_pot" p7) [.Name "_law_script" p8, .Name "_law_place" p9] [] p10) p11 :: rest) [] p12,
   .Return (some (.Constant (.bool true) k1 p13)) p14]
theorem cellsN_le {lim : Int} {n : Nat} (hn : n ≤ 63) (hl : lim ≤ 1000) : cellsN lim n ≤ 1000 := by
  unfold cellsN
  dsimp only
  split <;> split <;> omega
theorem law_body {g : Bool} {N : List Str} {m k : Nat} {p1 p2 p3 p4 p5 p6 p7 p8 p9 p10 p11 p12 p13 p14 : Pos} {k0 k1 : Nat} {lim : Int} {rest : List Stmt} {fS : Rho → M Fl} (S : FnScope (LN N) ["_law_script"] sc) (hb : bd = lawB p1 p2 p3 p4 p5 p6 p7 p8 p9 p10 p11 p12 p13 p14 k0 k1 lim rest)
    (hm : (LN N).length = m) (hlim : lim ≤ 1000) (hk : 1 ≤ k)
    (l1 : sc.names.lookup ("_law_place" : Str) = some .local) (l2 : L2.Loc sc "_law_pot_here") (g1 : sc.names.lookup ("_law_cells" : Str) = some .globalImplicit) (g2 : sc.names.lookup ("_law_pot" : Str) = some .globalImplicit)
    (FC : FnOk G.prog G.w G.K G.mg G.base (L2.CX G.prog G.w) 1 fC fdC ["_law_script", "_law_limit"] (spCells G.K)) (mC : G.mg "_law_cells" = some (.ref fC)) (kC : PySem.W.keepIn G.K (.ref fC) = true) (bC : Binds G.K fdC ["_law_script", "_law_limit"] [])
    (FP : FnOk G.prog G.w G.K G.mg G.base (L2.CX G.prog G.w) 1 fP fdP ["_law_script", "_law_place"] (spPot G.K)) (mP : G.mg "_law_pot" = some (.ref fP)) (kP : PySem.W.keepIn G.K (.ref fP) = true) (bP : Binds G.K fdP ["_law_script", "_law_place"] [])
    (hS : ∀ P E, JSs (ctxB g G (LN N) sc k P E) (gam0 m) (gam0 m) (gam0 m) rest fS)
    (hr : ∀ (l i : Nat) (s : Pot), Pk 0 s → ∃ ρ' s', fS (some (.tok l) :: some (.int (i : Nat)) :: some .pot :: N.map fun _ => none) s = .ok (.nx ρ') s' ∧ ρ'.length = N.length + 3 ∧ ρ'[0]? = some (some (.tok l))) (cdv : Value) (A : Around) (outer : List Env) (s : Shared) (H : Hp) (vs : List V) (Q : VK) (E : XK) (hro : Room k (A.deeper (envOfC "law" sc s.heap.objs.size f cdv))) (hgd : g = true → A.guards = some []) (h : spLaw G.K vs H Q E) :
    ∃ t, PSs (cxOf (L2.CX G.prog G.w) G.prog G.w G.K G.mg G.base (LN N) "law" sc f cdv A outer s H E) bd t ∧ t { nx := fun _ H' => Q .non H', rt := Q } (start (LN N) vs) H := by
  subst hb
  obtain ⟨l, ns, rfl, hs, hl, q⟩ := h
  obtain ⟨t, t1, t2⟩ := jss_all fun P => hS P E
  have v0 : Vis sc "_law_script" := vis_par' S (by simp)
  have hX : ∀ P, Is (ctxB g G (LN N) sc k P E) (cxOf (L2.CX G.prog G.w) G.prog G.w G.K G.mg G.base (LN N) "law" sc f cdv A outer s H E) := fun P => is_defB S hro hgd
  have hp := (hX 0).pass
  have hr1 := hro.mono hk
  refine ⟨_, pss_cons (ps_for (passes_of rfl) rfl (pi_list (pe_call FC hr1 g1 mC kC bC .nil hp (pa_cons (pe_var (i := 0) rfl v0) (pa_cons pe_int pa_nil)))) (pg_name (i := 1) S.nd rfl (.inl l1))
    (pss_cons (ps_set (i := 2) S.nd rfl l2 (pe_call FP hr1 g2 mP kP bP .nil hp (pa_cons (pe_var (i := 0) rfl v0) (pa_cons (pe_var (i := 1) rfl (.inl l1)) pa_nil)))) (t1 _ hX))) (pss_one (ps_ret pe_bl)), ?_⟩
  have s0 : (L2.start (LN N) [V.ref l])[0]? = some (some (V.ref l)) := rfl
  refine ⟨_, s0, l, ns, lim, rfl, hs, hl, hlim, fun q0 hq0 => ?_⟩
  have sm0 : Same H (upd H q0 (.lst (rgV 0 (cellsN lim ns.length)))) := fun b o e => by
    rw [upd_ne (ne_of_none e hq0)]; exact e
  have hcl := cellsN_le (n := ns.length) hl hlim
  refine ⟨q0, rfl, ⟨_, SqL.of upd_same⟩, for_list (K := G.K) (a := q0) (xs := rgV 0 (cellsN lim ns.length))
    (fun i σ H2 => σ.length = m ∧ σ[0]? = some (some (.ref l)) ∧ Same (upd H q0 (.lst (rgV 0 (cellsN lim ns.length)))) H2) ⟨by rw [← hm]; simp [L2.start], s0, fun _ _ e => e⟩ (fun i σ H2 _ z => SqL.of (z.2.2 _ _ upd_same)) ?_ ?_⟩
  · rintro i y σ H2 hi ⟨z0, z1, z2⟩
    have hil : i < (rgV 0 (cellsN lim ns.length)).length := (List.getElem?_eq_some_iff.mp hi).1
    rw [rgV_length] at hil
    have ey : y = V.int ((i : Nat) : Int) := by
      unfold rgV at hi
      rw [List.getElem?_map, List.getElem?_range hil] at hi
      simpa using hi.symm
    subst ey
    have hi1000 : i < 1000 := by omega
    have hs2 : SqL G.K H2 l (ns.map V.int) := (sm0.trans z2).seq hs
    have h3 : 3 ≤ m := by rw [← hm]; simp
    have w0 : (σ.set 1 (some (V.int ((i : Nat) : Int))))[0]? = some (some (V.ref l)) := by rw [List.getElem?_set_ne (by decide)]; exact z1
    have w1 : (σ.set 1 (some (V.int ((i : Nat) : Int))))[1]? = some (some (V.int ((i : Nat) : Int))) := by rw [List.getElem?_set_self (by omega)]
    refine ⟨_, w0, _, w1, l, ns, i, rfl, hs2, hl, hi1000, fun q1 x y hq1 hx hy hy2 => ?_⟩
    have hpot : (upd H2 q1 (potO (x, y, 0))) q1 = some (potO (x, y, 0)) := upd_same
    obtain ⟨ρ', s', hrun, hlen, htok⟩ := hr l i (x, y, 0) (pk0 hx hy hy2)
    have e0 := ext_pot (K := G.K) (cls := G.cls) hpot
    refine t2 q1 (hfOf q1 (upd H2 q1 (potO (x, y, 0))), upd H2 q1 (potO (x, y, 0))) (some (.tok l) :: some (.int (i : Nat)) :: some .pot :: N.map fun _ => none) (x, y, 0) _ (hfOf q1 (upd H2 q1 (potO (x, y, 0)))) _ _ ⟨e0, ?_, fun _ => none, fun j d hj => ?_, fun q j e => nomatch e⟩ ?_
    · simp [z0, ← hm]
    · rw [getD_rep]
      match j, hj with
      | 0, hj =>
        simp at hj
        subst hj
        exact ⟨_, by rw [List.getElem?_set_ne (by decide)]; exact w0, .tok _⟩
      | 1, hj =>
        simp at hj
        subst hj
        exact ⟨_, by rw [List.getElem?_set_ne (by decide)]; exact w1, .int _⟩
      | 2, hj =>
        simp at hj
        subst hj
        exact ⟨_, by rw [List.getElem?_set_self (by simp; omega)], .pot⟩
      | j + 3, hj =>
        simp at hj
    · rw [hrun]
      intro σ' Hf' H' V'
      have xx := V'.ext
      refine ⟨by rw [V'.len, hlen, ← hm]; simp, ?_, ?_⟩
      · obtain ⟨v, e1, a1⟩ := env_all V' 0 _ htok
        cases a1
        exact e1
      · intro b o hb
        have hb2 := z2 b o hb
        have hne : b ≠ q1 := ne_of_none hb2 hq1
        exact xx.old b o hne (by show upd H2 q1 (potO (x, y, 0)) b = some o; rw [upd_ne hne]; exact hb2)
  · rintro σ H2 ⟨z0, z1, z2⟩
    exact q H2
theorem ok_lawF {N : List Str} {m k : Nat} {p1 p2 p3 p4 p5 p6 p7 p8 p9 p10 p11 p12 p13 p14 : Pos} {k0 k1 : Nat} {lim : Int} {rest : List Stmt} {fS : Rho → M Fl} (F : FunD G.K "law" "law" pa bd sc dvs kws f fd) (S : FnScope (LN N) ["_law_script"] sc) (hb : bd = lawB p1 p2 p3 p4 p5 p6 p7 p8 p9 p10 p11 p12 p13 p14 k0 k1 lim rest)
    (hm : (LN N).length = m) (hlim : lim ≤ 1000) (hk : 1 ≤ k)
    (l1 : sc.names.lookup ("_law_place" : Str) = some .local) (l2 : L2.Loc sc "_law_pot_here") (g1 : sc.names.lookup ("_law_cells" : Str) = some .globalImplicit) (g2 : sc.names.lookup ("_law_pot" : Str) = some .globalImplicit)
    (FC : FnOk G.prog G.w G.K G.mg G.base (L2.CX G.prog G.w) 1 fC fdC ["_law_script", "_law_limit"] (spCells G.K)) (mC : G.mg "_law_cells" = some (.ref fC)) (kC : PySem.W.keepIn G.K (.ref fC) = true) (bC : Binds G.K fdC ["_law_script", "_law_limit"] [])
    (FP : FnOk G.prog G.w G.K G.mg G.base (L2.CX G.prog G.w) 1 fP fdP ["_law_script", "_law_place"] (spPot G.K)) (mP : G.mg "_law_pot" = some (.ref fP)) (kP : PySem.W.keepIn G.K (.ref fP) = true) (bP : Binds G.K fdP ["_law_script", "_law_place"] [])
    (hS : ∀ P E, JSs (ctxOf G (LN N) sc k P E) (gam0 m) (gam0 m) (gam0 m) rest fS)
    (hr : ∀ (l i : Nat) (s : Pot), Pk 0 s → ∃ ρ' s', fS (some (.tok l) :: some (.int (i : Nat)) :: some .pot :: N.map fun _ => none) s = .ok (.nx ρ') s' ∧ ρ'.length = N.length + 3 ∧ ρ'[0]? = some (some (.tok l))) :
    FnOk G.prog G.w G.K G.mg G.base (L2.CX G.prog G.w) (k + 1) f fd ["_law_script"] (spLaw G.K) := by
  refine F.ok (CX := L2.CX G.prog G.w) S (fun vs H Q E h => ?_) (fun cdv A outer s H vs Q E hro h => law_body (g := false) (f := f) S hb hm hlim hk l1 l2 g1 g2 FC mC kC bC FP mP kP bP hS hr cdv A outer s H vs Q E hro (fun h => by cases h) h)
  obtain ⟨l, ns, rfl, _⟩ := h; rfl
end
end VL
namespace VL
open PySem PySem.Spec PyProof.Rows L2
section
variable {c : Ctx} {W : Wd} {E : XK} {Γ : Gam} {a : Expr} {f : Rho → M D} {Hf : Hp}
def signsD (x : Str) : List D := x.cps.toList.map fun ch => .str ⟨#[ch]⟩
def strF (f : Rho → M D) : Rho → M (List D) := fun ρ => do
  let d ← f ρ
  match d with
  | .str x => if x.length ≤ sizeLine then pure (signsD x) else nope
  | _ => nope
theorem its_ok (x : Str) : ItF W (Its x) Hf (signsD x) := by
  intro i Hf1 H1 s1 hs e
  refine ⟨fun h => ?_, fun d hd => ?_⟩
  · have h : x.cps.size ≤ i := by simpa [signsD] using h
    exact h
  · unfold signsD at hd
    rw [List.getElem?_map] at hd
    obtain ⟨ch, h1, rfl⟩ := Option.map_eq_some_iff.mp hd
    have h2 : x.cps[i]? = some ch := by simpa using h1
    have hi : i < x.cps.size := by
      have := (Array.getElem?_eq_some_iff.mp h2).1
      exact this
    refine ⟨hi, fun z H2 ⟨e1, ch2, e2, e3⟩ => ?_⟩
    subst e1
    rw [h2] at e2
    cases e2
    subst e3
    exact ⟨Hf1, e, .str _⟩
theorem ji_str {tg : Expr} (h : JE c Γ a f) : JI c Γ tg a (strF f) := by
  obtain ⟨t, h1, h2⟩ := h
  refine ⟨iStr t, fun X hX => pi_str (h1 X hX), fun B ρ s σ Hf H R V p => ?_⟩
  unfold strF at p
  rw [post_bind] at p
  refine h2 B ρ s σ Hf H _ V (p.imp (fun d s1 p1 v Hf1 H1 x1 r1 => ?_) fun _ _ _ z => z)
  cases r1 with
  | str x =>
    dsimp only at p1
    split at p1
    · rename_i hz
      exact ⟨x, rfl, p1 _ _ _ x1 (by simpa [signsD, Str.length] using hz) (its_ok x)⟩
    · exact p1.elim
  | _ => exact p1.elim
end
end VL
namespace VL
open PySem PySem.Spec PyProof.Rows L2
def HSim (H H' : Hp) : Prop := ∀ a o, H a = some o → H' a = some o ∨ ∃ ks, (o = .dK ks ∨ ∃ od, o = .frz od (.dK ks)) ∧ Rd H' a (.dK ks)
section
variable {W : Wd} {H H' : Hp}
theorem HSim.get (h : HSim H H') {a : Addr} {o : HO} (e : H a = some o) (n1 : ∀ ks, o ≠ .dK ks) (n2 : ∀ od ks, o ≠ .frz od (.dK ks)) : H' a = some o := by
  rcases h a o e with q | ⟨ks, q | ⟨od, q⟩, _⟩
  · exact q
  · exact absurd q (n1 ks)
  · exact absurd q (n2 od ks)
theorem HSim.rdT (h : HSim H H') {a : Addr} {xs : List V} (r : Rd H a (.tup xs)) : Rd H' a (.tup xs) := by
  rcases r with q | ⟨od, q⟩
  · exact .inl (h.get q (fun _ z => by cases z) (fun _ _ z => by cases z))
  · exact .inr ⟨od, h.get q (fun _ z => by cases z) (fun _ _ z => by cases z)⟩
theorem HSim.rdD (h : HSim H H') {a : Addr} {ks : List (Key × V)} (r : Rd H a (.dK ks)) : Rd H' a (.dK ks) := by
  rcases r with q | ⟨od, q⟩
  · rcases h _ _ q with z | ⟨ks', z | ⟨od', z⟩, w⟩
    · exact .inl z
    · cases z; exact w
    · cases z
  · rcases h _ _ q with z | ⟨ks', z | ⟨od', z⟩, w⟩
    · exact .inr ⟨od, z⟩
    · cases z
    · cases z; exact w
theorem HSim.sqT {K : PySem.W.Frag} {a : Addr} {xs : List V} (h : HSim H H') : SqT K H a xs → SqT K H' a xs
  | .inl r => .inl (h.rdT r)
  | .inr r => .inr r
theorem HSim.slt {a C dx : Addr} {vs : List (Option V)} (h : HSim H H') : SlX.Slt H a C dx vs → SlX.Slt H' a C dx vs
  | .inl ⟨q, z⟩ => .inl ⟨h.get q (fun _ z => by cases z) (fun _ _ z => by cases z), z⟩
  | .inr ⟨q, z⟩ => .inr ⟨h.get q (fun _ z => by unfold SlX.SlO at z; cases z) (fun _ _ z => by unfold SlX.SlO at z; cases z), h.get z (fun _ z => by cases z) (fun _ _ z => by cases z)⟩
mutual
theorem At.sim (e : HSim H H') : ∀ {v : V} {d : D}, At W H v d → At W H' v d
  | _, _, .non => .non
  | _, _, .bl b => .bl b
  | _, _, .int i => .int i
  | _, _, .str x => .str x
  | _, _, .tup h z r => .tup (e.sqT h) z (AtAll.sim e r)
  | _, _, .lst h z r => .lst (e.get h (fun _ z => by cases z) (fun _ _ z => by cases z)) z (AtAll.sim e r)
  | _, _, .dct h z r => .dct (e.rdD h) z (AtKv.sim e r)
  | _, _, .obj h r => .obj (e.slt h) (AtAll.sim e r)
  | _, _, .pot => .pot
  | _, _, .tok a => .tok a
theorem AtAll.sim (e : HSim H H') : ∀ {v : List V} {d : List D}, AtAll W H v d → AtAll W H' v d
  | _, _, .nil => .nil
  | _, _, .cons h r => .cons (At.sim e h) (AtAll.sim e r)
theorem AtKv.sim (e : HSim H H') : ∀ {v : List (Key × V)} {d : List (Key × D)}, AtKv W H v d → AtKv W H' v d
  | _, _, .nil => .nil
  | _, _, .cons h r => .cons (At.sim e h) (AtKv.sim e r)
end
end
section
variable {c : Ctx} {W : Wd} {E : XK} {Γ Γ' Γl : Gam} {e a : Expr} {f : Rho → M Fl} {pos : Pos} {Hf H : Hp} {st : Stmt}
theorem ps_or {X : Cx} {t u : TS} (h1 : PS X st t) (h2 : PS X st u) : PS X st (fun D σ H => t D σ H ∨ u D σ H) :=
  ⟨fun pins s σ H D I h => h.elim (h1.run pins s σ H D I) (h2.run pins s σ H D I)⟩
def lockS (i : Nat) (f : Rho → M Fl) : Rho → M Fl := fun ρ => match ρ[i]? with
  | some (some (.dct _)) => noE (f ρ)
  | _ => nope
def noLk (Γ : Gam) : Bool := Γ.all fun k => !decide (k = .lk)
theorem noLk_get {Γ : Gam} (h : noLk Γ = true) (j : Nat) : Γ.getD j .sh ≠ .lk := by
  intro e
  rw [List.getD_eq_getElem?_getD] at e
  cases q : Γ[j]? with
  | none => rw [q] at e; cases e
  | some k =>
    rw [q] at e
    have e : k = .lk := e
    have := (List.all_eq_true.mp h) k (List.mem_of_getElem? q)
    simp [e] at this
theorem EnvAt.unlk {B : Hp × Hp} {ρ : Rho} {s : Pot} {σ : L2.St} {i : Nat} (V : EnvAt W B (Γ.set i .lk) ρ s σ Hf H) (h : Γ.getD i .sh = .sh) : EnvAt W B Γ ρ s σ Hf H := by
  obtain ⟨ow, h1, h2⟩ := V.own
  refine ⟨V.ext, V.len, ow, fun j d e => ?_, h2⟩
  obtain ⟨v, e1, z⟩ := h1 j d e
  refine ⟨v, e1, ?_⟩
  by_cases hj : j = i
  · subst hj
    rw [h]
    by_cases hl : j < Γ.length
    · rw [getD_set_self hl] at z
      obtain ⟨p, od, ks, ds, a1, a2, a3, a4, a5⟩ := z
      subst a1; subst a2
      exact .dct (.inr ⟨_, a3⟩) a4 a5
    · rw [List.getD_eq_getElem?_getD, List.getElem?_eq_none (by simp; omega)] at z
      exact z
  · rw [getD_set_ne hj] at z; exact z
def lockH (H : Hp) (d : Addr) (od : Obj) (ks : List (Key × V)) : Hp := upd H d (.frz od (.dK ks))
def lockB (B : Hp × Hp) (Hf : Hp) (d : Addr) (od : Obj) (ks : List (Key × V)) : Hp × Hp := (lockH Hf d od ks, fun b => match lockH Hf d od ks b with | some o => some o | none => B.2 b)
theorem sim_lock {d : Addr} {od : Obj} {ks : List (Key × V)} (h : H d = some (.dK ks)) : HSim H (lockH H d od ks) := fun a o e => by
  by_cases q : a = d
  · subst q
    rw [h] at e; cases e
    exact .inr ⟨ks, .inl rfl, .inr ⟨od, upd_same⟩⟩
  · exact .inl (by unfold lockH; rw [upd_ne q]; exact e)
theorem sim_unlock {d : Addr} {od : Obj} {ks : List (Key × V)} (h : H d = some (.frz od (.dK ks))) : HSim H (upd H d (.dK ks)) := fun a o e => by
  by_cases q : a = d
  · subst q
    rw [h] at e; cases e
    exact .inr ⟨ks, .inr ⟨od, rfl⟩, .inl upd_same⟩
  · exact .inl (by rw [upd_ne q]; exact e)
theorem EnvAt.lock {B : Hp × Hp} {ρ : Rho} {s : Pot} {σ : L2.St} {i : Nat} {d : Addr} {od : Obj} {ks : List (Key × V)} {ds : List (Key × D)} (V : EnvAt W B Γ ρ s σ Hf H) (hΓ : Γ.getD i .sh = .sh) (hd : Hf d = some (.dK ks)) (hσ : σ[i]? = some (some (.ref d))) (hρ : ρ[i]? = some (some (.dct ds))) (hz : ks.length ≤ sizeLine) (ha : AtKv W Hf ks ds) :
    EnvAt W (lockB B Hf d od ks) (Γ.set i .lk) ρ s σ (lockH Hf d od ks) (lockH H d od ks) := by
  obtain ⟨ow, h1, h2⟩ := V.own
  have hdP : W.P ≠ d := fun z => by have := V.ext.potF; rw [z, hd] at this; cases this
  have hs := sim_lock (od := od) hd
  refine ⟨⟨Same.refl _, fun b o e => ?_, ?_, ?_, fun b o hb e => ?_, fun b o _ n => n⟩, V.len, ow, fun j x e => ?_, fun q j e => ?_⟩
  · unfold lockH at e ⊢
    by_cases q : b = d
    · subst q; rw [upd_same] at e ⊢; exact e
    · rw [upd_ne q] at e ⊢; exact V.ext.fh _ _ e
  · unfold lockH; rw [upd_ne hdP]; exact V.ext.potF
  · unfold lockH; rw [upd_ne hdP]; exact V.ext.pot
  · show lockH H d od ks b = some o
    have e : (match lockH Hf d od ks b with | some o => some o | none => B.2 b) = some o := e
    unfold lockH at e ⊢
    by_cases q : b = d
    · subst q; rw [upd_same] at e ⊢; exact e
    · rw [upd_ne q] at e ⊢
      cases z : Hf b with
      | some u => rw [z] at e; cases e; exact V.ext.fh _ _ z
      | none => rw [z] at e; exact V.ext.old _ _ hb e
  · obtain ⟨v, e1, z⟩ := h1 j x e
    refine ⟨v, e1, ?_⟩
    by_cases hj : j = i
    · subst hj
      rw [hσ] at e1; cases e1
      rw [hρ] at e; cases e
      by_cases hl : j < Γ.length
      · rw [getD_set_self hl]
        exact ⟨d, od, ks, ds, rfl, rfl, by unfold lockH; rw [upd_same], hz, ha.sim hs⟩
      · rw [List.getD_eq_getElem?_getD, List.getElem?_eq_none (by simp; omega)]
        rw [hΓ] at z
        exact At.sim hs z
    · rw [getD_set_ne hj]
      have hne : ∀ q, ow q = some j → q ≠ d := fun q hq y => by have := (h2 q j hq).1; rw [y, hd] at this; cases this
      cases hk : Γ.getD j .sh with
      | sh => rw [hk] at z; exact At.sim hs z
      | ol => rw [hk] at z; obtain ⟨q, xs, ds', a1, a2, a3, a4, a5, a6⟩ := z; exact ⟨q, xs, ds', a1, a2, a3, by unfold lockH; rw [upd_ne (hne q a3)]; exact a4, a5, a6.sim hs⟩
      | od => rw [hk] at z; obtain ⟨q, xs, ds', a1, a2, a3, a4, a5, a6⟩ := z; exact ⟨q, xs, ds', a1, a2, a3, by unfold lockH; rw [upd_ne (hne q a3)]; exact a4, a5, a6.sim hs⟩
      | odl =>
        rw [hk] at z
        obtain ⟨q, qs, ds', a1, a2, a3, a4, a5, a6, a7⟩ := z
        exact ⟨q, qs, ds', a1, a2, a3, by unfold lockH; rw [upd_ne (hne q a3)]; exact a4, a5, a6, Paired.mapP a7 fun u w ⟨z1, z2, xs, z3, z4, z5⟩ => ⟨z1, z2, xs, by unfold lockH; rw [upd_ne (hne _ z2)]; exact z3, z4, z5.sim hs⟩⟩
      | lk =>
        rw [hk] at z
        obtain ⟨p, od', ks', ds', a1, a2, a3, a4, a5⟩ := z
        refine ⟨p, od', ks', ds', a1, a2, ?_, a4, a5.sim hs⟩
        unfold lockH
        rw [upd_ne (fun y => by rw [y, hd] at a3; cases a3)]; exact a3
  · obtain ⟨z1, z2, z3, o, z4⟩ := h2 q j e
    have hne : q ≠ d := fun y => by rw [y, hd] at z1; cases z1
    refine ⟨by unfold lockH; rw [upd_ne hne]; exact z1, z2, ?_, o, by unfold lockH; rw [upd_ne hne]; exact z4⟩
    show (match lockH Hf d od ks q with | some o => some o | none => B.2 q) = none
    have : lockH Hf d od ks q = none := by unfold lockH; rw [upd_ne hne]; exact z1
    rw [this]; exact z3
theorem Ext.unlock {B : Hp × Hp} {s s' : Pot} {d : Addr} {od : Obj} {ks : List (Key × V)} {Hf2 H2 : Hp} (x : Ext W B.1 B.2 Hf H s) (hd : Hf d = some (.dK ks)) (y : Ext W (lockB B Hf d od ks).1 (lockB B Hf d od ks).2 Hf2 H2 s') : Ext W B.1 B.2 (upd Hf2 d (.dK ks)) (upd H2 d (.dK ks)) s' := by
  have hdP : W.P ≠ d := fun z => by have := x.potF; rw [z, hd] at this; cases this
  refine ⟨fun b o e => ?_, fun b o e => ?_, ?_, ?_, fun b o hb e => ?_, fun b o e n => ?_⟩
  · have h1 := x.ff _ _ e
    by_cases q : b = d
    · subst q; rw [hd] at h1; cases h1; exact upd_same
    · rw [upd_ne q]
      exact y.ff _ _ (by show lockH Hf d od ks b = some o; unfold lockH; rw [upd_ne q]; exact h1)
  · by_cases q : b = d
    · subst q; rw [upd_same] at e ⊢; exact e
    · rw [upd_ne q] at e ⊢; exact y.fh _ _ e
  · rw [upd_ne hdP]; exact y.potF
  · rw [upd_ne hdP]; exact y.pot
  · have h1 := x.old _ _ hb e
    by_cases q : b = d
    · subst q
      have h2 := x.fh _ _ hd
      rw [h2] at h1; cases h1; exact upd_same
    · rw [upd_ne q]
      refine y.old b o hb ?_
      show (match lockH Hf d od ks b with | some o => some o | none => B.2 b) = some o
      have e2 : lockH Hf d od ks b = Hf b := by unfold lockH; rw [upd_ne q]
      rw [e2]
      cases z : Hf b with
      | some u => have := x.fh _ _ z; rw [h1] at this; cases this; rfl
      | none => exact e
  · have h1 := x.unf _ _ e n
    have q : b ≠ d := fun z => by rw [z, hd] at h1; cases h1
    rw [upd_ne q]
    have e2 : lockH Hf d od ks b = none := by unfold lockH; rw [upd_ne q]; exact h1
    refine y.unf b o ?_ e2
    show (match lockH Hf d od ks b with | some o => some o | none => B.2 b) = some o
    rw [e2]; exact e
theorem EnvAt.unlock {B : Hp × Hp} {ρ : Rho} {s s' : Pot} {σ : L2.St} {i : Nat} {d : Addr} {od : Obj} {ks : List (Key × V)} {Hf2 H2 : Hp} (x : Ext W B.1 B.2 Hf H s) (hd : Hf d = some (.dK ks)) (V : EnvAt W (lockB B Hf d od ks) (Γ.set i .lk) ρ s' σ Hf2 H2) (hΓ : Γ.getD i .sh = .sh) (hn : noLk Γ = true) :
    H2 d = some (.frz od (.dK ks)) ∧ EnvAt W B Γ ρ s' σ (upd Hf2 d (.dK ks)) (upd H2 d (.dK ks)) ∧ ∀ v y, At W Hf2 v y → At W (upd Hf2 d (.dK ks)) v y := by
  have hf2 : Hf2 d = some (.frz od (.dK ks)) := V.ext.ff _ _ (by show lockH Hf d od ks d = _; unfold lockH; rw [upd_same])
  have hs := sim_unlock hf2
  have V := V.unlk hΓ
  obtain ⟨ow, h1, h2⟩ := V.own
  refine ⟨V.ext.fh _ _ hf2, ⟨x.unlock hd V.ext, V.len, ow, fun j y e => ?_, fun q j e => ?_⟩, fun v y h => h.sim hs⟩
  · obtain ⟨v, e1, z⟩ := h1 j y e
    refine ⟨v, e1, ?_⟩
    have hne : ∀ q, ow q = some j → q ≠ d := fun q hq y => by have := (h2 q j hq).1; rw [y, hf2] at this; cases this
    cases hk : Γ.getD j .sh with
    | sh => rw [hk] at z; exact At.sim hs z
    | ol => rw [hk] at z; obtain ⟨q, xs, ds', a1, a2, a3, a4, a5, a6⟩ := z; exact ⟨q, xs, ds', a1, a2, a3, by rw [upd_ne (hne q a3)]; exact a4, a5, a6.sim hs⟩
    | od => rw [hk] at z; obtain ⟨q, xs, ds', a1, a2, a3, a4, a5, a6⟩ := z; exact ⟨q, xs, ds', a1, a2, a3, by rw [upd_ne (hne q a3)]; exact a4, a5, a6.sim hs⟩
    | odl =>
      rw [hk] at z
      obtain ⟨q, qs, ds', a1, a2, a3, a4, a5, a6, a7⟩ := z
      exact ⟨q, qs, ds', a1, a2, a3, by rw [upd_ne (hne q a3)]; exact a4, a5, a6, Paired.mapP a7 fun u w ⟨z1, z2, xs, z3, z4, z5⟩ => ⟨z1, z2, xs, by rw [upd_ne (hne _ z2)]; exact z3, z4, z5.sim hs⟩⟩
    | lk => exact absurd hk (noLk_get hn j)
  · obtain ⟨z1, z2, z3, o, z4⟩ := h2 q j e
    have hne : q ≠ d := fun y => by rw [y, hf2] at z1; cases z1
    have h0 : Hf q = none := by
      cases w : Hf q with
      | none => rfl
      | some u =>
        have : Hf2 q = some u := V.ext.ff _ _ (by show lockH Hf d od ks q = some u; unfold lockH; rw [upd_ne hne]; exact w)
        rw [this] at z1; cases z1
    refine ⟨by rw [upd_ne hne]; exact z1, z2, ?_, o, by rw [upd_ne hne]; exact z4⟩
    have z3 : (match lockH Hf d od ks q with | some o => some o | none => B.2 q) = none := z3
    have : lockH Hf d od ks q = none := by unfold lockH; rw [upd_ne hne]; exact h0
    rw [this] at z3; exact z3
theorem js_lock (i : Nat) (h : JS c (Γ.set i .lk) (Γ'.set i .lk) (Γl.set i .lk) st f) (h1 : Γ.getD i .sh = .sh) (h2 : Γ'.getD i .sh = .sh) (h3 : Γl.getD i .sh = .sh) (n2 : noLk Γ' = true) (n3 : noLk Γl = true) (hi : i < Γ.length) : JS c Γ Γ' Γl st (lockS i f) := by
  obtain ⟨t, t1, t2⟩ := h
  refine ⟨fun D σ H => tLock t D σ H ∨ t D σ H, fun X hX => ps_or (ps_lock (t1 X hX)) (t1 X hX), fun B ρ s σ Hf H D V p => ?_⟩
  obtain ⟨l, hl, p⟩ : ∃ l, ρ[i]? = some (some (.dct l)) ∧ Post (FlOk c.W B Γ' Γl D) (ErrOk c.W B c.E) (noE (f ρ) s) := by
    unfold lockS at p
    cases q : ρ[i]? with
    | none => rw [q] at p; exact False.elim p
    | some o =>
      cases o with
      | none => rw [q] at p; exact False.elim p
      | some x =>
        cases x with
        | dct l => rw [q] at p; exact ⟨l, rfl, p⟩
        | _ => rw [q] at p; exact False.elim p
  · rw [post_noE] at p
    obtain ⟨ow, g1, g2⟩ := V.own
    obtain ⟨v, e1, z⟩ := g1 i _ hl
    rw [h1] at z
    cases z with
    | dct hrd hz ha =>
      rename_i d ks
      rcases hrd with hd | ⟨od, hd⟩
      · left
        refine ⟨d, .dK ks, V.ext.fh _ _ hd, trivial, fun od => ?_⟩
        refine t2 (lockB B Hf d od ks) ρ s σ _ _ _ (V.lock (od := od) h1 hd e1 hl hz ha) (p.imp (fun r s1 p1 => ?_) fun _ _ _ z => z.elim)
        cases r with
        | nx ρ' =>
          intro σ' Hf2 H2 V2
          obtain ⟨q1, q2, _⟩ := EnvAt.unlock V.ext hd V2 h2 n2
          exact ⟨q1, p1 _ _ _ q2⟩
        | bk ρ' =>
          intro σ' Hf2 H2 V2
          obtain ⟨q1, q2, _⟩ := EnvAt.unlock V.ext hd V2 h3 n3
          exact ⟨q1, p1 _ _ _ q2⟩
        | ct ρ' =>
          intro σ' Hf2 H2 V2
          obtain ⟨q1, q2, _⟩ := EnvAt.unlock V.ext hd V2 h3 n3
          exact ⟨q1, p1 _ _ _ q2⟩
        | rt x =>
            intro v Hf2 H2 y a
            have hf2 : Hf2 d = some (.frz od (.dK ks)) := y.ff _ _ (by show lockH Hf d od ks d = _; unfold lockH; rw [upd_same])
            exact ⟨y.fh _ _ hf2, p1 v _ _ (V.ext.unlock hd y) (a.sim (sim_unlock hf2))⟩
      · right
        have V' : EnvAt c.W B (Γ.set i .lk) ρ s σ Hf H := by
          refine ⟨V.ext, V.len, ow, fun j x e => ?_, g2⟩
          obtain ⟨v, e2, z⟩ := g1 j x e
          refine ⟨v, e2, ?_⟩
          by_cases hj : j = i
          · subst hj
            rw [getD_set_self hi]
            rw [e1] at e2; cases e2
            rw [hl] at e; cases e
            exact ⟨d, od, ks, _, rfl, rfl, hd, hz, ha⟩
          · rw [getD_set_ne hj]; exact z
        refine t2 B ρ s σ Hf H D V' (p.imp (fun r s1 p1 => ?_) fun _ _ _ z => z.elim)
        cases r with
        | nx ρ' => exact fun σ' Hf2 H2 V2 => p1 _ _ _ (V2.unlk h2)
        | bk ρ' => exact fun σ' Hf2 H2 V2 => p1 _ _ _ (V2.unlk h3)
        | ct ρ' => exact fun σ' Hf2 H2 V2 => p1 _ _ _ (V2.unlk h3)
        | rt x => exact p1
def itemsL (i : Nat) : Rho → M (List D) := fun ρ => do
  let d ← slot i ρ
  match d with
  | .dct l => if l.length ≤ sizeLine then pure (l.map fun z => .tup [keyD z.1, z.2]) else nope
  | _ => nope
theorem AtKv.get' : ∀ {ks : List (Key × V)} {ds : List (Key × D)} {j : Nat} {z : Key × D}, AtKv W H ks ds → ds[j]? = some z → ∃ v, ks[j]? = some (z.1, v) ∧ At W H v z.2
  | _, _, _, _, .nil, e => by simp at e
  | _, _, 0, _, .cons h _, e => by simp at e; subst e; exact ⟨_, rfl, h⟩
  | _, _, j + 1, z, .cons _ r, e => by
    obtain ⟨v, e1, h⟩ := r.get' (j := j) (z := z) (by simpa using e)
    exact ⟨v, by simpa using e1, h⟩
theorem at_key (k : Key) : At W H (kV k) (keyD k) := by
  cases k with
  | inl i => exact .int i
  | inr x => exact .str x
end
end VL
namespace VL
open PySem PySem.Spec PyProof.Rows L2
section
variable {c : Ctx} {W : Wd} {E : XK} {Γ : Gam} {e a b o : Expr} {f fa fb fo : Rho → M D} {pos : Pos} {Hf H : Hp}
theorem iti_ok {d : Addr} {od : Obj} {ks : List (Key × V)} {ds : List (Key × D)} (hd : Hf d = some (.frz od (.dK ks))) (ha : AtKv W Hf ks ds) : ItF W (Iti d od ks) Hf (ds.map fun z => .tup [keyD z.1, z.2]) := by
  intro j Hf1 H1 s1 hs x
  have hq := x.fh _ _ (hs _ _ hd)
  refine ⟨fun h => ⟨hq, by rw [ha.len]; simpa using h⟩, fun y hy => ?_⟩
  rw [List.getElem?_map] at hy
  obtain ⟨z, hz, rfl⟩ := Option.map_eq_some_iff.mp hy
  obtain ⟨v, e1, a1⟩ := ha.get' hz
  have hj := (List.getElem?_eq_some_iff.mp e1).1
  refine ⟨⟨hq, hj⟩, fun w H2 ⟨T, k, v', e3, e4, e5, e6⟩ => ?_⟩
  rw [e1] at e3; cases e3
  subst e4 e6
  have y := x.newF (o := .tup [kV z.1, v]) e5
  refine ⟨_, y, .tup (.inl (.inl upd_same)) (by show 2 ≤ sizeLine; decide) (.cons (at_key _) (.cons (a1.mono (hs.trans y.ff)) .nil))⟩
theorem lk_get {B : Hp × Hp} {ρ : Rho} {s : Pot} {σ : L2.St} {i : Nat} {d : D} (VE : EnvAt W B Γ ρ s σ Hf H) (hΓ : Γ.getD i .sh = .lk) (e : ρ[i]? = some (some d)) :
    ∃ (p : Addr) (od : Obj) (ks : List (Key × V)) (ds : List (Key × D)), σ[i]? = some (some (.ref p)) ∧ d = .dct ds ∧ Hf p = some (.frz od (.dK ks)) ∧ AtKv W Hf ks ds := by
  obtain ⟨ow, h1, _⟩ := VE.own
  obtain ⟨v, e1, z⟩ := h1 i d e
  rw [hΓ] at z
  obtain ⟨p, od, ks, ds, a1, a2, a3, a4, a5⟩ := z
  subst a1
  exact ⟨p, od, ks, ds, e1, a2, a3, a5⟩
theorem ji_itemsL (i : Nat) {x : Str} {elts : List Expr} {kk : Nat} {tpos apos cpos : Pos} (hN : c.N[i]? = some x) (hv : Vis c.sc x) (hΓ : Γ.getD i .sh = .lk) (hline : (apos.endLine == cpos.line) = true := by rfl) (hd : (x == ("__debug__" : Str)) = false := by decide) (hcd : (x == ("__classdict__" : Str)) = false := by decide) : JI c Γ (.Tuple elts kk tpos) (.Call (.Attribute (.Name x pos) "items" apos) [] [] cpos) (itemsL i) := by
  refine ⟨iItems (tVar i), fun X h => pi_items (pe_var (by rw [h.N]; exact hN) (h.vis hv) hd hcd) rfl hline, fun B ρ s σ Hf H R V p => ?_⟩
  unfold itemsL at p
  rw [post_bind] at p
  obtain ⟨d, e0, p⟩ := post_slot p
  obtain ⟨q, od, ks, ds, e1, rfl, a3, a5⟩ := lk_get V hΓ e0
  dsimp only at p
  by_cases hz : ds.length ≤ sizeLine
  · rw [if_pos hz, post_pure] at p
    exact ⟨.ref q, e1, q, od, ks, rfl, V.ext.fh _ _ a3, p _ _ _ V.ext0 (by simpa using hz) (iti_ok a3 a5)⟩
  · rw [if_neg hz] at p; exact False.elim p
end
end VL
namespace VL
open PySem PySem.Spec PyProof.Rows L2
section
variable {c : Ctx} {W : Wd} {E : XK} {Γ : Gam} {e a b o : Expr} {f fa fb fo : Rho → M D} {pos : Pos} {Hf H : Hp}
def get2F (fd fk fx : Rho → M D) : Rho → M D := fun ρ => do
  let d ← fd ρ
  let l ← asDct d
  let k ← fk ρ
  let x ← fx ρ
  let k ← opt (asKey k)
  pure ((valD l k).getD x)
theorem je_get2 {x : Expr} {fx : Rho → M D} {apos : Pos} (ho : JE c Γ o fo) (ha : JE c Γ a fa) (hx : JE c Γ x fx) (hb : ∀ env, attributeBase o "get" env (eval o env) = eval o env := by intro _; rfl)
    (h1 : ∀ env, starEach [a, x] env = [(false, eval a env), (false, eval x env)] := by intro _; rfl) (hline : (apos.endLine == pos.line) = true := by rfl) (hk : ∀ env, keywordEach ([] : List Keyword) env = [] := by intro _; rfl) : JE c Γ (.Call (.Attribute o "get" apos) [a, x] [] pos) (get2F fo fa fx) := by
  obtain ⟨to, o1, o2⟩ := ho
  obtain ⟨ta, a1, a2⟩ := ha
  obtain ⟨tx, x1, x2⟩ := hx
  refine ⟨tDGet2 to ta tx, fun X h => pe_dget2 h.u1 (o1 X h) (a1 X h) (x1 X h) ⟨hb _, ?_, hline, by rw [h1]; rfl⟩, fun B ρ s σ Hf H Q V p => ?_⟩
  · rw [h1, hk]; rfl
  · unfold get2F at p
    rw [post_bind] at p
    refine o2 B ρ s σ Hf H _ V (p.imp (fun d s1 p1 v Hf1 H1 y1 r1 => ?_) fun _ _ _ z => z)
    rw [post_bind] at p1
    obtain ⟨l, rfl, pa⟩ := post_asDct p1
    have V1 := V.ext' y1
    cases r1 with
    | dct g1 g2 g3 =>
      rename_i q ks
      rw [post_bind] at pa
      refine ⟨q, rfl, .inl ⟨ks, Same.rd y1.fh g1⟩, a2 B ρ s1 σ Hf1 H1 _ V1 (pa.imp (fun kd s2 p2 w Hf2 H2 y2 r2 => ?_) fun _ _ _ z => z)⟩
      rw [post_bind] at p2
      refine x2 B ρ s2 σ Hf2 H2 _ (V1.ext' y2) (p2.imp (fun xd s3 p3 u Hf3 H3 y3 r3 => ?_) fun _ _ _ z => z)
      rw [post_bind, post_opt] at p3
      obtain ⟨k, hk', p3⟩ := p3
      rw [post_pure] at p3
      have ek := asKey_v hk' (VAt.fr (H := H2) r2)
      subst ek
      have g3' := g3.mono (y2.ff.trans y3.ff)
      have hr : Rd H3 q (.dK ks) := Same.rd y3.fh (Same.rd (y2.ff.trans y3.ff) g1)
      refine ⟨valV ks k, .inl ⟨ks, k, hr, rfl, rfl⟩, p3 _ Hf3 H3 (y1.trans (y2.trans y3)) ?_⟩
      cases hv : valD l k with
      | none => rw [(g3'.val k).2 hv]; exact r3
      | some z => obtain ⟨v', q1, q2⟩ := (g3'.val k).1 z hv; rw [q1]; exact q2
end
end VL
namespace VL
open PySem PySem.Spec PyProof.Rows L2
section
variable {c : Ctx} {W : Wd} {E : XK} {Γ : Gam} {e a b o : Expr} {f fa fb fo : Rho → M D} {pos : Pos} {Hf H : Hp}
def pairOf : D → Option (Key × D)
  | .tup [k, v] => (asKey k).map fun k => (k, v)
  | _ => none
def pairsOf' : List D → Option (List (Key × D))
  | [] => some []
  | d :: r => match pairOf d, pairsOf' r with
    | some z, some zs => some (z :: zs)
    | _, _ => none
def dictD (ds : List D) : Option D := match ds with
  | [.lst l] => (pairsOf' l).map fun kv => .dct (mergeD [] kv)
  | _ => none
theorem AtAll.two {xs : List V} {d e : D} (h : AtAll W Hf xs [d, e]) : ∃ x y, xs = [x, y] ∧ At W Hf x d ∧ At W Hf y e := by
  cases h with
  | cons h r => cases r with
    | cons h' r => cases r; exact ⟨_, _, rfl, h, h'⟩
theorem pair_at {v : V} {d : D} {z : Key × D} (h : At W Hf v d) (e : pairOf d = some z) : ∃ (q : Addr) (u : V), v = .ref q ∧ SqT W.K Hf q [kV z.1, u] ∧ At W Hf u z.2 := by
  unfold pairOf at e
  split at e
  · rename_i kd vd
    obtain ⟨k, hk, rfl⟩ := Option.map_eq_some_iff.mp e
    cases h with
    | tup g1 g2 g3 =>
      obtain ⟨x, y, rfl, b1, b2⟩ := g3.two
      have ek := asKey_v hk (VAt.fr (H := Hf) b1)
      subst ek
      exact ⟨_, y, rfl, g1, b2⟩
  · cases e
theorem pairs_at : ∀ {ds : List D} {xs : List V} {kv : List (Key × D)}, AtAll W Hf xs ds → pairsOf' ds = some kv → ∃ (ps : List Addr) (ks : List (Key × V)), xs = ps.map V.ref ∧ Paired (fun p z => SqT W.K Hf p [kV z.1, z.2]) ps ks ∧ AtKv W Hf ks kv := by
  intro ds
  induction ds with
  | nil =>
    intro xs kv h e
    cases h; cases e
    exact ⟨[], [], rfl, .nil, .nil⟩
  | cons d ds ih =>
    intro xs kv h e
    cases h with
    | cons hv hr =>
      unfold pairsOf' at e
      cases h1 : pairOf d with
      | none => rw [h1] at e; cases e
      | some z =>
        cases h2 : pairsOf' ds with
        | none => rw [h1, h2] at e; cases e
        | some zs =>
          rw [h1, h2] at e
          cases e
          obtain ⟨ps, ks, a1, a2, a3⟩ := ih hr h2
          obtain ⟨q, u, b1, b2, b3⟩ := pair_at hv h1
          exact ⟨q :: ps, (z.1, u) :: ks, by rw [a1, b1]; rfl, .cons b2 a2, .cons b3 a3⟩
theorem paired_sq {H' : Hp} (e : Same Hf H') {ps : List Addr} {ks : List (Key × V)} (h : Paired (fun p z => SqT W.K Hf p [kV z.1, z.2]) ps ks) : Paired (fun (p : Addr) (z : Key × V) => SqT W.K H' p [kV z.1, z.2]) ps ks := Paired.mapP h fun _ _ z => Same.sqT e z
theorem cd_dict : CallD W (rFd W) (fun xs H Q => ∃ (a : Addr) (ps : List Addr) (kvs : List (Key × V)), xs = [.ref a] ∧ SqL W.K H a (ps.map V.ref) ∧ Paired (fun p kv => SqT W.K H p [kV kv.1, kv.2]) ps kvs ∧ ∀ p, H p = none → Q (.ref p) (upd H p (.dK (mergeK [] kvs)))) dictD := by
  intro Hf H s xs ds z Q x0 hxs hg k
  unfold dictD at hg
  split at hg
  · obtain ⟨kv, hkv, rfl⟩ := Option.map_eq_some_iff.mp hg
    obtain ⟨x, rfl, hx⟩ := hxs.one
    obtain ⟨p, ys, rfl, h1, h2, h3⟩ := hx.lst' x0.fh
    obtain ⟨ps, ks, rfl, a2, a3⟩ := pairs_at h3 hkv
    refine ⟨p, ps, ks, rfl, SqL.of h1, paired_sq x0.fh a2, fun q hq => ?_⟩
    obtain ⟨y, nf, nP⟩ := x0.newU (o := .dK (mergeK [] ks)) hq
    refine k _ _ _ y ⟨q, _, _, rfl, rfl, hq, nf, nP, upd_same, ?_, AtKv.merge a3 .nil⟩
    have e1 := length_mergeK ks []
    have e2 : ps.length = ks.length := Paired.length a2
    simp at e1 h2
    omega
  · cases hg
theorem jfd_dict {fs : Rho → M (List D)} {p : Pos} (ha : JAv c Γ [e] fs) (hg : c.sc.names.lookup ("dict" : Str) = some .globalImplicit) (hm : c.G.mg "dict" = none) (he : ∀ env, starEach [e] env = (false, eval e env) :: starEach [] env := by intro _; rfl) : JFd c Γ (.Call (.Name "dict" p) [e] [] pos) (callF dictD fs) :=
  jx_callT (fun _ => elder_fd) (fun X h => by have q := call_dictP (X := X) h.calm; rw [h.K] at q; exact q) cd_dict (by decide +kernel) ha hg hm he
end
end VL
namespace VL
open PySem PySem.Spec PyProof.Rows L2
def dclL (tg : D → Rho → Option Rho) (tt : Rho → M Bool) (tk tv : Rho → M D) (ρ : Rho) (acc : List (Key × List D)) : List D → M (List (Key × List D))
  | [] => pure acc
  | d :: r => do
    let ρ' ← opt (tg d ρ)
    let b ← tt ρ'
    if b = true then do
      let k ← tk ρ'
      let v ← tv ρ'
      let k ← opt (asKey k)
      let m ← asLst v
      if (acc.any fun z => decide (z.1 = k)) = true then nope else dclL tg tt tk tv ρ (acc ++ [(k, m)]) r
    else dclL tg tt tk tv ρ acc r
def dclF (vs : List Nat) (fi : Rho → M (List D)) (tg : D → Rho → Option Rho) (tt : Rho → M Bool) (tk tv : Rho → M D) : Rho → M D := fun ρ => do
  let ds ← fi ρ
  let ys ← noE (dclL tg tt tk tv (wipeR ρ vs) [] ds)
  pure (.dct (ys.map fun z => (z.1, .lst z.2)))
section
variable {c : Ctx} {Γ : Gam} {pos : Pos} {Hf H : Hp}
def FreshL (W : Wd) (H0 Hf H : Hp) (qs : List (Key × Addr)) (ds : List (Key × List D)) : Prop :=
  Paired (fun (q : Key × Addr) (z : Key × List D) => q.1 = z.1 ∧ H0 q.2 = none ∧ Hf q.2 = none ∧ q.2 ≠ W.P ∧ ∃ xs, H q.2 = some (.lst xs) ∧ xs.length ≤ sizeLine ∧ AtAll W Hf xs z.2) qs ds
theorem FreshL.ext {W : Wd} {H0 Hf H Hf' H' : Hp} {s : Pot} {qs : List (Key × Addr)} {ds : List (Key × List D)} (h : FreshL W H0 Hf H qs ds) (x : Ext W Hf H Hf' H' s) : FreshL W H0 Hf' H' qs ds :=
  Paired.mapP h fun _ _ ⟨a1, a2, a3, a4, xs, a5, a6, a7⟩ => ⟨a1, a2, x.unf _ _ a5 a3, a4, xs, x.old _ _ a4 a5, a6, a7.mono x.ff⟩
theorem FreshL.upd {W : Wd} {H0 Hf H : Hp} {p : Addr} {o : HO} {qs : List (Key × Addr)} {ds : List (Key × List D)} (h : FreshL W H0 Hf H qs ds) (n : p ∉ qs.map (·.2)) : FreshL W H0 Hf (upd H p o) qs ds :=
  Paired.both h fun q _ m ⟨a1, a2, a3, a4, xs, a5, a6, a7⟩ => ⟨a1, a2, a3, a4, xs, by rw [upd_ne (fun z => n (List.mem_map.mpr ⟨q, m, z⟩))]; exact a5, a6, a7⟩
theorem FreshL.snoc {W : Wd} {H0 Hf H : Hp} {q : Key × Addr} {z : Key × List D} : ∀ {qs : List (Key × Addr)} {ds : List (Key × List D)}, FreshL W H0 Hf H qs ds → FreshL W H0 Hf H [q] [z] → FreshL W H0 Hf H (qs ++ [q]) (ds ++ [z])
  | _, _, .nil, k => k
  | _, _, .cons a r, k => .cons a (FreshL.snoc r k)
theorem FreshL.any {W : Wd} {H0 Hf H : Hp} {k : Key} : ∀ {qs : List (Key × Addr)} {ds : List (Key × List D)}, FreshL W H0 Hf H qs ds → ((qs.map fun z => (z.1, V.ref z.2)).any fun kv => decide (kv.1 = k)) = (ds.any fun z => decide (z.1 = k))
  | _, _, .nil => rfl
  | _, _, .cons a r => by
    simp only [List.map_cons, List.any_cons]
    rw [FreshL.any r, a.1]
theorem FreshL.len {W : Wd} {H0 Hf H : Hp} {qs : List (Key × Addr)} {ds : List (Key × List D)} (h : FreshL W H0 Hf H qs ds) : qs.length = ds.length := Paired.length h
theorem jfdl_dcS {is : List Nat} {tg iter kx vx : Expr} {ifs : List Expr} {scope : Scope} {own : List (Str × Nat)} {fi : Rho → M (List D)} {ft : D → Rho → Option Rho} {ftt : Rho → M Bool} {fk fv : Rho → M D}
    (hi : JIv c Γ tg iter fi) (ok : BlkOk c.N c.sc scope own) (hg : JG (c.blk scope) Γ is tg ft) (ht : JTs (c.blk scope) Γ ifs ftt) (hk : JE (c.blk scope) Γ kx fk) (he : JF (c.blk scope) Γ vx fv)
    (his : ∀ i ∈ is, i ∈ own.map (·.2) := by decide) (hs : ∀ env x, foldedSetIterable iter env x = pure x := by intro _ _; rfl) : JXs c rFdl Γ (.DictComp kx vx [⟨tg, iter, ifs, 0⟩] scope pos) (dclF (own.map (·.2)) fi ft ftt fk fv) := by
  obtain ⟨wi, i1, i2⟩ := hi
  obtain ⟨g, g1, g2⟩ := hg
  obtain ⟨tt, t1, t2⟩ := ht
  obtain ⟨tk, k1, k2⟩ := hk
  obtain ⟨te, e1, e2⟩ := he
  refine ⟨tDc wi g tt tk te (own.map (·.2)), fun X hX => pe_dc hX.calm hX.nd (i1 X hX) (by rw [hX.N, hX.sc]; exact ok) (fun s H C cl fp => g1 _ (hX.blk ok.kind s H C cl fp)) (fun s H C cl fp => t1 _ (hX.blk ok.kind s H C cl fp)) (fun s H C cl fp => k1 _ (hX.blk ok.kind s H C cl fp)) (fun s H C cl fp => e1 _ (hX.blk ok.kind s H C cl fp)) (hs _), fun X hX => setOk_dc hX.calm hX.nd (i1 X hX) (by rw [hX.N, hX.sc]; exact ok) (fun s H C cl fp => g1 _ (hX.blk ok.kind s H C cl fp)) (fun s H C cl fp => t1 _ (hX.blk ok.kind s H C cl fp)) (fun s H C cl fp => k1 _ (hX.blk ok.kind s H C cl fp)) (fun s H C cl fp => e1 _ (hX.blk ok.kind s H C cl fp)) (hs _), ?_⟩
  intro B ρ s σ Hf H Q V p
  unfold dclF at p
  rw [post_bind] at p
  refine i2 B ρ s σ Hf H _ V (p.imp (fun ds s1 p1 J Hf1 H1 x1 hz it => ?_) fun _ _ _ z => z)
  rw [post_bind, post_noE] at p1
  have V1 := (V.ext' x1).wipe' (own.map (·.2))
  intro D0 hD0
  obtain ⟨y0, nf0, nP0⟩ := x1.newU (o := .dK []) hD0
  have nP : D0 ≠ c.W.P := nP0
  refine ⟨fun i m H2 => ∃ Hf2 s2 qs das, i ≤ ds.length ∧ m = ds.length - i ∧ Ext c.W Hf1 H1 Hf2 H2 s2 ∧ H2 D0 = some (.dK (qs.map fun z => (z.1, L2.V.ref z.2))) ∧ Hf2 D0 = none ∧ qs.length ≤ i ∧ (D0 :: qs.map (·.2)).Nodup ∧ FreshL c.W H1 Hf2 H2 qs das ∧
    Post (fun ys s' => ∀ v Hf' H', Ext c.W Hf H Hf' H' s' → rFdl c.W H Hf' H' v (.dct (ys.map fun z => (z.1, .lst z.2))) → Q v H') (fun _ _ _ => False) (dclL ft ftt fk fv (wipeR ρ (own.map (·.2))) das (ds.drop i) s2), ?_, ?_⟩
  · refine ⟨ds.length - 0, Hf1, s1, [], [], Nat.zero_le _, rfl, y0, upd_same, nf0, Nat.le_refl _, by simp, .nil, ?_⟩
    refine p1.imp (fun ys s' k v Hf' H' x r => ?_) fun _ _ _ z => z
    exact k v Hf' H' x r
  · intro i m H2 ⟨Hf2, s2, qs, das, hi, hm, x2, hD, hDf, hl, hn, ha, p2⟩
    have hit := it i Hf2 H2 s2 x2
    by_cases hlt : i < ds.length
    · right
      have hd : ds[i]? = some ds[i] := List.getElem?_eq_getElem hlt
      obtain ⟨go, yl⟩ := hit.2 _ hd
      refine ⟨go, fun H3 => ∃ Hf3 s3 qs3 das3, Ext c.W Hf1 H1 Hf3 H3 s3 ∧ H3 D0 = some (.dK (qs3.map fun z => (z.1, L2.V.ref z.2))) ∧ Hf3 D0 = none ∧ qs3.length ≤ i + 1 ∧ (D0 :: qs3.map (·.2)).Nodup ∧ FreshL c.W H1 Hf3 H3 qs3 das3 ∧
        Post (fun ys s' => ∀ v Hf' H', Ext c.W Hf H Hf' H' s' → rFdl c.W H Hf' H' v (.dct (ys.map fun z => (z.1, .lst z.2))) → Q v H') (fun _ _ _ => False) (dclL ft ftt fk fv (wipeR ρ (own.map (·.2))) das3 (ds.drop (i + 1)) s3),
        fun H3 ⟨Hf3, s3, qs3, das3, q1, q2, q3, q4, q5, q6, q7⟩ => ⟨ds.length - (i + 1), by omega, Hf3, s3, qs3, das3, hlt, rfl, q1, q2, q3, q4, q5, q6, q7⟩, fun x H3 hy => ?_⟩
      obtain ⟨Hf3, x3, ax⟩ := yl x H3 hy
      have x13 := x2.trans x3
      have V3 : EnvAt (c.blk scope).W B Γ (wipeR ρ (own.map (·.2))) s2 (wipe σ (own.map (·.2))) Hf3 H3 := V1.ext' x13
      rw [List.drop_eq_getElem_cons hlt] at p2
      unfold dclL at p2
      rw [post_bind, post_opt] at p2
      obtain ⟨ρ', eρ, p2⟩ := p2
      refine g2 B (wipeR ρ (own.map (·.2))) s2 (wipe σ (own.map (·.2))) Hf3 H3 x _ ρ' _ V3 ax eρ fun σ' V4 w4 => ?_
      refine ⟨?_, ?_⟩
      · rw [w4 _ his, wipe_wipe fun _ h => h]
      · rw [post_bind] at p2
        refine t2 B ρ' s2 σ' Hf3 H3 _ V4 (p2.imp (fun b s3 p3 Hf4 H4 x4 => ?_) fun _ _ _ z => z.elim)
        have hD3 : H3 D0 = some (.dK (qs.map fun z => (z.1, L2.V.ref z.2))) := x3.old _ _ nP hD
        have hDf3 : Hf3 D0 = none := x3.unf _ _ hD hDf
        have hD4 : H4 D0 = some (.dK (qs.map fun z => (z.1, L2.V.ref z.2))) := x4.old _ _ nP hD3
        have hDf4 : Hf4 D0 = none := x4.unf _ _ hD3 hDf3
        have x14 : Ext c.W Hf1 H1 Hf4 H4 s3 := x13.trans x4
        have ha4 := (ha.ext x3).ext x4
        cases b with
        | false =>
          simp only [Bool.false_eq_true, if_false] at p3 ⊢
          exact ⟨Hf4, s3, qs, das, x14, hD4, hDf4, by omega, hn, ha4, p3⟩
        | true =>
          simp only [if_true] at p3 ⊢
          rw [post_bind] at p3
          have V4' := V4.ext' x4
          refine k2 B ρ' s3 σ' Hf4 H4 _ V4' (p3.imp (fun y s4 p4 v5 Hf5 H5 x5 r5 => ?_) fun _ _ _ z => z.elim)
          rw [post_bind] at p4
          refine e2 B ρ' s4 σ' Hf5 H5 _ (V4'.ext' x5) (p4.imp (fun z6 s6 p6 v6 Hf6 H6 x6 r6 => ?_) fun _ _ _ z => z.elim)
          rw [post_bind, post_opt] at p6
          obtain ⟨k, hk, p7⟩ := p6
          rw [post_bind] at p7
          obtain ⟨ml, rfl, p8⟩ := post_asLst p7
          obtain ⟨q6, xs6, ds6, a1, a2, a3, a4, a5, a6, a7, a8⟩ := r6
          cases a2
          subst a1
          have hD5 : H5 D0 = some (.dK (qs.map fun z => (z.1, L2.V.ref z.2))) := x5.old _ _ nP hD4
          have hDf5 : Hf5 D0 = none := x5.unf _ _ hD4 hDf4
          have hD6 : H6 D0 = some (.dK (qs.map fun z => (z.1, L2.V.ref z.2))) := x6.old _ _ nP hD5
          have hDf6 : Hf6 D0 = none := x6.unf _ _ hD5 hDf5
          have ha5 := ha4.ext x5
          have ha6 := ha5.ext x6
          have ekey : v5 = kV k := asKey_v hk (VAt.fr (H := H5) r5)
          have x15 := x14.trans x5
          have hq1 : H1 q6 = none := Rs_old x15 a3 a5
          by_cases hany : (das.any fun z => decide (z.1 = k)) = true
          · rw [if_pos hany] at p8; exact False.elim p8
          · rw [if_neg hany] at p8
            have eput : putK (qs.map fun z => (z.1, L2.V.ref z.2)) k (.ref q6) = (qs ++ [(k, q6)]).map fun z => (z.1, L2.V.ref z.2) := by
              unfold putK
              rw [if_neg (by rw [ha6.any]; exact hany), List.map_append]; rfl
            have hqD : q6 ≠ D0 := fun e => by rw [e, hD5] at a3; cases a3
            have hqn : q6 ∉ qs.map (·.2) := fun hm => by
              obtain ⟨w, hw, e⟩ := List.mem_map.mp hm
              obtain ⟨z, hz⟩ := Paired.left ha5 hw
              obtain ⟨_, _, _, _, xs, h5, _⟩ := hz
              rw [e, a3] at h5; cases h5
            have hDn : D0 ∉ qs.map (·.2) := (List.nodup_cons.mp hn).1
            refine ⟨_, k, ekey, hD6, by rw [List.length_map]; omega, Hf6, s6, qs ++ [(k, q6)], das ++ [(k, ml)], (x15.trans x6).write hDf6 nP hD0, by rw [upd_same, eput], hDf6, by simp; omega, ?_, ?_, p8⟩
            · rw [List.nodup_cons, List.map_append, List.nodup_append]
              refine ⟨?_, (List.nodup_cons.mp hn).2, by simp, fun a ha b hb e => ?_⟩
              · intro hm
                rcases List.mem_append.mp hm with h | h
                · exact hDn h
                · simp at h; exact hqD h.symm
              · simp at hb; subst hb; subst e; exact hqn ha
            · refine FreshL.snoc (ha6.upd hDn) (.cons ⟨rfl, hq1, a4, a5, xs6, ?_, a7, a8⟩ .nil)
              rw [upd_ne hqD]; exact a6
    · left
      have e : i = ds.length := by omega
      subst e
      refine ⟨hit.1 (Nat.le_refl _), ?_⟩
      rw [List.drop_length] at p2
      have k := p2 (.ref D0) Hf2 H2 (x1.trans x2)
      refine k ⟨D0, qs, das, rfl, rfl, Rs_old x1 hD0 nP0, hDf, nP0, hD, by omega, hn, Paired.mapP ha fun a b ⟨z1, z2, z3, z4, z5⟩ => ⟨z1, Rs_old x1 z2 z4, z3, z4, z5⟩⟩
end
end VL
namespace VL
open PySem PySem.Spec PyProof.Rows L2
structure FnG (P : Program) (w : World) (K : PySem.W.Frag) (mg : Str → Option Value) (base : Heap) (k : Nat) (f : Addr) (fd : FuncData) (ps : List Str) (sp : Sp) : Prop where
  argn : ∀ vs H Q E, sp vs H Q E → vs.length = ps.length
  goes : ∀ (A : Around) (fr : List Env) (s : Shared) (H : Hp) (ar : Args) (us : List Value) (vs : List V) (Q : VK) (E : XK), A.guards = some [] → Room k A → Env0 P w K mg base A fr s H → BindsTo s fd ar (ps.zip us) → Vals vs us → sp vs H Q E →
    codeAny (model P w) A (.call (.ref f) ar) (CR (L2.CX P w) fr P w H s Q E) s
section
variable {P : Program} {w : World} {K : PySem.W.Frag} {mg : Str → Option Value} {base : Heap}
theorem FnG.of {k : Nat} {f : Addr} {fd : FuncData} {ps : List Str} {sp : Sp} (F : FnOk P w K mg base (L2.CX P w) k f fd ps sp) : FnG P w K mg base k f fd ps sp :=
  ⟨F.len, fun A fr s H ar us vs Q E _ h1 h2 h3 h4 h5 => F.run A fr s H ar us vs Q E h1 h2 h3 h4 h5⟩
theorem FnG.imp {k : Nat} {f : Addr} {fd : FuncData} {ps : List Str} {sp sp' : Sp} (F : FnG P w K mg base k f fd ps sp) (h : ∀ vs H Q E, sp' vs H Q E → sp vs H Q E) : FnG P w K mg base k f fd ps sp' :=
  ⟨fun vs H Q E q => F.argn vs H Q E (h _ _ _ _ q), fun A fr s H ar us vs Q E g h1 h2 h3 h4 h5 => F.goes A fr s H ar us vs Q E g h1 h2 h3 h4 (h _ _ _ _ h5)⟩
end
section
variable {X : Cx} {k : Nat} {f : Addr} {fd : FuncData} {ps : List Str} {sp : Sp} {dvs : List V} {ds : List Value} {E : XK} {x : Str} {p pos : Pos} {e : Expr} {es : List Expr} {t : TA}
end
end VL
namespace VL
open PySem PySem.Spec PyProof.Rows L2
def reprOf (p : PyData) : Option D := if p.showable = true ∧ p.depth ≤ 60 ∧ p.shown.length ≤ sizeLine then some (.str p.shown) else none
def reprD : List D → Option D
  | [d] => match toPy d with
    | some p => reprOf p
    | none => none
  | _ => none
section
variable {c : Ctx} {W : Wd} {Γ : Gam} {e : Expr} {pos : Pos}
end
end VL
namespace VL
open PySem PySem.Spec PyProof.Rows L2
section
variable {G : Glob} {x qual : Str} {pa : Arguments} {bd : List Stmt} {sc : Scope} {dvs : List V} {kws : List (Str × V)} {f : Addr} {fd : FuncData} {N ps : List Str} {k n : Nat} {Γ' Γl : Gam} {body : Rho → M Fl}
structure FnIG (G : Glob) (x : Str) (lvl n : Nat) (dd : List D) (F : List D → M D) : Prop where
  ex : ∃ (f : Addr) (fd : FuncData) (ps : List Str) (dvs : List V) (ds : List Value), G.mg x = some (.ref f) ∧ PySem.W.keepIn G.K (.ref f) = true ∧ ps.length = n ∧ FnG G.prog G.w G.K G.mg G.base lvl f fd ps (spOf G.K G.cls n F) ∧ Binds G.K fd ps ds ∧ Vals dvs ds ∧ (∀ P H, AtAll ⟨G.K, G.cls, P⟩ H dvs dd)
theorem FnIG.imp {dd : List D} {F F' : List D → M D} {lvl : Nat} (T : FnIG G x lvl n dd F) (h : ∀ ds, Le (F' ds) (F ds)) : FnIG G x lvl n dd F' := by
  obtain ⟨f, fd, ps, dvs, ds, e1, e2, e3, e4, e5, e6, e7⟩ := T.ex
  refine ⟨f, fd, ps, dvs, ds, e1, e2, e3, e4.imp fun vs H Q E q => ?_, e5, e6, e7⟩
  obtain ⟨q1, P, Hf, ds, s, q2, q3, q4⟩ := q
  exact ⟨q1, P, Hf, ds, s, q2, q3, (h ds).post q4⟩
end
section
variable {c : Ctx} {Γ : Gam} {e : Expr} {pos : Pos} {x : Str} {lvl n : Nat} {dd : List D} {F : List D → M D}
end
section
variable {G : Glob} {f fC fP : Addr} {fd fdC fdP : FuncData} {pa : Arguments} {bd : List Stmt} {sc : Scope} {dvs : List V} {kws : List (Str × V)}
end
end VL
namespace VL
open PySem PySem.Spec PyProof.Rows L2
section
variable {α β γ : Type}
@[simp] theorem m_pure_bind (a : α) (f : α → M β) : ((pure a : M α) >>= f) = f a := by funext s; rfl
@[simp] theorem m_bind_pure (m : M α) : (m >>= fun a => (pure a : M α)) = m := by
  funext s
  show (match m s with | .ok a s' => (pure a : M α) s' | .err c v s' => .err c v s' | .fail => .fail) = m s
  cases m s <;> rfl
@[simp] theorem m_bind_assoc (m : M α) (f : α → M β) (g : β → M γ) : ((m >>= f) >>= g) = (m >>= fun a => f a >>= g) := by
  funext s
  show (match (match m s with | .ok a s' => f a s' | .err c v s' => .err c v s' | .fail => .fail : R β) with | .ok a s' => g a s' | .err c v s' => .err c v s' | .fail => .fail) = (match m s with | .ok a s' => (f a >>= g) s' | .err c v s' => .err c v s' | .fail => .fail)
  cases m s <;> rfl
@[simp] theorem m_nope_bind (f : α → M β) : ((nope : M α) >>= f) = nope := by funext s; rfl
theorem m_ite_bind {c : Prop} [Decidable c] (x y : M α) (f : α → M β) : ((if c then x else y) >>= f) = (if c then x >>= f else y >>= f) := by split <;> rfl
@[simp] theorem noE_pure (a : α) : noE (pure a : M α) = pure a := by funext s; rfl
@[simp] theorem slot_zero (d : D) (ρ : Rho) : slot 0 (some d :: ρ) = pure d := by funext s; rfl
@[simp] theorem slot_succ (i : Nat) (x : Option D) (ρ : Rho) : slot (i + 1) (x :: ρ) = slot i ρ := by
  unfold slot; simp
@[simp] theorem asBl_bl (b : Bool) : asBl (.bl b) = pure b := by funext s; rfl
@[simp] theorem asInt_int (i : Int) : asInt (.int i) = pure i := by funext s; rfl
@[simp] theorem asLst_lst (l : List D) : asLst (.lst l) = pure l := by funext s; rfl
@[simp] theorem asDct_dct (l : List (Key × D)) : asDct (.dct l) = pure l := by funext s; rfl
def Tk (k : Nat) (m : M α) (P : α → Prop) : Prop := ∀ (b : Int) (s : Pot), Pk b s → b + k ≤ 100000 → ∃ a s', m s = .ok a s' ∧ Pk (b + k) s' ∧ P a
theorem Pk.mono {b b' : Int} {s : Pot} (h : Pk b s) (hb : b ≤ b') : Pk b' s := ⟨h.1, h.2.1, h.2.2.1, h.2.2.2.1, Int.le_trans h.2.2.2.2 hb⟩
theorem Tk.ret {P : α → Prop} {a : α} (h : P a) : Tk 0 (pure a : M α) P := fun b s hp _ => ⟨a, s, rfl, by simpa using hp, h⟩
theorem Tk.bind {P : α → Prop} {Q : β → Prop} {k1 k2 : Nat} {m : M α} {f : α → M β} (h : Tk k1 m P) (g : ∀ a, P a → Tk k2 (f a) Q) : Tk (k1 + k2) (m >>= f) Q := by
  intro b s hp hb
  obtain ⟨a, s1, e1, p1, q1⟩ := h b s hp (by omega)
  obtain ⟨a2, s2, e2, p2, q2⟩ := g a q1 (b + k1) s1 p1 (by omega)
  refine ⟨a2, s2, ?_, ?_, q2⟩
  · rw [bind_run, e1]; exact e2
  · have : b + ((k1 + k2 : Nat) : Int) = b + k1 + k2 := by omega
    rw [this]; exact p2
theorem Tk.mono {P Q : α → Prop} {k k' : Nat} {m : M α} (h : Tk k m P) (hk : k ≤ k') (hq : ∀ a, P a → Q a) : Tk k' m Q := by
  intro b s hp hb
  obtain ⟨a, s1, e1, p1, q1⟩ := h b s hp (by omega)
  exact ⟨a, s1, e1, p1.mono (by omega), hq a q1⟩
theorem Tk.imp {P Q : α → Prop} {k : Nat} {m : M α} (h : Tk k m P) (hq : ∀ a, P a → Q a) : Tk k m Q := h.mono (Nat.le_refl _) hq
end
def okD : Nat → D → Bool
  | _, .str x => x.cps.all (· < 0x110000)
  | _, .non => true
  | _, .int _ => true
  | _, .bl _ => true
  | n + 1, .tup l => l.all (okD n)
  | n + 1, .lst l => l.all (okD n)
  | _, _ => false
mutual
def eqB : D → D → Bool
  | .non, .non => true
  | .bl a, .bl b => a == b
  | .bl a, .int j => (if a then 1 else 0) == j
  | .int i, .bl b => i == (if b then 1 else 0)
  | .int i, .int j => i == j
  | .str x, .str y => x == y
  | .tup l, .tup m => eqBL l m
  | .lst l, .lst m => eqBL l m
  | _, _ => false
def eqBL : List D → List D → Bool
  | [], [] => true
  | x :: l, y :: m => eqB x y && eqBL l m
  | _, _ => false
end
theorem okD_py : ∀ (n : Nat) (d : D), okD n d = true → ∃ p, toPy d = some p ∧ p.canLay0 = true ∧ p.depth ≤ n
  | 0, .str x, h => ⟨_, rfl, h, by simp [PyData.depth]⟩
  | n + 1, .str x, h => ⟨_, rfl, h, by simp [PyData.depth]⟩
  | 0, .non, h => ⟨_, rfl, rfl, by simp [PyData.depth]⟩
  | n + 1, .non, h => ⟨_, rfl, rfl, by simp [PyData.depth]⟩
  | 0, .int i, h => ⟨_, rfl, rfl, by simp [PyData.depth]⟩
  | n + 1, .int i, h => ⟨_, rfl, rfl, by simp [PyData.depth]⟩
  | 0, .bl i, h => ⟨_, rfl, rfl, by simp [PyData.depth]⟩
  | n + 1, .bl i, h => ⟨_, rfl, rfl, by simp [PyData.depth]⟩
  | n + 1, .tup l, h => by
    have key : ∀ m : List D, (∀ x ∈ m, okD n x = true) → ∃ ps, toPyL m = some ps ∧ PyData.canLayAll0 ps = true ∧ PyData.depthAll ps ≤ n := by
      intro m
      induction m with
      | nil => intro _; exact ⟨[], rfl, rfl, by simp [PyData.depthAll]⟩
      | cons x m ih =>
        intro hm
        obtain ⟨p, e1, e2, e3⟩ := okD_py n x (hm x (by simp))
        obtain ⟨ps, f1, f2, f3⟩ := ih fun y hy => hm y (by simp [hy])
        exact ⟨p :: ps, by simp [toPyL, e1, f1], by simp [PyData.canLayAll0, e2, f2], by simp [PyData.depthAll]; omega⟩
    obtain ⟨ps, f1, f2, f3⟩ := key l (by simpa [okD] using h)
    exact ⟨.tuple ps, by simp [toPy, f1], by simpa [PyData.canLay0] using f2, by simp [PyData.depth]; omega⟩
  | n + 1, .lst l, h => by
    have key : ∀ m : List D, (∀ x ∈ m, okD n x = true) → ∃ ps, toPyL m = some ps ∧ PyData.canLayAll0 ps = true ∧ PyData.depthAll ps ≤ n := by
      intro m
      induction m with
      | nil => intro _; exact ⟨[], rfl, rfl, by simp [PyData.depthAll]⟩
      | cons x m ih =>
        intro hm
        obtain ⟨p, e1, e2, e3⟩ := okD_py n x (hm x (by simp))
        obtain ⟨ps, f1, f2, f3⟩ := ih fun y hy => hm y (by simp [hy])
        exact ⟨p :: ps, by simp [toPyL, e1, f1], by simp [PyData.canLayAll0, e2, f2], by simp [PyData.depthAll]; omega⟩
    obtain ⟨ps, f1, f2, f3⟩ := key l (by simpa [okD] using h)
    exact ⟨.list ps, by simp [toPy, f1], by simpa [PyData.canLay0] using f2, by simp [PyData.depth]; omega⟩
theorem py_okD {n : Nat} {d : D} (h : okD n d = true) (hn : n ≤ 64) : ∃ p, py d = some p ∧ toPy d = some p := by
  obtain ⟨p, e1, e2, e3⟩ := okD_py n d h
  refine ⟨p, ?_, e1⟩
  unfold py
  rw [e1]
  have : SeqAt.shaped p = true := by
    unfold SeqAt.shaped
    rw [e2]
    simp
    omega
  simp [this]
mutual
theorem eqv_eqB : ∀ (d e : D) (p q : PyData), toPy d = some p → toPy e = some q → PyData.eqv p q = eqB d e
  | .non, e, p, q, h1, h2 => by
    simp [toPy] at h1; subst h1
    cases e <;> simp [toPy] at h2 <;> (try subst h2) <;> (try (obtain ⟨a, _, rfl⟩ := h2)) <;> simp [PyData.eqv, eqB]
  | .bl b, e, p, q, h1, h2 => by
    simp [toPy] at h1; subst h1
    cases e <;> simp [toPy] at h2 <;> (try subst h2) <;> (try (obtain ⟨a, _, rfl⟩ := h2)) <;> simp [PyData.eqv, eqB]
  | .int b, e, p, q, h1, h2 => by
    simp [toPy] at h1; subst h1
    cases e <;> simp [toPy] at h2 <;> (try subst h2) <;> (try (obtain ⟨a, _, rfl⟩ := h2)) <;> simp [PyData.eqv, eqB]
  | .str b, e, p, q, h1, h2 => by
    simp [toPy] at h1; subst h1
    cases e <;> simp [toPy] at h2 <;> (try subst h2) <;> (try (obtain ⟨a, _, rfl⟩ := h2)) <;> simp [PyData.eqv, eqB]
  | .tup l, e, p, q, h1, h2 => by
    simp [toPy] at h1
    obtain ⟨ps, e1, rfl⟩ := h1
    cases e with
    | tup m =>
      simp [toPy] at h2
      obtain ⟨qs, e2, rfl⟩ := h2
      simp only [PyData.eqv, eqB]
      exact eqvAll_eqBL l m ps qs e1 e2
    | lst m => simp [toPy] at h2; obtain ⟨qs, e2, rfl⟩ := h2; simp [PyData.eqv, eqB]
    | _ => simp [toPy] at h2 <;> (try subst h2) <;> simp [PyData.eqv, eqB]
  | .lst l, e, p, q, h1, h2 => by
    simp [toPy] at h1
    obtain ⟨ps, e1, rfl⟩ := h1
    cases e with
    | lst m =>
      simp [toPy] at h2
      obtain ⟨qs, e2, rfl⟩ := h2
      simp only [PyData.eqv, eqB]
      exact eqvAll_eqBL l m ps qs e1 e2
    | tup m => simp [toPy] at h2; obtain ⟨qs, e2, rfl⟩ := h2; simp [PyData.eqv, eqB]
    | _ => simp [toPy] at h2 <;> (try subst h2) <;> simp [PyData.eqv, eqB]
  | .dct _, _, _, _, h1, _ => by simp [toPy] at h1
  | .obj _ _, _, _, _, h1, _ => by simp [toPy] at h1
  | .exc _ _, _, _, _, h1, _ => by simp [toPy] at h1
  | .clo _ _, _, _, _, h1, _ => by simp [toPy] at h1
  | .pot, _, _, _, h1, _ => by simp [toPy] at h1
  | .tok _, _, _, _, h1, _ => by simp [toPy] at h1
theorem eqvAll_eqBL : ∀ (l m : List D) (ps qs : List PyData), toPyL l = some ps → toPyL m = some qs → PyData.eqvAll ps qs = eqBL l m
  | [], [], ps, qs, h1, h2 => by cases h1; cases h2; rfl
  | [], y :: m, ps, qs, h1, h2 => by
    cases h1
    simp only [toPyL] at h2
    split at h2
    · cases h2; rfl
    · cases h2
  | x :: l, [], ps, qs, h1, h2 => by
    cases h2
    simp only [toPyL] at h1
    split at h1
    · cases h1; rfl
    · cases h1
  | x :: l, y :: m, ps, qs, h1, h2 => by
    simp only [toPyL] at h1 h2
    cases e1 : toPy x with
    | none => rw [e1] at h1; cases h1
    | some a =>
      cases e2 : toPyL l with
      | none => rw [e1, e2] at h1; cases h1
      | some as =>
        cases f1 : toPy y with
        | none => rw [f1] at h2; cases h2
        | some b =>
          cases f2 : toPyL m with
          | none => rw [f1, f2] at h2; cases h2
          | some bs =>
            rw [e1, e2] at h1
            rw [f1, f2] at h2
            cases h1
            cases h2
            simp only [PyData.eqvAll, eqBL]
            rw [eqv_eqB x y a b e1 f1, eqvAll_eqBL l m as bs e2 f2]
end
theorem eqD_ok {d e : D} (h1 : okD 64 d = true) (h2 : okD 64 e = true) : eqD d e = some (.bl (eqB d e)) := by
  obtain ⟨p, e1, f1⟩ := py_okD h1 (Nat.le_refl _)
  obtain ⟨q, e2, f2⟩ := py_okD h2 (Nat.le_refl _)
  unfold eqD
  rw [e1, e2]
  simp [eqv_eqB d e p q f1 f2]
theorem neD_ok {d e : D} (h1 : okD 64 d = true) (h2 : okD 64 e = true) : neD d e = some (.bl (!eqB d e)) := by
  obtain ⟨p, e1, f1⟩ := py_okD h1 (Nat.le_refl _)
  obtain ⟨q, e2, f2⟩ := py_okD h2 (Nat.le_refl _)
  unfold neD
  rw [e1, e2]
  simp [eqv_eqB d e p q f1 f2]
theorem toPyL_any {d : D} {p : PyData} (hp : toPy d = some p) : ∀ {l : List D} {ps : List PyData}, toPyL l = some ps → (ps.any fun z => PyData.eqv z p) = l.any fun z => eqB z d
  | [], ps, h => by cases h; rfl
  | x :: l, ps, h => by
    simp only [toPyL] at h
    cases e1 : toPy x with
    | none => rw [e1] at h; cases h
    | some a =>
      cases e2 : toPyL l with
      | none => rw [e1, e2] at h; cases h
      | some as =>
        rw [e1, e2] at h
        cases h
        simp only [List.any_cons]
        rw [eqv_eqB x d a p e1 hp, toPyL_any hp e2]
theorem pyL_ok {d : D} {l : List D} (hl : d = .lst l ∨ d = .tup l) (h : okD 64 d = true) : ∃ ps, pyL d = some ps ∧ toPyL l = some ps := by
  obtain ⟨p, e1, f1⟩ := py_okD h (Nat.le_refl _)
  rcases hl with rfl | rfl
  · simp only [toPy, Option.map_eq_some_iff] at f1
    obtain ⟨ps, g, rfl⟩ := f1
    exact ⟨ps, by unfold pyL; simp only [e1], g⟩
  · simp only [toPy, Option.map_eq_some_iff] at f1
    obtain ⟨ps, g, rfl⟩ := f1
    exact ⟨ps, by unfold pyL; simp only [e1], g⟩
theorem hasD_ok {d e : D} {l : List D} (hl : e = .lst l ∨ e = .tup l) (h1 : okD 64 d = true) (h2 : okD 64 e = true) : hasD d e = some (l.any fun z => eqB z d) := by
  obtain ⟨p, e1, f1⟩ := py_okD h1 (Nat.le_refl _)
  obtain ⟨ps, e2, f2⟩ := pyL_ok hl h2
  unfold hasD
  split
  · rename_i x y; rcases hl with h | h <;> cases h
  · rw [e1, e2]
    simp [toPyL_any f1 f2]
theorem inD_ok {d e : D} {l : List D} (hl : e = .lst l ∨ e = .tup l) (h1 : okD 64 d = true) (h2 : okD 64 e = true) : inD d e = some (.bl (l.any fun z => eqB z d)) := by
  unfold inD; rw [hasD_ok hl h1 h2]; rfl
theorem notInD_ok {d e : D} {l : List D} (hl : e = .lst l ∨ e = .tup l) (h1 : okD 64 d = true) (h2 : okD 64 e = true) : notInD d e = some (.bl (!l.any fun z => eqB z d)) := by
  unfold notInD; rw [hasD_ok hl h1 h2]; rfl
end VL
namespace VL
open PySem PySem.Spec PyProof.Rows L2
noncomputable def LB_l_take (c1 : Int) (c2 : Int) (c3 : Int) : Rho → M Fl := (seqS (ifS (tst (bin gtD (potGet (slot 0) (fun _ => pure (.int 0))) (fun _ => pure (.int 0)))) (seqS (setS 2 (bin modD (callF intD (consA (potGet (slot 0) (fun _ => pure (.int 0))) nilA)) (slot 1))) (seqS (potSet (slot 0) (fun _ => pure (.int 0)) (bin fdivD (potGet (slot 0) (fun _ => pure (.int 0))) (slot 1))) (retS (slot 2)))) skip) (seqS (potSet (slot 0) (fun _ => pure (.int 2)) (bin addD (potGet (slot 0) (fun _ => pure (.int 2))) (fun _ => pure (.int 1)))) (seqS (setS 3 (bin idxD (lstF (consA (fun _ => pure (.int 2147483647)) (consA (fun _ => pure (.int 2147483629)) (consA (fun _ => pure (.int 2147483587)) (consA (fun _ => pure (.int 2147483579)) (consA (fun _ => pure (.int 2147483563)) nilA)))))) (bin modD (callF intD (consA (potGet (slot 0) (fun _ => pure (.int 2))) nilA)) (fun _ => pure (.int 5))))) (seqS (setS 4 (bin modD (callF intD (consA (bin powD (callF intD (consA (bin addD (bin addD (potGet (slot 0) (fun _ => pure (.int 1))) (bin mulD (bin mulD (fun _ => pure (.int c1)) (potGet (slot 0) (fun _ => pure (.int 2)))) (potGet (slot 0) (fun _ => pure (.int 2))))) (fun _ => pure (.int c2))) nilA)) (fun _ => pure (.int 3))) nilA)) (slot 3))) (seqS (setS 4 (bin modD (callF intD (consA (bin mulD (slot 4) (bin addD (bin modD (callF intD (consA (slot 4) nilA)) (fun _ => pure (.int 10427))) (bin mulD (fun _ => pure (.int c3)) (potGet (slot 0) (fun _ => pure (.int 2)))))) nilA)) (fun _ => pure (.int 2305843009213693907)))) (retS (bin modD (callF intD (consA (bin fdivD (slot 4) (fun _ => pure (.int 137))) nilA)) (slot 1))))))))
noncomputable def LB_l_some (t_l_take : List D → M D) : Rho → M Fl := (seqS (parS 3 4 (callF listD (consA (slot 1) nilA)) (lstF nilA)) (seqS (forS (rngF range1D (consA (slot 2) nilA)) (tgN 5) (popD 3 4 (fnF 2 t_l_take [] (consA (slot 0) (consA (callF lenD (consA (slot 3) nilA)) nilA))))) (retS (slot 4))))
noncomputable def LB_l_names (t_l_some : List D → M D) : Rho → M Fl := (seqS (setS 2 (lstF (consA (fun _ => pure (.str "a")) (consA (fun _ => pure (.str "b")) (consA (fun _ => pure (.str "c")) (consA (fun _ => pure (.str "d")) (consA (fun _ => pure (.str "e")) (consA (fun _ => pure (.str "gate")) (consA (fun _ => pure (.str "house")) (consA (fun _ => pure (.str "lane")) (consA (fun _ => pure (.str "zzzzzzzz")) (consA (fun _ => pure (.str "fall")) nilA)))))))))))) (retS (fnF 3 t_l_some [] (consA (slot 0) (consA (bin catD (slot 2) (lstF (consA (fun _ => pure (.str "open")) (consA (fun _ => pure (.str "none")) (consA (fun _ => pure (.str "books")) (consA (fun _ => pure (.str "x")) (consA (fun _ => pure (.str "y")) (consA (fun _ => pure (.str "ab")) nilA)))))))) (consA (slot 1) nilA))))))
noncomputable def LB_l_of (t_l_take : List D → M D) : Rho → M Fl := (retS (bin idxD (slot 1) (fnF 2 t_l_take [] (consA (slot 0) (consA (callF lenD (consA (slot 1) nilA)) nilA)))))
noncomputable def LB_l_drawn (t_l_names : List D → M D) (t_l_of : List D → M D) (t_l_some : List D → M D) (t_l_take : List D → M D) : Rho → M Fl := (seqS (setS 2 (fnF 2 t_l_names [] (consA (slot 0) (consA (bin addD (slot 1) (fun _ => pure (.int 1))) nilA)))) (seqS (parS 3 4 (bin idxD (slot 2) (fun _ => pure (.int 0))) (slcF slcL (slot 2) (partI (fun _ => pure (.int 1))) (fun _ => pure none))) (seqS (setS 5 (dispF (consP (fun _ => pure (.str "gate")) (slot 3) (consP (fun _ => pure (.str "houses")) (fnF 3 t_l_some [] (consA (slot 0) (consA (slot 4) (consA (slot 1) nilA)))) (consP (fun _ => pure (.str "lanes")) (lstF nilA) nilP))))) (seqS (parS 6 7 (lstF nilA) (lstF nilA)) (seqS (forS (seqF (slot 4)) (tgN 8) (extS 7 (lcF [12] (seqF (bin catD (lstF (consA (slot 3) nilA)) (slot 4))) (tgN 12) (tst (bin neD (slot 8) (slot 12))) (tupF (consA (slot 8) (consA (slot 12) nilA)))))) (seqS (forS (rngF enumD1 (consA (slot 4) nilA)) (tgT 2 (tgCons (tgN 9) (tgCons (tgN 10) tgNil))) (ifS (tst (bin gtD (fnF 2 t_l_take [] (consA (slot 0) (consA (fun _ => pure (.int 9)) nilA))) (fun _ => pure (.int 0)))) (appS 6 (tupF (consA (slot 10) (consA (fnF 2 t_l_of [] (consA (slot 0) (consA (bin catD (lstF (consA (slot 3) nilA)) (slcF slcL (slot 4) (fun _ => pure none) (partI (slot 9)))) nilA))) nilA)))) skip)) (seqS (setS 7 (lcF [13] (seqF (slot 7)) (tgN 13) (tst (bin notInD (slot 13) (slot 6))) (slot 13))) (seqS (setS 11 (callF minLD (consA (lstF (consA (callF intD (consA (callF lenD (consA (slot 7) nilA)) nilA)) (consA (callF intD (consA (fnF 2 t_l_take [] (consA (slot 0) (consA (bin addD (bin mulD (fun _ => pure (.int 2)) (slot 1)) (fun _ => pure (.int 1))) nilA))) nilA)) (consA (callF intD (consA (bin subD (fun _ => pure (.int 40)) (callF lenD (consA (slot 6) nilA))) nilA)) nilA)))) nilA))) (seqS (setS 6 (bin catD (slot 6) (fnF 3 t_l_some [] (consA (slot 0) (consA (slot 7) (consA (slot 11) nilA)))))) (seqS (dputS 5 (fun _ => pure (.str "lanes")) (fnF 3 t_l_some [] (consA (slot 0) (consA (slot 6) (consA (callF lenD (consA (slot 6) nilA)) nilA))))) (retS (slot 5))))))))))))
noncomputable def LB_l_lore (t_l_drawn : List D → M D) (t_l_take : List D → M D) : Rho → M Fl := (retS (fnF 2 t_l_drawn [] (consA (slot 0) (consA (bin addD (slot 1) (fnF 2 t_l_take [] (consA (slot 0) (consA (bin addD (bin subD (slot 2) (slot 1)) (fun _ => pure (.int 1))) nilA)))) nilA))))
noncomputable def LB_is_name : Rho → M Fl := (seqS (ifS (orB (notB (tst (isiF (isTy [] "str") (slot 0)))) (notB (tst (chainF leD leD (fun _ => pure (.int 1)) (callF lenD (consA (slot 0) nilA)) (fun _ => pure (.int 8)))))) (retS (fun _ => pure (.bl false))) skip) (retS (callF allD (consA (lcF [1] (strF (slot 0)) (tgN 1) (fun _ => pure true) (bin inD (slot 1) (fun _ => pure (.str "abcdefghijklmnopqrstuvwxyz")))) nilA))))
noncomputable def LB_name_in (t_is_name : List D → M D) : Rho → M Fl := (seqS (setS 2 (binS splitD (slot 0) (fun _ => pure (.str " ")))) (retS (ifV (andB (tst (bin eqD (callF lenD (consA (slot 2) nilA)) (fun _ => pure (.int 2)))) (andB (tst (bin eqD (bin idxD (slot 2) (fun _ => pure (.int 0))) (slot 1))) (tst (fnF 1 t_is_name [] (consA (bin idxD (slot 2) (fun _ => pure (.int 1))) nilA))))) (bin idxD (slot 2) (fun _ => pure (.int 1))) (fun _ => pure .non))))
noncomputable def LB_lane_in : Rho → M Fl := (seqS (setS 3 (binS splitD (slot 0) (fun _ => pure (.str " ")))) (seqS (ifS (orB (tst (bin neD (callF lenD (consA (slot 3) nilA)) (fun _ => pure (.int 3)))) (tst (bin neD (bin idxD (slot 3) (fun _ => pure (.int 0))) (fun _ => pure (.str "lane"))))) (retS (fun _ => pure .non)) skip) (seqS (tgtS (tgL 2 (tgCons (tgN 4) (tgCons (tgN 5) tgNil))) (slcF slcL (slot 3) (partI (fun _ => pure (.int 1))) (fun _ => pure none))) (retS (ifV (andB (tst (bin inD (slot 4) (slot 2))) (andB (tst (bin inD (slot 5) (lstF (consA (slot 1) (starA (slot 2) nilA))))) (tst (bin neD (slot 4) (slot 5))))) (tupF (consA (slot 4) (consA (slot 5) nilA))) (fun _ => pure .non))))))
noncomputable def LB_taken (t_lane_in : List D → M D) (t_name_in : List D → M D) : Rho → M Fl := (seqS (ifS (notB (tst (isiF (isTy [] "str") (slot 0)))) (fun _ => nope) skip) (seqS (setS 1 (binS splitD (slot 0) (fun _ => pure (.str "\n")))) (seqS (parS3 2 3 4 (fnF 2 t_name_in [] (consA (bin idxD (slot 1) (fun _ => pure (.int 0))) (consA (fun _ => pure (.str "gate")) nilA))) (tupF nilA) (tupF nilA)) (seqS (ifS (tst (bin isNoneD (slot 2) (fun _ => pure .non))) (fun _ => nope) skip) (seqS (forS (rngF enumD2 (consA (slcF slcL (slot 1) (partI (fun _ => pure (.int 1))) (fun _ => pure none)) (consA (fun _ => pure (.int 2)) nilA))) (tgT 2 (tgCons (tgN 5) (tgCons (tgN 6) tgNil))) (seqS (parS 7 8 (fnF 2 t_name_in [] (consA (slot 6) (consA (fun _ => pure (.str "house")) nilA))) (fnF 3 t_lane_in [] (consA (slot 6) (consA (slot 2) (consA (slot 3) nilA))))) (ifS (andB (tst (bin notNoneD (slot 7) (fun _ => pure .non))) (andB (tst (bin eqD (slot 4) (tupF nilA))) (andB (tst (bin ltD (callF lenD (consA (slot 3) nilA)) (fun _ => pure (.int 10)))) (tst (bin notInD (slot 7) (lstF (consA (slot 2) (starA (slot 3) nilA)))))))) (setS 3 (tupF (starA (slot 3) (consA (slot 7) nilA)))) (ifS (andB (tst (bin notNoneD (slot 8) (fun _ => pure .non))) (andB (tst (bin ltD (callF lenD (consA (slot 4) nilA)) (fun _ => pure (.int 40)))) (tst (bin notInD (slot 8) (slot 4))))) (setS 4 (tupF (starA (slot 4) (consA (slot 8) nilA)))) (fun _ => nope))))) (retS (tupF (consA (slot 2) (consA (slot 3) (consA (slot 4) nilA))))))))))
noncomputable def LB_comers : Rho → M Fl := (seqS (parS 3 4 (lstF nilA) (lstF (consA (slot 1) nilA))) (seqS (whileS (tst (bin neD (slot 4) (lstF nilA))) (seqS (setS 3 (lstF (starA (slot 3) (starA (slot 4) nilA)))) (setS 4 (callF keysD (consA (dcF [5, 6] (seqF (slot 0)) (tgT 2 (tgCons (tgN 5) (tgCons (tgN 6) tgNil))) (andB (tst (bin inD (slot 6) (slot 4))) (tst (bin notInD (slot 5) (lstF (starA (slot 3) (starA (slot 2) nilA)))))) (slot 5) (fun _ => pure (.bl true))) nilA))))) (retS (slcF slcL (slot 3) (partI (fun _ => pure (.int 1))) (fun _ => pure none)))))
noncomputable def LB_Web_init (t_comers : List D → M D) (t_taken : List D → M D) : Rho → List (Option D) → M (Rho × List (Option D)) := (seqI (plainI (tgtS (tgT 3 (tgCons (tgN 2) (tgCons (tgN 3) (tgCons (tgN 4) tgNil)))) (fnF 1 t_taken [] (consA (slot 1) nilA)))) (seqI (setI 4 (slot 1)) (seqI (setI 0 (slot 2)) (seqI (setI 2 (slot 3)) (seqI (setI 3 (slot 4)) (seqI (plainI (setS 5 (fnF 3 t_comers [.tup []] (consA (slot 4) (consA (slot 2) nilA))))) (seqI (setI 1 (callF tupleD (consA (lcF [6] (seqF (slot 3)) (tgN 6) (tst (bin inD (slot 6) (slot 5))) (slot 6)) nilA))) (fun ρ fs => pure (ρ, fs)))))))))
noncomputable def LB_l_lines : Rho → M Fl := (seqS (setS 1 (bin catD (lstF (consA (bin addD (fun _ => pure (.str "gate ")) (bin getD' (slot 0) (fun _ => pure (.str "gate")))) nilA)) (lcF [2] (seqF (bin getD' (slot 0) (fun _ => pure (.str "houses")))) (tgN 2) (fun _ => pure true) (bin addD (fun _ => pure (.str "house ")) (slot 2))))) (retS (bin catD (slot 1) (lcF [3, 4] (seqF (bin getD' (slot 0) (fun _ => pure (.str "lanes")))) (tgT 2 (tgCons (tgN 3) (tgCons (tgN 4) tgNil))) (fun _ => pure true) (binS joinD (fun _ => pure (.str " ")) (lstF (consA (fun _ => pure (.str "lane")) (consA (slot 3) (consA (slot 4) nilA)))))))))
noncomputable def LB_l_text (t_l_lines : List D → M D) : Rho → M Fl := (retS (binS joinD (fun _ => pure (.str "\n")) (fnF 1 t_l_lines [] (consA (slot 0) nilA))))
noncomputable def LB_Web_houses : Rho → M Fl := (retS (fldF 0 2 (slot 0)))
noncomputable def LB_Web_gate : Rho → M Fl := (retS (fldF 0 0 (slot 0)))
noncomputable def LB_Web_lanes : Rho → M Fl := (retS (fldF 0 3 (slot 0)))
noncomputable def LB_l_comers : Rho → M Fl := (seqS (parS 2 3 (lstF (consA (bin getD' (slot 0) (fun _ => pure (.str "gate"))) nilA)) (fun _ => pure (.bl true))) (seqS (whileS (tst (slot 3)) (seqS (setS 4 (lcF [5, 6] (seqF (bin getD' (slot 0) (fun _ => pure (.str "lanes")))) (tgT 2 (tgCons (tgN 5) (tgCons (tgN 6) tgNil))) (andB (tst (bin inD (slot 6) (slot 2))) (andB (tst (bin notInD (slot 5) (slot 2))) (tst (bin notInD (slot 5) (slot 1))))) (slot 5))) (seqS (setS 2 (bin catD (slot 2) (slcF slcL (slot 4) (fun _ => pure none) (partI (fun _ => pure (.int 1)))))) (setS 3 (bin neD (slot 4) (lstF nilA)))))) (retS (lcF [7] (seqF (bin getD' (slot 0) (fun _ => pure (.str "houses")))) (tgN 7) (tst (bin inD (slot 7) (slot 2))) (slot 7)))))
noncomputable def LB_is_tuple : Rho → M Fl := (seqS (ifS (orB (notB (tst (isiF (isTy [] "tuple") (slot 0)))) (tst (bin ltD (callF lenD (consA (slot 0) nilA)) (slot 1)))) (retS (fun _ => pure (.bl false))) skip) (retS (orV (bin isNoneD (slot 2) (fun _ => pure .non)) (bin leD (callF lenD (consA (slot 0) nilA)) (slot 2)))))
noncomputable def LB_is_word : Rho → M Fl := (retS (andV (isiF (isTy [] "str") (slot 0)) (bin eqD (slot 0) (slot 1))))
noncomputable def LB_are_strings : Rho → M Fl := (retS (andV (isiF (isTy [] "tuple") (slot 0)) (callF allD (consA (lcF [1] (seqF (slot 0)) (tgN 1) (fun _ => pure true) (isiF (isTy [] "str") (slot 1))) nilA))))
noncomputable def LB_is_one_of : Rho → M Fl := (retS (andV (isiF (isTy [] "str") (slot 0)) (bin inD (slot 0) (slot 1))))
end VL
namespace VL
open PySem PySem.Spec PyProof.Rows L2
@[simp] theorem potGet_k (k : Int) (ρ : Rho) : potGet (slot 0) (fun _ => pure (.int k)) (some .pot :: ρ) = potR k := by
  unfold potGet; simp
@[simp] theorem potR0 (s : Pot) : potR 0 s = .ok (.int s.1) s := rfl
@[simp] theorem potR1 (s : Pot) : potR 1 s = .ok (.int s.2.1) s := rfl
@[simp] theorem potR2 (s : Pot) : potR 2 s = .ok (.int s.2.2) s := rfl
theorem sz_of {n : Nat} (h : n ≤ 16000000) : n ≤ sizeLine := by rw [sizeLine_eq]; omega
theorem sz5 : 5 ≤ sizeLine := sz_of (by decide)
theorem seqS_run {f g : Rho → M Fl} {ρ ρ' : Rho} {s s' : Pot} (h : f ρ s = .ok (.nx ρ') s') : seqS f g ρ s = g ρ' s' := by unfold seqS; rw [bind_run, h]
theorem runD_rt {n : Nat} {body : Rho → M Fl} {ds : List D} {s s' : Pot} {d : D} (h : body (rho0 n ds) s = .ok (.rt d) s') : runD n body ds s = .ok d s' := by unfold runD; rw [bind_run, h]; rfl
theorem tk_y0 (s : Pot) (ρ : Rho) : potSet (slot 0) (fun _ => pure (.int 2)) (bin addD (potGet (slot 0) (fun _ => pure (.int 2))) (fun _ => pure (.int 1))) (some .pot :: ρ) s = .ok (.nx (some .pot :: ρ)) (s.1, s.2.1, s.2.2 + 1) := by
  simp [potSet, bin, addD, potW, potPut, opt]
theorem tk_y1 (s : Pot) (p : Int) (ρ : Rho) (hp : idxD (.lst [.int 2147483647, .int 2147483629, .int 2147483587, .int 2147483579, .int 2147483563]) (.int (s.2.2 % 5)) = some (.int p)) (sz5 : 5 ≤ sizeLine) :
    setS 3 (bin idxD (lstF (consA (fun _ => pure (.int 2147483647)) (consA (fun _ => pure (.int 2147483629)) (consA (fun _ => pure (.int 2147483587)) (consA (fun _ => pure (.int 2147483579)) (consA (fun _ => pure (.int 2147483563)) nilA)))))) (bin modD (callF intD (consA (potGet (slot 0) (fun _ => pure (.int 2))) nilA)) (fun _ => pure (.int 5)))) (some .pot :: ρ) s = .ok (.nx ((some .pot :: ρ).set 3 (some (.int p)))) s := by
  simp [setS, bin, lstF, consA, nilA, mkL, callF, intD, modD, intI, opt, hp, sz5]
theorem tk_y2 (s : Pot) (p c1 c2 u : Int) (hp0 : 0 < p) (k1 : mulD (.int c1) (.int s.2.2) = some (.int (c1 * s.2.2))) (k2 : mulD (.int (c1 * s.2.2)) (.int s.2.2) = some (.int (c1 * s.2.2 * s.2.2)))
    (hpw : powD (.int (s.2.1 + c1 * s.2.2 * s.2.2 + c2)) (.int 3) = some (.int ((s.2.1 + c1 * s.2.2 * s.2.2 + c2) ^ 3))) :
    setS 4 (bin modD (callF intD (consA (bin powD (callF intD (consA (bin addD (bin addD (potGet (slot 0) (fun _ => pure (.int 1))) (bin mulD (bin mulD (fun _ => pure (.int c1)) (potGet (slot 0) (fun _ => pure (.int 2)))) (potGet (slot 0) (fun _ => pure (.int 2))))) (fun _ => pure (.int c2))) nilA)) (fun _ => pure (.int 3))) nilA)) (slot 3)) [some .pot, some (.int u), none, some (.int p), none] s = .ok (.nx [some .pot, some (.int u), none, some (.int p), some (.int ((s.2.1 + c1 * s.2.2 * s.2.2 + c2) ^ 3 % p))]) s := by
  simp [setS, bin, lstF, consA, nilA, mkL, callF, intD, modD, intI, addD, opt, hp0, k1, k2, hpw]
theorem tk_y3 (s : Pot) (p c3 u B : Int) (k1 : mulD (.int c3) (.int s.2.2) = some (.int (c3 * s.2.2))) (k2 : mulD (.int B) (.int (B % 10427 + c3 * s.2.2)) = some (.int (B * (B % 10427 + c3 * s.2.2)))) :
    setS 4 (bin modD (callF intD (consA (bin mulD (slot 4) (bin addD (bin modD (callF intD (consA (slot 4) nilA)) (fun _ => pure (.int 10427))) (bin mulD (fun _ => pure (.int c3)) (potGet (slot 0) (fun _ => pure (.int 2)))))) nilA)) (fun _ => pure (.int 2305843009213693907))) [some .pot, some (.int u), none, some (.int p), some (.int B)] s = .ok (.nx [some .pot, some (.int u), none, some (.int p), some (.int (B * (B % 10427 + c3 * s.2.2) % 2305843009213693907))]) s := by
  simp [setS, bin, lstF, consA, nilA, mkL, callF, intD, modD, intI, addD, opt, k1, k2]
theorem tk_y4 (s : Pot) (p u B : Int) (hu : 0 < u) :
    retS (bin modD (callF intD (consA (bin fdivD (slot 4) (fun _ => pure (.int 137))) nilA)) (slot 1)) [some .pot, some (.int u), none, some (.int p), some (.int B)] s = .ok (.rt (.int (B / 137 % u))) s := by
  simp [retS, bin, consA, nilA, callF, intD, modD, fdivD, intI, opt, hu]
theorem two64 : (2 : Int) ^ 64 = 18446744073709551616 := by decide +kernel
theorem mul_ok {i j : Int} (h : (-18446744073709551616 < i ∧ i < 18446744073709551616) ∨ (-18446744073709551616 < j ∧ j < 18446744073709551616)) : mulD (.int i) (.int j) = some (.int (i * j)) := by
  unfold mulD intI
  dsimp only
  rw [if_pos (by rw [two64]; exact h)]
def TakeOk (t : List D → M D) : Prop := ∀ u : Int, 1 ≤ u → u < 1000000 → Tk 1 (t [.pot, .int u]) (fun d => ∃ r : Nat, d = .int (r : Nat) ∧ ((r : Nat) : Int) < u)
theorem take_ok {c1 c2 c3 : Int} (h1 : 0 ≤ c1 ∧ c1 < 1000000) (h2 : 0 ≤ c2 ∧ c2 < 1000000) (h3 : 0 ≤ c3 ∧ c3 < 1000000) : TakeOk (runD 5 (LB_l_take c1 c2 c3)) := by
  intro u hu hu2 b s ⟨p1, p2, p3, p4, p5⟩ hb
  have hm : (0 : Int) < u := by omega
  have hlt : u < 1073741824 := by omega
  by_cases hpos : 0 < s.1
  · have e : runD 5 (LB_l_take c1 c2 c3) [.pot, .int u] s = .ok (.int (s.1 % u)) (s.1 / u, s.2.1, s.2.2) := by
      simp [runD, rho0, LB_l_take, seqS, ifS, tst, bin, callF, intD, consA, nilA, potSet, potW, potPut, setS, retS, endD, gtD, intI, modD, fdivD, hpos, hm, hlt, opt]
    have h0 := Int.emod_nonneg s.1 (by omega : u ≠ 0)
    have h1 := Int.emod_lt_of_pos s.1 hm
    refine ⟨_, _, e, ⟨Int.ediv_nonneg p1 (by omega), p2, p3, p4, by simpa using (by omega : s.2.2 ≤ b + 1)⟩, (s.1 % u).toNat, ?_, by omega⟩
    rw [Int.toNat_of_nonneg h0]
  · obtain ⟨p, hp, hp0, hp1⟩ : ∃ p : Int, idxD (.lst [.int 2147483647, .int 2147483629, .int 2147483587, .int 2147483579, .int 2147483563]) (.int ((s.2.2 + 1) % 5)) = some (.int p) ∧ 0 < p ∧ p < 2147483648 := by
      have g0 := Int.emod_nonneg (s.2.2 + 1) (by decide : (5 : Int) ≠ 0)
      have g1 := Int.emod_lt_of_pos (s.2.2 + 1) (by decide : (0 : Int) < 5)
      generalize (s.2.2 + 1) % 5 = z at g0 g1
      have : z = 0 ∨ z = 1 ∨ z = 2 ∨ z = 3 ∨ z = 4 := by omega
      rcases this with rfl | rfl | rfl | rfl | rfl <;> exact ⟨_, rfl, by decide, by decide⟩
    have hc : s.2.2 + 1 ≤ 100001 := by omega
    have hc0 : 0 ≤ s.2.2 + 1 := by omega
    have q1 : 0 ≤ c1 * (s.2.2 + 1) ∧ c1 * (s.2.2 + 1) ≤ 1000000 * 100001 := ⟨Int.mul_nonneg h1.1 hc0, Int.mul_le_mul (by omega) hc hc0 (by decide)⟩
    have q2 : 0 ≤ c1 * (s.2.2 + 1) * (s.2.2 + 1) ∧ c1 * (s.2.2 + 1) * (s.2.2 + 1) ≤ 1000000 * 100001 * 100001 := ⟨Int.mul_nonneg q1.1 hc0, Int.mul_le_mul q1.2 hc hc0 (by decide)⟩
    have q3 : (s.2.1 + c1 * (s.2.2 + 1) * (s.2.2 + 1) + c2).natAbs < 2 ^ 64 := by omega
    have q4 : 0 ≤ c3 * (s.2.2 + 1) ∧ c3 * (s.2.2 + 1) ≤ 1000000 * 100001 := ⟨Int.mul_nonneg h3.1 hc0, Int.mul_le_mul (by omega) hc hc0 (by decide)⟩
    have hb1 : ∀ x : Int, 0 ≤ x % p ∧ x % p < 2147483648 := fun x => ⟨Int.emod_nonneg _ (by omega), by have := Int.emod_lt_of_pos x hp0; omega⟩
    have hb2 := hb1 ((s.2.1 + c1 * (s.2.2 + 1) * (s.2.2 + 1) + c2) ^ 3)
    obtain ⟨r, e, h0, h1'⟩ : ∃ r : Int, runD 5 (LB_l_take c1 c2 c3) [.pot, .int u] s = .ok (.int r) (s.1, s.2.1, s.2.2 + 1) ∧ 0 ≤ r ∧ r < u := by
      generalize hB : (s.2.1 + c1 * (s.2.2 + 1) * (s.2.2 + 1) + c2) ^ 3 % p = B at hb2
      refine ⟨(B * (B % 10427 + c3 * (s.2.2 + 1))) % 2305843009213693907 / 137 % u, ?_, Int.emod_nonneg _ (by omega), Int.emod_lt_of_pos _ hm⟩
      have m1 : (-18446744073709551616 < c1 ∧ c1 < 18446744073709551616) ∨ (-18446744073709551616 < s.2.2 + 1 ∧ s.2.2 + 1 < 18446744073709551616) := .inl (by omega)
      have m2 : (-18446744073709551616 < c1 * (s.2.2 + 1) ∧ c1 * (s.2.2 + 1) < 18446744073709551616) ∨ (-18446744073709551616 < s.2.2 + 1 ∧ s.2.2 + 1 < 18446744073709551616) := .inl (by omega)
      have m3 : (-18446744073709551616 < c3 ∧ c3 < 18446744073709551616) ∨ (-18446744073709551616 < s.2.2 + 1 ∧ s.2.2 + 1 < 18446744073709551616) := .inl (by omega)
      have m4 : (-18446744073709551616 < B ∧ B < 18446744073709551616) ∨ (-18446744073709551616 < B % 10427 + c3 * (s.2.2 + 1) ∧ B % 10427 + c3 * (s.2.2 + 1) < 18446744073709551616) := .inl (by omega)
      have hpw : powD (.int (s.2.1 + c1 * (s.2.2 + 1) * (s.2.2 + 1) + c2)) (.int 3) = some (.int ((s.2.1 + c1 * (s.2.2 + 1) * (s.2.2 + 1) + c2) ^ 3)) := by
        unfold powD intI
        show (if (0 : Int) ≤ 3 ∧ (3 : Int) ≤ 1000000 ∧ _ then _ else _) = _
        rw [if_pos ⟨by decide, by decide, q3⟩]
        rfl
      have hpw : powD (.int (s.2.1 + c1 * (s.2.2 + 1) * (s.2.2 + 1) + c2)) (.int 3) = some (.int ((s.2.1 + c1 * (s.2.2 + 1) * (s.2.2 + 1) + c2) ^ 3)) := by
        unfold powD intI
        show (if (0 : Int) ≤ 3 ∧ (3 : Int) ≤ 1000000 ∧ _ then _ else _) = _
        rw [if_pos ⟨by decide, by decide, q3⟩]
        rfl
      have z0 : ifS (tst (bin gtD (potGet (slot 0) (fun _ => pure (.int 0))) (fun _ => pure (.int 0)))) (seqS (setS 2 (bin modD (callF intD (consA (potGet (slot 0) (fun _ => pure (.int 0))) nilA)) (slot 1))) (seqS (potSet (slot 0) (fun _ => pure (.int 0)) (bin fdivD (potGet (slot 0) (fun _ => pure (.int 0))) (slot 1))) (retS (slot 2)))) skip [some .pot, some (.int u), none, none, none] s = .ok (.nx [some .pot, some (.int u), none, none, none]) s := by
        simp [ifS, tst, bin, gtD, intI, opt, hpos, skip]
      have z1 := tk_y0 s [some (.int u), none, none, none]
      have z2 := tk_y1 (s.1, s.2.1, s.2.2 + 1) p [some (.int u), none, none, none] hp sz5
      have z3 := tk_y2 (s.1, s.2.1, s.2.2 + 1) p c1 c2 u hp0 (mul_ok m1) (mul_ok m2) hpw
      rw [show (s.1, s.2.1, s.2.2 + 1).2.1 + c1 * (s.1, s.2.1, s.2.2 + 1).2.2 * (s.1, s.2.1, s.2.2 + 1).2.2 + c2 = s.2.1 + c1 * (s.2.2 + 1) * (s.2.2 + 1) + c2 from rfl, hB] at z3
      have z4 := tk_y3 (s.1, s.2.1, s.2.2 + 1) p c3 u B (mul_ok m3) (mul_ok m4)
      have z5 := tk_y4 (s.1, s.2.1, s.2.2 + 1) p u (B * (B % 10427 + c3 * (s.2.2 + 1)) % 2305843009213693907) hm
      refine runD_rt ?_
      unfold LB_l_take
      show seqS _ _ [some .pot, some (.int u), none, none, none] s = _
      rw [seqS_run z0, seqS_run z1, seqS_run z2]
      show seqS _ _ [some .pot, some (.int u), none, some (.int p), none] (s.1, s.2.1, s.2.2 + 1) = _
      rw [seqS_run z3, seqS_run z4]
      exact z5
    refine ⟨_, _, e, ⟨p1, p2, p3, by simpa using hc0, by simpa using (by omega : s.2.2 + 1 ≤ b + 1)⟩, r.toNat, ?_, by omega⟩
    rw [Int.toNat_of_nonneg h0]
end VL
namespace VL
open PySem PySem.Spec PyProof.Rows L2
def SomeOk (t : List D → M D) : Prop := ∀ (l : List D) (k : Nat), k ≤ l.length → l.length ≤ 1000 → Tk k (t [.pot, .lst l, .int (k : Nat)]) (fun d => ∃ l' r, d = .lst l' ∧ l'.length = k ∧ (l' ++ r).Perm l)
theorem erase_perm {α : Type} : ∀ (l : List α) (n : Nat) (d : α), l[n]? = some d → (d :: l.eraseIdx n).Perm l
  | [], n, d, h => by simp at h
  | x :: l, 0, d, h => by simp at h; subst h; simp
  | x :: l, n + 1, d, h => by
    simp at h
    simp only [List.eraseIdx_cons_succ]
    exact (List.Perm.swap x d _).trans ((erase_perm l n d h).cons x)
theorem popIx_nat {r n : Nat} (h : r < n) (h2 : n ≤ 1000000) : popIx ((r : Nat) : Int) n = some r := by
  unfold popIx
  rw [if_pos ⟨by omega, by omega⟩]
  unfold seqIndex?
  have h0 : ¬ ((r : Nat) : Int) < 0 := by omega
  simp only [if_neg h0]
  have h1 : (0 : Int) ≤ (r : Nat) := by omega
  have h3 : ((r : Nat) : Int) < (n : Nat) := by omega
  simp [h1, h3]
theorem range1_nat {k : Nat} (h : k ≤ 1000000) : range1D [.int (k : Nat)] = some ((List.range k).map fun i => .int ((0 : Int) + (i : Nat))) := by
  unfold range1D
  split
  · rename_i j e
    cases e
    rw [if_pos ⟨by omega, by omega, by rw [sizeLine_eq]; omega⟩, Int.toNat_natCast]
  · rename_i h1
    exact absurd rfl (h1 _)
theorem some_loop {t : List D → M D} (ht : TakeOk t) (a b : Option D) : ∀ (ds : List D) (rest found : List D) (x : Option D), ds.length ≤ rest.length → found.length + rest.length ≤ 1000 →
    Tk ds.length (forL (tgN 5) (popD 3 4 (fnF 2 t [] (consA (slot 0) (consA (callF lenD (consA (slot 3) nilA)) nilA)))) ds [some .pot, a, b, some (.lst rest), some (.lst found), x])
      (fun z => ∃ rest' found' x', z = .nx [some .pot, a, b, some (.lst rest'), some (.lst found'), x'] ∧ found'.length = found.length + ds.length ∧ (found' ++ rest').Perm (found ++ rest)) := by
  intro ds
  induction ds with
  | nil => intro rest found x _ _; exact Tk.ret ⟨rest, found, x, rfl, rfl, List.Perm.refl _⟩
  | cons d ds ih =>
    intro rest found x h1 h2
    have hlen : 1 ≤ rest.length := by simp at h1; omega
    have e : forL (tgN 5) (popD 3 4 (fnF 2 t [] (consA (slot 0) (consA (callF lenD (consA (slot 3) nilA)) nilA)))) (d :: ds) [some .pot, a, b, some (.lst rest), some (.lst found), x] =
        (t [.pot, .int (rest.length : Nat)] >>= fun kd => (asInt kd >>= fun k => opt (popIx k rest.length) >>= fun n => opt rest[n]? >>= fun w => if found.length < sizeLine then
          forL (tgN 5) (popD 3 4 (fnF 2 t [] (consA (slot 0) (consA (callF lenD (consA (slot 3) nilA)) nilA)))) ds [some .pot, a, b, some (.lst (rest.eraseIdx n)), some (.lst (found ++ [w])), some d] else nope)) := by
      conv => lhs; unfold forL
      simp [popD, fnF, callN, callF, lenD, consA, nilA, tgN, m_ite_bind]
    rw [e]
    have hk : (d :: ds).length = 1 + ds.length := by simp; omega
    rw [hk]
    refine Tk.bind (ht _ (by omega) (by omega)) ?_
    rintro kd ⟨r, rfl, hr⟩
    have hr' : r < rest.length := by omega
    have hi : popIx ((r : Nat) : Int) rest.length = some r := popIx_nat hr' (by omega)
    have hg : rest[r]? = some rest[r] := List.getElem?_eq_getElem hr'
    have hz : found.length < sizeLine := by rw [sizeLine_eq]; omega
    simp only [asInt_int, m_pure_bind, hi, opt_some, hg, if_pos hz]
    have hel : (rest.eraseIdx r).length = rest.length - 1 := List.length_eraseIdx_of_lt hr'
    refine (ih (rest.eraseIdx r) (found ++ [rest[r]]) (some d) (by simp at h1; omega) (by simp; omega)).imp ?_
    rintro z ⟨rest', found', x', rfl, q1, q2⟩
    refine ⟨rest', found', x', rfl, by simp at q1 ⊢; omega, q2.trans ?_⟩
    have := erase_perm rest r _ hg
    rw [List.append_assoc]
    exact List.Perm.append_left found (by simpa using this)
theorem some_ok {t : List D → M D} (ht : TakeOk t) : SomeOk (runD 6 (LB_l_some t)) := by
  intro l k hk hl
  have e : runD 6 (LB_l_some t) [.pot, .lst l, .int (k : Nat)] = (forL (tgN 5) (popD 3 4 (fnF 2 t [] (consA (slot 0) (consA (callF lenD (consA (slot 3) nilA)) nilA)))) ((List.range k).map fun i => .int ((0 : Int) + (i : Nat))) [some .pot, some (.lst l), some (.int (k : Nat)), some (.lst l), some (.lst []), none] >>= fun z => match z with
      | .nx ρ => slot 4 ρ
      | .rt d => pure d
      | _ => nope) := by
    have hc : callF listD (consA (slot 1) nilA) (rho0 6 [.pot, .lst l, .int (k : Nat)]) = pure (.lst l) := by simp [callF, consA, nilA, listD, rho0]
    have hl0 : lstF nilA (rho0 6 [.pot, .lst l, .int (k : Nat)]) = pure (.lst []) := by simp [lstF, nilA, mkL]
    unfold runD LB_l_some
    simp only [seqS, parS, hc, hl0, m_pure_bind, m_bind_assoc]
    have hf : forS (rngF range1D (consA (slot 2) nilA)) (tgN 5) (popD 3 4 (fnF 2 t [] (consA (slot 0) (consA (callF lenD (consA (slot 3) nilA)) nilA)))) (((rho0 6 [.pot, .lst l, .int (k : Nat)]).set 3 (some (.lst l))).set 4 (some (.lst []))) =
        forL (tgN 5) (popD 3 4 (fnF 2 t [] (consA (slot 0) (consA (callF lenD (consA (slot 3) nilA)) nilA)))) ((List.range k).map fun i => .int ((0 : Int) + (i : Nat))) [some .pot, some (.lst l), some (.int (k : Nat)), some (.lst l), some (.lst []), none] := by
      unfold forS
      have : rngF range1D (consA (slot 2) nilA) (((rho0 6 [.pot, .lst l, .int (k : Nat)]).set 3 (some (.lst l))).set 4 (some (.lst []))) = pure ((List.range k).map fun i => .int ((0 : Int) + (i : Nat))) := by
        have hr' := range1_nat (k := k) (by omega)
        unfold rngF
        simp [consA, nilA, rho0, hr']
      rw [this]
      rfl
    rw [hf]
    congr 1
    funext z
    cases z with
    | nx ρ => simp [retS, endD]
    | rt d => simp [endD]
    | bk ρ => rfl
    | ct ρ => rfl
  rw [e]
  have h0 := some_loop ht (some (.lst l)) (some (.int (k : Nat))) ((List.range k).map fun i => .int ((0 : Int) + (i : Nat))) l [] none (by simpa using hk) (by simpa using hl)
  have h1 := Tk.bind (k2 := 0) h0 (f := fun z => match z with
      | .nx ρ => slot 4 ρ
      | .rt d => pure d
      | _ => nope) (Q := fun d => ∃ l' r, d = .lst l' ∧ l'.length = k ∧ (l' ++ r).Perm l) ?_
  · simpa using h1
  · rintro z ⟨rest', found', x', rfl, q1, q2⟩
    exact Tk.ret ⟨found', rest', rfl, by simpa using q1, by simpa using q2⟩
end VL
namespace VL
open PySem PySem.Spec PyProof.Rows L2
theorem perm_map_inv {α : Type} {enc : α → D} (dec : D → α) (h : ∀ a, dec (enc a) = a) {l' r : List D} {m : List α} (p : (l' ++ r).Perm (m.map enc)) : ∃ (a b : List α), l' = a.map enc ∧ r = b.map enc ∧ (a ++ b).Perm m := by
  have hall : ∀ d ∈ l' ++ r, enc (dec d) = d := fun d hd => by
    have := p.mem_iff.mp hd
    obtain ⟨x, _, rfl⟩ := List.mem_map.mp this
    rw [h]
  have hid : ∀ l : List D, (∀ d ∈ l, enc (dec d) = d) → (l.map dec).map enc = l := fun l hl => by
    rw [List.map_map]
    conv => rhs; rw [← List.map_id l]
    exact List.map_congr_left fun d hd => hl d hd
  refine ⟨l'.map dec, r.map dec, (hid l' fun d hd => hall d (by simp [hd])).symm, (hid r fun d hd => hall d (by simp [hd])).symm, ?_⟩
  have := p.map dec
  rw [List.map_append, List.map_map] at this
  have e : m.map (dec ∘ enc) = m := by
    conv => rhs; rw [← List.map_id m]
    exact List.map_congr_left fun d _ => h d
  rw [e] at this
  exact this
def strOf : D → Str
  | .str x => x
  | _ => Str.ofString ""
def pool : List Str := ["a", "b", "c", "d", "e", "gate", "house", "lane", "zzzzzzzz", "fall", "open", "none", "books", "x", "y", "ab"]
def NamesOk (t : List D → M D) : Prop := ∀ k : Nat, k ≤ 16 → Tk k (t [.pot, .int (k : Nat)]) (fun d => ∃ ns : List Str, d = .lst (ns.map .str) ∧ ns.length = k ∧ ns.Nodup ∧ ∀ n ∈ ns, n ∈ pool)
theorem pool_nd : pool.Nodup := by decide +kernel
theorem names_ok {t : List D → M D} (ht : SomeOk t) : NamesOk (runD 3 (LB_l_names t)) := by
  intro k hk
  have e : runD 3 (LB_l_names t) [.pot, .int (k : Nat)] = t [.pot, .lst (pool.map .str), .int (k : Nat)] := by
    have s1 : (10 : Nat) ≤ sizeLine := sz_of (by decide)
    have s2 : (6 : Nat) ≤ sizeLine := sz_of (by decide)
    have s3 : (10 + 6 : Nat) ≤ sizeLine := sz_of (by decide)
    unfold runD LB_l_names
    simp [seqS, setS, retS, lstF, consA, nilA, mkL, rho0, fnF, callN, bin, catD, endD, pool, s1, s2, s3]
  rw [e]
  refine (ht (pool.map .str) k (by simpa [pool] using hk) (by simp [pool])).imp ?_
  rintro d ⟨l', r, rfl, hl, hp⟩
  obtain ⟨a, b, rfl, rfl, hp'⟩ := perm_map_inv strOf (fun _ => rfl) hp
  have hnd := (hp'.nodup_iff.mpr pool_nd)
  exact ⟨a, rfl, by simpa using hl, (List.nodup_append.mp hnd).1, fun n hn => hp'.mem_iff.mp (by simp [hn])⟩
def OfOk (t : List D → M D) : Prop := ∀ l : List D, 1 ≤ l.length → l.length ≤ 1000 → Tk 1 (t [.pot, .lst l]) (fun d => d ∈ l)
theorem of_ok {t : List D → M D} (ht : TakeOk t) : OfOk (runD 2 (LB_l_of t)) := by
  intro l h1 h2
  have e : runD 2 (LB_l_of t) [.pot, .lst l] = (t [.pot, .int (l.length : Nat)] >>= fun d => opt (idxD (.lst l) d)) := by
    unfold runD LB_l_of
    simp [retS, bin, fnF, callN, callF, lenD, consA, nilA, rho0, endD]
  rw [e]
  refine Tk.bind (k1 := 1) (k2 := 0) (ht _ (by omega) (by omega)) ?_
  rintro d ⟨r, rfl, hr⟩
  have hr' : r < l.length := by omega
  have : idxD (.lst l) (.int (r : Nat)) = some l[r] := by
    show L2.atI l (r : Nat) = some l[r]
    unfold L2.atI L2.ixN
    have h0 : (0 : Int) ≤ (r : Nat) := by omega
    rw [if_pos h0]
    simp [hr']
  rw [this]
  exact Tk.ret (by simp)
end VL
namespace VL
open PySem PySem.Spec PyProof.Rows L2
def OkS (x : Str) : Prop := x.cps.all (· < 0x110000) = true
abbrev Lane := Str × Str
def sts (l : List Str) : List D := l.map .str
def laneD (p : Lane) : D := .tup [.str p.1, .str p.2]
def lanes (l : List Lane) : List D := l.map laneD
def OkL (p : Lane) : Prop := OkS p.1 ∧ OkS p.2
@[simp] theorem strs_len (l : List Str) : (sts l).length = l.length := by simp [sts]
@[simp] theorem lanes_len (l : List Lane) : (lanes l).length = l.length := by simp [lanes]
theorem okD_str {n : Nat} {x : Str} (h : OkS x) : okD n (.str x) = true := by cases n <;> exact h
theorem okD_strs {n : Nat} {l : List Str} (h : ∀ x ∈ l, OkS x) : (sts l).all (okD n) = true := by
  simp only [sts, List.all_map, List.all_eq_true, Function.comp]
  exact fun x hx => okD_str (h x hx)
theorem okD_lstS {n : Nat} {l : List Str} (h : ∀ x ∈ l, OkS x) : okD (n + 1) (.lst (sts l)) = true := okD_strs h
theorem okD_tupS {n : Nat} {l : List Str} (h : ∀ x ∈ l, OkS x) : okD (n + 1) (.tup (sts l)) = true := okD_strs h
theorem okD_lane {n : Nat} {p : Lane} (h : OkL p) : okD (n + 1) (laneD p) = true := by
  simp [laneD, okD, okD_str h.1, okD_str h.2]
theorem okD_lanes {n : Nat} {l : List Lane} (h : ∀ x ∈ l, OkL x) : (lanes l).all (okD (n + 1)) = true := by
  simp only [lanes, List.all_map, List.all_eq_true, Function.comp]
  exact fun x hx => okD_lane (h x hx)
theorem okD_lstL {n : Nat} {l : List Lane} (h : ∀ x ∈ l, OkL x) : okD (n + 2) (.lst (lanes l)) = true := okD_lanes h
theorem okD_tupL {n : Nat} {l : List Lane} (h : ∀ x ∈ l, OkL x) : okD (n + 2) (.tup (lanes l)) = true := okD_lanes h
@[simp] theorem eqB_str (a b : Str) : eqB (.str a) (.str b) = decide (a = b) := by
  by_cases h : a = b <;> simp [eqB, h]
@[simp] theorem eqB_lane (p q : Lane) : eqB (laneD p) (laneD q) = decide (p = q) := by
  obtain ⟨a, b⟩ := p
  obtain ⟨c, d⟩ := q
  by_cases h1 : a = c <;> by_cases h2 : b = d <;> simp [laneD, eqB, eqBL, h1, h2]
theorem any_sts (a : Str) (l : List Str) : ((sts l).any fun z => eqB z (.str a)) = decide (a ∈ l) := by
  induction l with
  | nil => simp [sts]
  | cons x l ih =>
    simp only [sts, List.map_cons, List.any_cons, eqB_str] at ih ⊢
    rw [ih]
    by_cases h : x = a
    · subst h; simp
    · have h' : ¬ a = x := fun e => h e.symm
      simp [h, h']
theorem any_lanes (p : Lane) (l : List Lane) : ((lanes l).any fun z => eqB z (laneD p)) = decide (p ∈ l) := by
  induction l with
  | nil => simp [lanes]
  | cons x l ih =>
    simp only [lanes, List.map_cons, List.any_cons, eqB_lane] at ih ⊢
    rw [ih]
    by_cases h : x = p
    · subst h; simp
    · have h' : ¬ p = x := fun e => h e.symm
      simp [h, h']
theorem in_strsL {a : Str} {l : List Str} (ha : OkS a) (hl : ∀ x ∈ l, OkS x) : inD (.str a) (.lst (sts l)) = some (.bl (decide (a ∈ l))) := by
  rw [inD_ok (.inl rfl) (okD_str ha) (okD_lstS hl), any_sts]
theorem in_strsT {a : Str} {l : List Str} (ha : OkS a) (hl : ∀ x ∈ l, OkS x) : inD (.str a) (.tup (sts l)) = some (.bl (decide (a ∈ l))) := by
  rw [inD_ok (.inr rfl) (okD_str ha) (okD_tupS hl), any_sts]
theorem notIn_strsL {a : Str} {l : List Str} (ha : OkS a) (hl : ∀ x ∈ l, OkS x) : notInD (.str a) (.lst (sts l)) = some (.bl (!decide (a ∈ l))) := by
  rw [notInD_ok (.inl rfl) (okD_str ha) (okD_lstS hl), any_sts]
theorem notIn_strsT {a : Str} {l : List Str} (ha : OkS a) (hl : ∀ x ∈ l, OkS x) : notInD (.str a) (.tup (sts l)) = some (.bl (!decide (a ∈ l))) := by
  rw [notInD_ok (.inr rfl) (okD_str ha) (okD_tupS hl), any_sts]
theorem in_lanesL {p : Lane} {l : List Lane} (ha : OkL p) (hl : ∀ x ∈ l, OkL x) : inD (laneD p) (.lst (lanes l)) = some (.bl (decide (p ∈ l))) := by
  rw [inD_ok (.inl rfl) (okD_lane ha) (okD_lstL hl), any_lanes]
theorem in_lanesT {p : Lane} {l : List Lane} (ha : OkL p) (hl : ∀ x ∈ l, OkL x) : inD (laneD p) (.tup (lanes l)) = some (.bl (decide (p ∈ l))) := by
  rw [inD_ok (.inr rfl) (okD_lane ha) (okD_tupL hl), any_lanes]
theorem notIn_lanesL {p : Lane} {l : List Lane} (ha : OkL p) (hl : ∀ x ∈ l, OkL x) : notInD (laneD p) (.lst (lanes l)) = some (.bl (!decide (p ∈ l))) := by
  rw [notInD_ok (.inl rfl) (okD_lane ha) (okD_lstL hl), any_lanes]
theorem notIn_lanesT {p : Lane} {l : List Lane} (ha : OkL p) (hl : ∀ x ∈ l, OkL x) : notInD (laneD p) (.tup (lanes l)) = some (.bl (!decide (p ∈ l))) := by
  rw [notInD_ok (.inr rfl) (okD_lane ha) (okD_tupL hl), any_lanes]
theorem ne_str {a b : Str} (ha : OkS a) (hb : OkS b) : neD (.str a) (.str b) = some (.bl (!decide (a = b))) := by
  rw [neD_ok (okD_str ha) (okD_str hb), eqB_str]
theorem eq_str {a b : Str} (ha : OkS a) (hb : OkS b) : eqD (.str a) (.str b) = some (.bl (decide (a = b))) := by
  rw [eqD_ok (okD_str ha) (okD_str hb), eqB_str]
theorem ne_nilS {l : List Str} (hl : ∀ x ∈ l, OkS x) : neD (.lst (sts l)) (.lst []) = some (.bl (!l.isEmpty)) := by
  rw [neD_ok (okD_lstS hl) rfl]
  cases l <;> simp [sts, eqB, eqBL]
structure Lore where
  g : Str
  hs : List Str
  ls : List Lane
def loreD (L : Lore) : D := .dct [(.inr ("gate" : Str), .str L.g), (.inr ("houses" : Str), .lst (sts L.hs)), (.inr ("lanes" : Str), .lst (lanes L.ls))]
structure LoreOk (L : Lore) : Prop where
  nd : (L.g :: L.hs).Nodup
  pl : ∀ n ∈ L.g :: L.hs, n ∈ pool
  le : L.hs.length ≤ 10
  lnd : L.ls.Nodup
  ends : ∀ p ∈ L.ls, p.1 ∈ L.hs ∧ p.2 ∈ L.g :: L.hs ∧ p.1 ≠ p.2
  few : L.ls.length ≤ 40
theorem pool_ok : ∀ n ∈ pool, OkS n := by
  have h : pool.all (fun n => n.cps.all (· < 0x110000)) = true := by decide +kernel
  intro n hn
  exact (List.all_eq_true.mp h) n hn
theorem key_ne : (("houses" : Str) = "gate") = False ∧ (("lanes" : Str) = "gate") = False ∧ (("lanes" : Str) = "houses") = False ∧ (("gate" : Str) = "houses") = False ∧ (("gate" : Str) = "lanes") = False ∧ (("houses" : Str) = "lanes") = False := by
  refine ⟨?_, ?_, ?_, ?_, ?_, ?_⟩ <;> exact eq_false (by decide +kernel)
theorem get_gate (L : Lore) : getD' (loreD L) (.str "gate") = some (.str L.g) := by
  simp [getD', loreD, asKey, valD]
theorem get_houses (L : Lore) : getD' (loreD L) (.str "houses") = some (.lst (sts L.hs)) := by
  have h := key_ne
  simp [getD', loreD, asKey, valD, h.2.2.2.1]
theorem get_lanes (L : Lore) : getD' (loreD L) (.str "lanes") = some (.lst (lanes L.ls)) := by
  have h := key_ne
  simp [getD', loreD, asKey, valD, h.2.2.2.2.1, h.2.2.2.2.2]
end VL
namespace VL
open PySem PySem.Spec PyProof.Rows L2
theorem compL_map {α : Type} {tg : D → Rho → Option Rho} {tt : Rho → M Bool} {te : Rho → M D} {ρ : Rho} (enc : α → D) (p : α → Bool) (out : α → D) : ∀ l : List α,
    (∀ a ∈ l, ∃ ρ', tg (enc a) ρ = some ρ' ∧ tt ρ' = pure (p a) ∧ (p a = true → te ρ' = pure (out a))) → compL tg tt te ρ (l.map enc) = pure ((l.filter p).map out)
  | [], _ => rfl
  | a :: l, h => by
    obtain ⟨ρ', h1, h2, h3⟩ := h a (by simp)
    have ih := compL_map enc p out l fun b hb => h b (by simp [hb])
    rw [List.map_cons]
    unfold compL
    rw [h1, opt_some, m_pure_bind, h2, m_pure_bind]
    cases hp : p a with
    | true =>
      rw [if_pos rfl, h3 hp, m_pure_bind, ih, m_pure_bind, List.filter_cons_of_pos hp, List.map_cons]
    | false =>
      rw [if_neg (by simp), ih, List.filter_cons_of_neg (by simp [hp])]
theorem lcF_map {α : Type} {vs : List Nat} {fi : Rho → M (List D)} {tg : D → Rho → Option Rho} {tt : Rho → M Bool} {te : Rho → M D} {ρ : Rho} (enc : α → D) (p : α → Bool) (out : α → D) (l : List α) (hi : fi ρ = pure (l.map enc))
    (h : ∀ a ∈ l, ∃ ρ', tg (enc a) (wipeR ρ vs) = some ρ' ∧ tt ρ' = pure (p a) ∧ (p a = true → te ρ' = pure (out a))) : lcF vs fi tg tt te ρ = pure (.lst ((l.filter p).map out)) := by
  unfold lcF
  rw [hi, m_pure_bind, compL_map enc p out l h, noE_pure, m_pure_bind]
theorem forL_foldN {α S : Type} {tg : D → Rho → Option Rho} {body : Rho → M Fl} (enc : α → D) (R : S → Rho) (I : Nat → S → Prop) (step : S → α → S) : ∀ (l : List α) (st : S), I l.length st →
    (∀ k st a, I (k + 1) st → a ∈ l → I k (step st a) ∧ ∃ ρ1, tg (enc a) (R st) = some ρ1 ∧ body ρ1 = pure (.nx (R (step st a)))) → forL tg body (l.map enc) (R st) = pure (.nx (R (l.foldl step st))) ∧ I 0 (l.foldl step st)
  | [], st, hI, _ => ⟨rfl, hI⟩
  | a :: l, st, hI, h => by
    obtain ⟨hI', ρ1, h1, h2⟩ := h l.length st a hI (by simp)
    obtain ⟨e, k⟩ := forL_foldN enc R I step l (step st a) hI' fun k st b hs hb => h k st b hs (by simp [hb])
    refine ⟨?_, k⟩
    rw [List.map_cons]
    unfold forL
    rw [h1, opt_some, m_pure_bind, h2, m_pure_bind]
    exact e
theorem seqS_pure {f g : Rho → M Fl} {ρ ρ' : Rho} (h : f ρ = pure (.nx ρ')) : seqS f g ρ = g ρ' := by unfold seqS; rw [h, m_pure_bind]
theorem seqS_pureR {f g : Rho → M Fl} {ρ : Rho} {d : D} (h : f ρ = pure (.rt d)) : seqS f g ρ = pure (.rt d) := by unfold seqS; rw [h, m_pure_bind]
theorem runD_pure {n : Nat} {body : Rho → M Fl} {ds : List D} {d : D} (h : body (rho0 n ds) = pure (.rt d)) : runD n body ds = pure d := by unfold runD; rw [h, m_pure_bind]; rfl
theorem foldl_room (f : Str → List Lane) : ∀ (hs : List Str) (acc : List Lane) (v : Option D), (hs.foldl (fun (st : List Lane × Option D) s => (st.1 ++ f s, some (.str s))) (acc, v)).1 = acc ++ hs.flatMap f
  | [], acc, v => by simp
  | s :: hs, acc, v => by
    simp only [List.foldl_cons, List.flatMap_cons]
    rw [foldl_room f hs]
    simp
end VL
namespace VL
open PySem PySem.Spec PyProof.Rows L2
theorem enumL_map {α : Type} (enc : α → D) : ∀ (l : List α) (k0 : Int), enumL k0 (l.map enc) = (l.zipIdx.map fun p => D.tup [.int (k0 + (p.2 : Nat)), enc p.1])
  | l, k0 => by
    have key : ∀ (l : List α) (k0 : Int) (n : Nat), enumL (k0 + (n : Nat)) (l.map enc) = ((l.zipIdx n).map fun p => D.tup [.int (k0 + (p.2 : Nat)), enc p.1]) := by
      intro l
      induction l with
      | nil => intro _ _; rfl
      | cons a l ih =>
        intro k0 n
        simp only [List.map_cons, enumL, List.zipIdx_cons]
        congr 1
        have : k0 + ((n : Nat) : Int) + 1 = k0 + ((n + 1 : Nat) : Int) := by omega
        rw [this]
        exact ih k0 (n + 1)
    have := key l k0 0
    simpa using this
end VL
namespace VL
open PySem PySem.Spec PyProof.Rows L2
theorem setS_pure {i : Nat} {f : Rho → M D} {ρ : Rho} {d : D} (h : f ρ = pure d) : setS i f ρ = pure (.nx (ρ.set i (some d))) := by unfold setS; rw [h, m_pure_bind]
theorem retS_pure {f : Rho → M D} {ρ : Rho} {d : D} (h : f ρ = pure d) : retS f ρ = pure (.rt d) := by unfold retS; rw [h, m_pure_bind]
theorem bin_pure {g : D → D → Option D} {fa fb : Rho → M D} {ρ : Rho} {d e z : D} (ha : fa ρ = pure d) (hb : fb ρ = pure e) (hg : g d e = some z) : bin g fa fb ρ = pure z := by unfold bin; rw [ha, m_pure_bind, hb, m_pure_bind, hg, opt_some]
def laneLine (p : Lane) : Str := Txt.join (" " : Str) [("lane" : Str), p.1, p.2]
def linesOf (L : Lore) : List Str := ((("gate " : Str) ++ L.g) :: L.hs.map fun h => ("house " : Str) ++ h) ++ L.ls.map laneLine
theorem pool_short : ∀ n ∈ pool, n.length ≤ 8 := by
  have h : pool.all (fun n => decide (n.length ≤ 8)) = true := by decide +kernel
  intro n hn
  simpa using (List.all_eq_true.mp h) n hn
theorem lines_ok (L : Lore) (h1 : ∀ n ∈ L.g :: L.hs, n.length ≤ 8) (h2 : ∀ p ∈ L.ls, p.1.length ≤ 8 ∧ p.2.length ≤ 8) (h3 : L.hs.length ≤ 20) (h4 : L.ls.length ≤ 100) : runD 5 LB_l_lines [loreD L] = pure (.lst (sts (linesOf L))) := by
  have g1 := get_gate L
  have g2 := get_houses L
  have g3 := get_lanes L
  have c1 : ("gate " : Str).length = 5 := by decide +kernel
  have c2 : ("house " : Str).length = 6 := by decide +kernel
  have c3 : (" " : Str).length = 1 := by decide +kernel
  have c4 : ("lane" : Str).length = 4 := by decide +kernel
  have a1 : addD (.str "gate ") (.str L.g) = some (.str (("gate " : Str) ++ L.g)) := by
    have := h1 L.g (by simp)
    show (if _ then _ else _) = _
    rw [if_pos (sz_of (by omega))]
  have a2 : ∀ h ∈ L.hs, addD (.str "house ") (.str h) = some (.str (("house " : Str) ++ h)) := fun h hh => by
    have := h1 h (by simp [hh])
    show (if _ then _ else _) = _
    rw [if_pos (sz_of (by omega))]
  have a3 : ∀ p ∈ L.ls, joinD (.str " ") (.lst [.str "lane", .str p.1, .str p.2]) = some (.str (laneLine p)) := fun p hp => by
    have := h2 p hp
    unfold joinD
    have e : strsOf [.str "lane", .str p.1, .str p.2] = some [("lane" : Str), p.1, p.2] := rfl
    simp only [seqOf, e]
    rw [if_pos (by simp [c3, c4]; omega)]
    rfl
  have l1 : lcF [2] (seqF (bin getD' (slot 0) (fun _ => pure (.str "houses")))) (tgN 2) (fun _ => pure true) (bin addD (fun _ => pure (.str "house ")) (slot 2)) (rho0 5 [loreD L]) = pure (.lst (L.hs.map fun h => .str (("house " : Str) ++ h))) := by
    rw [lcF_map (fun h : Str => D.str h) (fun _ => true) (fun h => .str (("house " : Str) ++ h)) L.hs]
    · rw [List.filter_eq_self.mpr (fun _ _ => rfl)]
    · simp [seqF, bin, rho0, g2, seqOf, sts]
    · intro a ha
      exact ⟨_, rfl, rfl, fun _ => by simp [bin, rho0, wipeR, tgN, a2 a ha]⟩
  have l2 : ∀ x : Option D, lcF [3, 4] (seqF (bin getD' (slot 0) (fun _ => pure (.str "lanes")))) (tgT 2 (tgCons (tgN 3) (tgCons (tgN 4) tgNil))) (fun _ => pure true) (binS joinD (fun _ => pure (.str " ")) (lstF (consA (fun _ => pure (.str "lane")) (consA (slot 3) (consA (slot 4) nilA))))) [some (loreD L), x, none, none, none] = pure (.lst (L.ls.map fun p => .str (laneLine p))) := by
    intro x
    rw [lcF_map laneD (fun _ => true) (fun p => .str (laneLine p)) L.ls]
    · rw [List.filter_eq_self.mpr (fun _ _ => rfl)]
    · simp [seqF, bin, g3, seqOf, lanes]
    · intro p hp
      have z1 : 3 ≤ sizeLine := sz_of (by decide)
      exact ⟨_, rfl, rfl, fun _ => by simp [binS, isStr, bin, lstF, consA, nilA, mkL, wipeR, tgN, a3 p hp, z1]⟩
  have z1 : 1 ≤ sizeLine := sz_of (by decide)
  have z2 : 1 + L.hs.length ≤ sizeLine := sz_of (by omega)
  have z3 : L.hs.length + 1 + L.ls.length ≤ sizeLine := sz_of (by omega)
  refine runD_pure ?_
  unfold LB_l_lines
  have e1 : setS 1 (bin catD (lstF (consA (bin addD (fun _ => pure (.str "gate ")) (bin getD' (slot 0) (fun _ => pure (.str "gate")))) nilA)) (lcF [2] (seqF (bin getD' (slot 0) (fun _ => pure (.str "houses")))) (tgN 2) (fun _ => pure true) (bin addD (fun _ => pure (.str "house ")) (slot 2)))) (rho0 5 [loreD L]) =
      pure (.nx [some (loreD L), some (.lst (.str (("gate " : Str) ++ L.g) :: L.hs.map fun h => .str (("house " : Str) ++ h))), none, none, none]) := by
    have k0 : lstF (consA (bin addD (fun _ => pure (.str "gate ")) (bin getD' (slot 0) (fun _ => pure (.str "gate")))) nilA) (rho0 5 [loreD L]) = pure (.lst [.str (("gate " : Str) ++ L.g)]) := by
      simp [lstF, consA, nilA, mkL, bin, rho0, g1, a1, z1]
    have k1 : catD (.lst [.str (("gate " : Str) ++ L.g)]) (.lst (L.hs.map fun h => .str (("house " : Str) ++ h))) = some (.lst (.str (("gate " : Str) ++ L.g) :: L.hs.map fun h => .str (("house " : Str) ++ h))) := by
      show (if _ then _ else _) = _
      rw [if_pos (by simpa using z2)]
      rfl
    exact setS_pure (bin_pure k0 l1 k1)
  rw [seqS_pure e1]
  have k2 : slot 1 [some (loreD L), some (.lst (.str (("gate " : Str) ++ L.g) :: L.hs.map fun h => .str (("house " : Str) ++ h))), none, none, none] = pure (.lst (.str (("gate " : Str) ++ L.g) :: L.hs.map fun h => .str (("house " : Str) ++ h))) := rfl
  have k3 : catD (.lst (.str (("gate " : Str) ++ L.g) :: L.hs.map fun h => .str (("house " : Str) ++ h))) (.lst (L.ls.map fun p => .str (laneLine p))) = some (.lst (sts (linesOf L))) := by
    show (if _ then _ else _) = _
    rw [if_pos (by simpa using z3)]
    simp only [sts, linesOf, List.map_append, List.map_cons, List.map_map]
    rfl
  exact retS_pure (bin_pure k2 (l2 _) k3)
end VL
namespace VL
open PySem PySem.Spec PyProof.Rows L2 TL
def textOf (L : Lore) : Str := Txt.join ("\n" : Str) (linesOf L)
theorem slen_append (a b : Str) : (a ++ b).length = a.length + b.length := by
  show (a.cps ++ b.cps).size = _
  exact Array.size_append ..
theorem strsOf_sts (l : List Str) : strsOf (sts l) = some l := strsOf_map l
theorem sum_le {l : List Str} {c : Nat} (h : ∀ x ∈ l, x.length ≤ c) : (l.map (·.length)).sum ≤ l.length * c := by
  induction l with
  | nil => simp
  | cons x l ih =>
    have h1 := h x (by simp)
    have h2 := ih fun y hy => h y (by simp [hy])
    simp only [List.map_cons, List.sum_cons, List.length_cons]
    rw [Nat.add_mul]
    omega
theorem laneLine_eq (p : Lane) : laneLine p = ("lane" : Str) ++ (" " : Str) ++ (p.1 ++ (" " : Str) ++ p.2) := by
  unfold laneLine
  rw [join_eq]
  rfl
theorem line_len (L : Lore) (h1 : ∀ n ∈ L.g :: L.hs, n.length ≤ 8) (h2 : ∀ p ∈ L.ls, p.1.length ≤ 8 ∧ p.2.length ≤ 8) : ∀ x ∈ linesOf L, x.length ≤ 30 := by
  have c1 : ("gate " : Str).length = 5 := by decide +kernel
  have c2 : ("house " : Str).length = 6 := by decide +kernel
  have c3 : (" " : Str).length = 1 := by decide +kernel
  have c4 : ("lane" : Str).length = 4 := by decide +kernel
  intro x hx
  unfold linesOf at hx
  simp only [List.cons_append, List.mem_cons, List.mem_append, List.mem_map] at hx
  rcases hx with rfl | ⟨h, hh, rfl⟩ | ⟨p, hp, rfl⟩
  · have := h1 L.g (by simp)
    rw [slen_append]; omega
  · have := h1 h (by simp [hh])
    rw [slen_append]; omega
  · have := h2 p hp
    rw [laneLine_eq]
    simp only [slen_append]
    omega
theorem linesOf_len (L : Lore) : (linesOf L).length = 1 + L.hs.length + L.ls.length := by
  simp [linesOf]; omega
theorem text_ok {t : List D → M D} (L : Lore) (ht : t [loreD L] = pure (.lst (sts (linesOf L)))) (h1 : ∀ n ∈ L.g :: L.hs, n.length ≤ 8) (h2 : ∀ p ∈ L.ls, p.1.length ≤ 8 ∧ p.2.length ≤ 8) (h3 : L.hs.length ≤ 20) (h4 : L.ls.length ≤ 100) : runD 1 (LB_l_text t) [loreD L] = pure (.str (textOf L)) := by
  refine runD_pure ?_
  unfold LB_l_text
  refine retS_pure ?_
  have c3 : ("\n" : Str).length = 1 := by decide +kernel
  have hj : joinD (.str "\n") (.lst (sts (linesOf L))) = some (.str (textOf L)) := by
    unfold joinD
    simp only [seqOf, strsOf_sts]
    have hs := sum_le (line_len L h1 h2)
    have hl := linesOf_len L
    rw [if_pos (by rw [c3]; omega)]
    rfl
  refine bin_pure (d := .str "\n") (e := .lst (sts (linesOf L))) ?_ ?_ hj
  · simp [isStr]
  · simp [fnF, consA, nilA, rho0, callN, ht]
theorem tl_space : tl (" " : Str) = [32] := by decide +kernel
theorem tl_feed : tl ("\n" : Str) = [10] := by decide +kernel
theorem split_gate {n : Str} (h : 32 ∉ tl n) : Txt.split (("gate " : Str) ++ n) " " = [("gate" : Str), n] := by
  have e : ("gate " : Str) ++ n = Txt.join (" " : Str) [("gate" : Str), n] := by
    rw [join_eq]
    show ("gate " : Str) ++ n = ("gate" : Str) ++ (" " : Str) ++ n
    have : ("gate" : Str) ++ (" " : Str) = ("gate " : Str) := by decide +kernel
    rw [this]
  rw [e]
  refine split_join (s := 32) (S := []) tl_space (by decide +kernel) (by simp) fun p hp => ?_
  simp only [List.mem_cons, List.not_mem_nil, or_false] at hp
  rcases hp with rfl | rfl
  · decide +kernel
  · exact h
end VL
namespace VL
open PySem PySem.Spec PyProof.Rows L2 TL
theorem split_house {n : Str} (h : 32 ∉ tl n) : Txt.split (("house " : Str) ++ n) " " = [("house" : Str), n] := by
  have e : ("house " : Str) ++ n = Txt.join (" " : Str) [("house" : Str), n] := by
    rw [join_eq]
    show ("house " : Str) ++ n = ("house" : Str) ++ (" " : Str) ++ n
    have : ("house" : Str) ++ (" " : Str) = ("house " : Str) := by decide +kernel
    rw [this]
  rw [e]
  refine split_join (s := 32) (S := []) tl_space (by decide +kernel) (by simp) fun p hp => ?_
  simp only [List.mem_cons, List.not_mem_nil, or_false] at hp
  rcases hp with rfl | rfl
  · decide +kernel
  · exact h
theorem split_lane {p : Lane} (h1 : 32 ∉ tl p.1) (h2 : 32 ∉ tl p.2) : Txt.split (laneLine p) " " = [("lane" : Str), p.1, p.2] := by
  unfold laneLine
  refine split_join (s := 32) (S := []) tl_space (by decide +kernel) (by simp) fun q hq => ?_
  simp only [List.mem_cons, List.not_mem_nil, or_false] at hq
  rcases hq with rfl | rfl | rfl
  · decide +kernel
  · exact h1
  · exact h2
theorem pool_signs : ∀ n ∈ pool, 32 ∉ tl n ∧ 10 ∉ tl n := by
  have h : pool.all (fun n => decide (32 ∉ tl n ∧ 10 ∉ tl n)) = true := by decide +kernel
  intro n hn
  simpa using (List.all_eq_true.mp h) n hn
theorem split_text (L : Lore) (h1 : ∀ n ∈ L.g :: L.hs, 10 ∉ tl n) (h2 : ∀ p ∈ L.ls, 10 ∉ tl p.1 ∧ 10 ∉ tl p.2) : Txt.split (textOf L) "\n" = linesOf L := by
  unfold textOf
  refine split_join (s := 10) (S := []) tl_feed (by decide +kernel) (by simp [linesOf]) fun x hx => ?_
  have c1 : 10 ∉ tl ("gate " : Str) := by decide +kernel
  have c2 : 10 ∉ tl ("house " : Str) := by decide +kernel
  have c3 : 10 ∉ tl (" " : Str) := by decide +kernel
  have c4 : 10 ∉ tl ("lane" : Str) := by decide +kernel
  unfold linesOf at hx
  simp only [List.cons_append, List.mem_cons, List.mem_append, List.mem_map] at hx
  rcases hx with rfl | ⟨h, hh, rfl⟩ | ⟨p, hp, rfl⟩
  · have := h1 L.g (by simp)
    rw [tl_append]
    simp [c1, this]
  · have := h1 h (by simp [hh])
    rw [tl_append]
    simp [c2, this]
  · have := h2 p hp
    rw [laneLine_eq]
    simp only [tl_append]
    simp [c3, c4, this.1, this.2]
end VL
namespace VL
open PySem PySem.Spec PyProof.Rows L2 TL
abbrev letters : Str := "abcdefghijklmnopqrstuvwxyz"
theorem pool_letters : pool.all (fun n => n.cps.toList.all fun c => !(Builtin.Str.occurrences letters ⟨#[c]⟩ 0 letters.length 1).isEmpty) = true := by decide +kernel
theorem pool_long : ∀ n ∈ pool, 1 ≤ n.length := by
  have h : pool.all (fun n => decide (1 ≤ n.length)) = true := by decide +kernel
  intro n hn
  simpa using (List.all_eq_true.mp h) n hn
theorem is_name_pool {n : Str} (hn : n ∈ pool) : runD 2 LB_is_name [.str n] = pure (.bl true) := by
  have h8 := pool_short n hn
  have h1 := pool_long n hn
  have hsz : n.length ≤ sizeLine := sz_of (by omega)
  have hl : ∀ c ∈ n.cps.toList, inD (.str ⟨#[c]⟩) (.str letters) = some (.bl true) := fun c hc => by
    have := (List.all_eq_true.mp ((List.all_eq_true.mp pool_letters) n hn)) c hc
    show Option.map D.bl (some (!(Builtin.Str.occurrences letters ⟨#[c]⟩ 0 letters.length 1).isEmpty)) = _
    rw [this]
    rfl
  have e1 : ifS (orB (notB (tst (isiF (isTy [] "str") (slot 0)))) (notB (tst (chainF leD leD (fun _ => pure (.int 1)) (callF lenD (consA (slot 0) nilA)) (fun _ => pure (.int 8)))))) (retS (fun _ => pure (.bl false))) skip (rho0 2 [.str n]) = pure (.nx (rho0 2 [.str n])) := by
    have k1 : (1 : Int) ≤ (n.length : Nat) := by omega
    have k2 : ((n.length : Nat) : Int) ≤ 8 := by omega
    simp [ifS, orB, notB, tst, isiF, isTy, tyD, chainF, callF, lenD, consA, nilA, rho0, hsz, leD, intI, k1, k2, skip]
  have e2 : lcF [1] (strF (slot 0)) (tgN 1) (fun _ => pure true) (bin inD (slot 1) (fun _ => pure (.str letters))) (rho0 2 [.str n]) = pure (.lst (n.cps.toList.map fun _ => .bl true)) := by
    rw [lcF_map (fun c : Nat => D.str ⟨#[c]⟩) (fun _ => true) (fun _ => .bl true) n.cps.toList]
    · rw [List.filter_eq_self.mpr (fun _ _ => rfl)]
    · simp [strF, rho0, hsz, signsD]
    · intro c hc
      refine ⟨_, rfl, rfl, fun _ => ?_⟩
      exact bin_pure (d := .str ⟨#[c]⟩) (e := .str letters) rfl rfl (hl c hc)
  refine runD_pure ?_
  unfold LB_is_name
  rw [seqS_pure e1]
  refine retS_pure ?_
  have e3 : boolsOf (n.cps.toList.map fun _ => D.bl true) = some (n.cps.toList.map fun _ => true) := by
    have := boolsOf_map (n.cps.toList.map fun _ => true)
    rw [List.map_map] at this
    exact this
  have e4 : allD [.lst (n.cps.toList.map fun _ => D.bl true)] = some (.bl true) := by
    show Option.map _ (boolsOf _) = _
    rw [e3]
    simp
  have e5 : consA (lcF [1] (strF (slot 0)) (tgN 1) (fun _ => pure true) (bin inD (slot 1) (fun _ => pure (.str letters)))) nilA (rho0 2 [.str n]) = pure [.lst (n.cps.toList.map fun _ => D.bl true)] := by
    unfold consA
    rw [e2, m_pure_bind]
    rfl
  unfold callF
  rw [e5, m_pure_bind, e4, opt_some]
end VL
namespace VL
open PySem PySem.Spec PyProof.Rows L2 TL
theorem splitD_ok {line sep : Str} {ws : List Str} (h : Txt.split line sep = ws) (h0 : sep.length = 1) (h1 : line.length ≤ 1000000) (h2 : ws.length ≤ 1000000) : splitD (.str line) (.str sep) = some (.lst (sts ws)) := by
  unfold splitD
  dsimp only
  rw [if_pos ⟨by rw [h0]; rfl, sz_of (by omega), by rw [h]; exact sz_of (by omega)⟩, h]
  rfl
theorem len_space : (" " : Str).length = 1 := by decide +kernel
theorem eq_int (i j : Int) : eqD (.int i) (.int j) = some (.bl (decide (i = j))) := by
  rw [eqD_ok rfl rfl]
  by_cases h : i = j <;> simp [eqB, h]
theorem name_in_len {t : List D → M D} {line word : Str} {ws : List Str} (hs : Txt.split line " " = ws) (hl : line.length ≤ 1000000) (h2 : ws.length ≤ 1000000) (hne : ws.length ≠ 2) : runD 3 (LB_name_in t) [.str line, .str word] = pure .non := by
  have k := splitD_ok hs len_space hl h2
  refine runD_pure ?_
  unfold LB_name_in
  have e1 : setS 2 (binS splitD (slot 0) (fun _ => pure (.str " "))) (rho0 3 [.str line, .str word]) = pure (.nx [some (.str line), some (.str word), some (.lst (sts ws))]) := by
    rw [setS_pure (d := .lst (sts ws))]
    · rfl
    · exact bin_pure (d := .str line) (e := .str " ") (by simp [isStr, rho0]) rfl k
  rw [seqS_pure e1]
  have hd : ¬ ((ws.length : Nat) : Int) = 2 := by omega
  refine retS_pure ?_
  simp [ifV, andB, tst, bin, callF, lenD, consA, nilA, eq_int, hd]
theorem name_in_two {t : List D → M D} (ht : ∀ n ∈ pool, t [.str n] = pure (.bl true)) {line word w n : Str} (hs : Txt.split line " " = [w, n]) (hl : line.length ≤ 1000000) (hw : OkS w) (hword : OkS word) (hn : n ∈ pool) : runD 3 (LB_name_in t) [.str line, .str word] = pure (if w = word then .str n else .non) := by
  have k := splitD_ok hs len_space hl (by simp)
  refine runD_pure ?_
  unfold LB_name_in
  have e1 : setS 2 (binS splitD (slot 0) (fun _ => pure (.str " "))) (rho0 3 [.str line, .str word]) = pure (.nx [some (.str line), some (.str word), some (.lst (sts [w, n]))]) := by
    rw [setS_pure (d := .lst (sts [w, n]))]
    · rfl
    · exact bin_pure (d := .str line) (e := .str " ") (by simp [isStr, rho0]) rfl k
  rw [seqS_pure e1]
  have i0 : idxD (.lst [.str w, .str n]) (.int 0) = some (.str w) := rfl
  have i1 : idxD (.lst [.str w, .str n]) (.int 1) = some (.str n) := rfl
  have q := eq_str hw hword
  refine retS_pure ?_
  by_cases h : w = word
  · subst h
    simp [ifV, andB, tst, bin, callF, lenD, consA, nilA, eq_int, sts, i0, i1, q, fnF, callN, ht n hn]
  · simp [ifV, andB, tst, bin, callF, lenD, consA, nilA, eq_int, sts, i0, i1, q, h]
end VL
namespace VL
open PySem PySem.Spec PyProof.Rows L2 TL
theorem ne_int (i j : Int) : neD (.int i) (.int j) = some (.bl (!decide (i = j))) := by
  rw [neD_ok rfl rfl]
  by_cases h : i = j <;> simp [eqB, h]
theorem lane_in_start {line : Str} {ws : List Str} {g hs : D} (hs' : Txt.split line " " = ws) (hl : line.length ≤ 1000000) (h2 : ws.length ≤ 1000000) :
    setS 3 (binS splitD (slot 0) (fun _ => pure (.str " "))) (rho0 6 [.str line, g, hs]) = pure (.nx [some (.str line), some g, some hs, some (.lst (sts ws)), none, none]) := by
  rw [setS_pure (d := .lst (sts ws))]
  · rfl
  · exact bin_pure (d := .str line) (e := .str " ") (by simp [isStr, rho0]) rfl (splitD_ok hs' len_space hl h2)
theorem lane_in_len {line : Str} {ws : List Str} {g hs : D} (hs' : Txt.split line " " = ws) (hl : line.length ≤ 1000000) (h2 : ws.length ≤ 1000000) (hne : ws.length ≠ 3) : runD 6 LB_lane_in [.str line, g, hs] = pure .non := by
  refine runD_pure ?_
  unfold LB_lane_in
  rw [seqS_pure (lane_in_start hs' hl h2)]
  have hd : ¬ ((ws.length : Nat) : Int) = 3 := by omega
  refine seqS_pureR ?_
  simp [ifS, orB, tst, bin, callF, lenD, consA, nilA, ne_int, hd, retS]
theorem lane_in_ok {g : Str} {hs : List Str} {p : Lane} (hline : (laneLine p).length ≤ 1000000) (hg : OkS g) (hhs : ∀ x ∈ hs, OkS x) (hl : hs.length ≤ 1000) (s1 : 32 ∉ tl p.1) (s2 : 32 ∉ tl p.2) (e1 : p.1 ∈ hs) (e2 : p.2 ∈ g :: hs) (ne : p.1 ≠ p.2) :
    runD 6 LB_lane_in [.str (laneLine p), .str g, .tup (sts hs)] = pure (laneD p) := by
  have hsp := split_lane s1 s2
  have o1 : OkS p.1 := hhs _ e1
  have o2 : OkS p.2 := by
    rcases List.mem_cons.mp e2 with h | h
    · rw [h]; exact hg
    · exact hhs _ h
  refine runD_pure ?_
  unfold LB_lane_in
  rw [seqS_pure (lane_in_start hsp hline (by simp))]
  have i0 : idxD (.lst [.str "lane", .str p.1, .str p.2]) (.int 0) = some (.str "lane") := rfl
  have ol : OkS "lane" := by unfold OkS; decide +kernel
  have k0 := ne_str ol ol
  have z1 : ifS (orB (tst (bin neD (callF lenD (consA (slot 3) nilA)) (fun _ => pure (.int 3)))) (tst (bin neD (bin idxD (slot 3) (fun _ => pure (.int 0))) (fun _ => pure (.str "lane"))))) (retS (fun _ => pure .non)) skip [some (.str (laneLine p)), some (.str g), some (.tup (sts hs)), some (.lst (sts [("lane" : Str), p.1, p.2])), none, none] = pure (.nx [some (.str (laneLine p)), some (.str g), some (.tup (sts hs)), some (.lst (sts [("lane" : Str), p.1, p.2])), none, none]) := by
    simp [ifS, orB, tst, bin, callF, lenD, consA, nilA, ne_int, sts, i0, k0, skip]
  rw [seqS_pure z1]
  have c1 : slcL (.lst [.str "lane", .str p.1, .str p.2]) (some 1) none = some (.lst [.str p.1, .str p.2]) := rfl
  have z2 : tgtS (tgL 2 (tgCons (tgN 4) (tgCons (tgN 5) tgNil))) (slcF slcL (slot 3) (partI (fun _ => pure (.int 1))) (fun _ => pure none)) [some (.str (laneLine p)), some (.str g), some (.tup (sts hs)), some (.lst (sts [("lane" : Str), p.1, p.2])), none, none] = pure (.nx [some (.str (laneLine p)), some (.str g), some (.tup (sts hs)), some (.lst (sts [("lane" : Str), p.1, p.2])), some (.str p.1), some (.str p.2)]) := by
    simp [tgtS, slcF, partI, sts, c1, tgL, tgCons, tgN, tgNil]
  rw [seqS_pure z2]
  have m1 := in_strsT o1 hhs
  have m2 := in_strsL (a := p.2) (l := g :: hs) o2 (fun x hx => by rcases List.mem_cons.mp hx with h | h; (rw [h]; exact hg); exact hhs _ h)
  have m3 := ne_str o1 o2
  have y1 : hs.length + 1 ≤ sizeLine := sz_of (by omega)
  have y2 : 2 ≤ sizeLine := sz_of (by decide)
  have d2 : lstF (consA (slot 1) (starA (slot 2) nilA)) [some (.str (laneLine p)), some (.str g), some (.tup (sts hs)), some (.lst (sts [("lane" : Str), p.1, p.2])), some (.str p.1), some (.str p.2)] = pure (.lst (sts (g :: hs))) := by
    simp [lstF, consA, starA, nilA, mkL, seqOf, y1, sts]
  refine retS_pure ?_
  have t1 : tst (bin inD (slot 4) (slot 2)) [some (.str (laneLine p)), some (.str g), some (.tup (sts hs)), some (.lst (sts [("lane" : Str), p.1, p.2])), some (.str p.1), some (.str p.2)] = pure true := by
    unfold tst
    rw [bin_pure (d := .str p.1) (e := .tup (sts hs)) (by simp) (by simp) m1]
    simp [e1]
  have t2 : tst (bin inD (slot 5) (lstF (consA (slot 1) (starA (slot 2) nilA)))) [some (.str (laneLine p)), some (.str g), some (.tup (sts hs)), some (.lst (sts [("lane" : Str), p.1, p.2])), some (.str p.1), some (.str p.2)] = pure true := by
    unfold tst
    rw [bin_pure (d := .str p.2) (by simp) d2 m2, m_pure_bind, asBl_bl]
    rw [decide_eq_true e2]
  have t3 : tst (bin neD (slot 4) (slot 5)) [some (.str (laneLine p)), some (.str g), some (.tup (sts hs)), some (.lst (sts [("lane" : Str), p.1, p.2])), some (.str p.1), some (.str p.2)] = pure true := by
    unfold tst
    rw [bin_pure (d := .str p.1) (e := .str p.2) (by simp) (by simp) m3]
    simp [ne]
  unfold ifV andB
  rw [t1, m_pure_bind, if_pos rfl, t2, m_pure_bind, if_pos rfl, t3, m_pure_bind, if_pos rfl]
  simp [tupF, consA, nilA, mkT, laneD, y2]
end VL
namespace VL
section
variable {α : Type} [DecidableEq α]
inductive Comes (ls : List (α × α)) (g : α) (gone : List α) : α → Prop
  | gate : Comes ls g gone g
  | step {s e : α} : (s, e) ∈ ls → Comes ls g gone e → s ∉ gone → Comes ls g gone s
theorem comes_start {ls : List (α × α)} {g : α} {gone : List α} {x : α} (h : Comes ls g gone x) : x = g ∨ x ∈ ls.map (·.1) := by
  cases h with
  | gate => exact .inl rfl
  | step h _ _ => exact .inr (List.mem_map.mpr ⟨_, h, rfl⟩)
theorem comes_gone {ls : List (α × α)} {g : α} {gone : List α} {x : α} (h : Comes ls g gone x) : x = g ∨ x ∉ gone := by
  cases h with
  | gate => exact .inl rfl
  | step _ _ h => exact .inr h
theorem Comes.mono {ls ls' : List (α × α)} {g : α} {gone gone' : List α} (h1 : ∀ p ∈ ls, p ∈ ls') (h2 : ∀ x ∈ gone', x ∈ gone) {x : α} (h : Comes ls g gone x) : Comes ls' g gone' x := by
  induction h with
  | gate => exact .gate
  | step a _ c ih => exact .step (h1 _ a) ih fun q => c (h2 _ q)
def nubOn (acc : List α) : List α → List α
  | [] => acc
  | x :: l => nubOn (if x ∈ acc then acc else acc ++ [x]) l
theorem mem_nubOn {x : α} : ∀ {l acc : List α}, x ∈ nubOn acc l ↔ x ∈ acc ∨ x ∈ l
  | [], acc => by simp [nubOn]
  | y :: l, acc => by
    unfold nubOn
    rw [mem_nubOn]
    by_cases h : y ∈ acc
    · simp only [if_pos h, List.mem_cons]
      constructor
      · rintro (h | h)
        · exact .inl h
        · exact .inr (.inr h)
      · rintro (h' | rfl | h')
        · exact .inl h'
        · exact .inl h
        · exact .inr h'
    · simp only [if_neg h, List.mem_append, List.mem_cons, List.not_mem_nil, or_false]
      constructor
      · rintro ((h | h) | h)
        · exact .inl h
        · exact .inr (.inl h)
        · exact .inr (.inr h)
      · rintro (h | h | h)
        · exact .inl (.inl h)
        · exact .inl (.inr h)
        · exact .inr h
theorem nodup_nubOn : ∀ {l acc : List α}, acc.Nodup → (nubOn acc l).Nodup
  | [], acc, h => h
  | y :: l, acc, h => by
    unfold nubOn
    refine nodup_nubOn ?_
    split
    · exact h
    · rename_i hy
      rw [List.nodup_append]
      exact ⟨h, by simp, fun a ha b hb => by simp at hb; subst hb; intro e; subst e; exact hy ha⟩
theorem length_le_of_nodup : ∀ {l u : List α}, l.Nodup → (∀ x ∈ l, x ∈ u) → l.length ≤ u.length
  | [], u, _, _ => by simp
  | x :: l, u, h, k => by
    rw [List.nodup_cons] at h
    have hx := k x (by simp)
    have := length_le_of_nodup (l := l) (u := u.erase x) h.2 fun y hy => by
      have hne : y ≠ x := fun e => h.1 (e ▸ hy)
      exact (List.mem_erase_of_ne hne).mpr (k y (by simp [hy]))
    rw [List.length_erase_of_mem hx] at this
    have hp : 0 < u.length := List.length_pos_of_mem hx
    simp; omega
def moreOf (ls : List (α × α)) (gone found more : List α) : List α :=
  nubOn [] ((ls.filter fun p => decide (p.2 ∈ more) && !decide (p.1 ∈ found ++ gone)).map (·.1))
theorem mem_moreOf {ls : List (α × α)} {gone found more : List α} {x : α} : x ∈ moreOf ls gone found more ↔ ∃ e ∈ more, (x, e) ∈ ls ∧ x ∉ found ∧ x ∉ gone := by
  unfold moreOf
  rw [mem_nubOn]
  simp only [List.not_mem_nil, false_or, List.mem_map, List.mem_filter, Bool.and_eq_true, decide_eq_true_eq, Bool.not_eq_true', decide_eq_false_iff_not, List.mem_append, not_or]
  constructor
  · rintro ⟨⟨s, e⟩, ⟨h1, h2, h3, h4⟩, rfl⟩
    exact ⟨e, h2, h1, h3, h4⟩
  · rintro ⟨e, h2, h1, h3, h4⟩
    exact ⟨(x, e), ⟨h1, h2, h3, h4⟩, rfl⟩
structure ComInv (ls : List (α × α)) (g : α) (gone : List α) (st : List α × List α) : Prop where
  nd : (st.1 ++ st.2).Nodup
  head : ∃ F, st.1 ++ st.2 = g :: F
  sound : ∀ x ∈ st.1 ++ st.2, Comes ls g gone x
  closed : ∀ p ∈ ls, p.2 ∈ st.1 → p.1 ∉ gone → p.1 ∈ st.1 ++ st.2
def comStep (ls : List (α × α)) (gone : List α) (st : List α × List α) : List α × List α := (st.1 ++ st.2, moreOf ls gone (st.1 ++ st.2) st.2)
theorem ComInv.start (ls : List (α × α)) (g : α) (gone : List α) : ComInv ls g gone ([], [g]) :=
  ⟨by simp, ⟨[], by simp⟩, fun x hx => by simp at hx; subst hx; exact .gate, fun p _ h => by simp at h⟩
theorem ComInv.step {ls : List (α × α)} {g : α} {gone : List α} {st : List α × List α} (I : ComInv ls g gone st) : ComInv ls g gone (comStep ls gone st) := by
  refine ⟨?_, ?_, ?_, ?_⟩
  · show (st.1 ++ st.2 ++ moreOf ls gone (st.1 ++ st.2) st.2).Nodup
    rw [List.nodup_append]
    refine ⟨I.nd, nodup_nubOn (by simp), fun a ha b hb e => ?_⟩
    subst e
    obtain ⟨_, _, _, h, _⟩ := mem_moreOf.mp hb
    exact h ha
  · obtain ⟨F, h⟩ := I.head
    exact ⟨F ++ moreOf ls gone (st.1 ++ st.2) st.2, by show st.1 ++ st.2 ++ moreOf ls gone (st.1 ++ st.2) st.2 = _; rw [h]; rfl⟩
  · intro x hx
    rcases List.mem_append.mp hx with h | h
    · exact I.sound x h
    · obtain ⟨e, h1, h2, h3, h4⟩ := mem_moreOf.mp h
      exact .step h2 (I.sound e (List.mem_append_right _ h1)) h4
  · intro p hp h1 h2
    show p.1 ∈ st.1 ++ st.2 ++ moreOf ls gone (st.1 ++ st.2) st.2
    by_cases h3 : p.1 ∈ st.1 ++ st.2
    · exact List.mem_append_left _ h3
    · rcases List.mem_append.mp h1 with h | h
      · exact absurd (I.closed p hp h h2) h3
      · exact List.mem_append_right _ (mem_moreOf.mpr ⟨p.2, h, hp, h3, h2⟩)
theorem ComInv.len {ls : List (α × α)} {g : α} {gone : List α} {st : List α × List α} (I : ComInv ls g gone st) : st.1.length + st.2.length ≤ ls.length + 1 := by
  have := length_le_of_nodup (u := g :: ls.map (·.1)) I.nd fun x hx => by
    rcases comes_start (I.sound x hx) with h | h
    · simp [h]
    · exact List.mem_cons_of_mem _ h
  simpa using this
theorem ComInv.done {ls : List (α × α)} {g : α} {gone : List α} {F : List α} (I : ComInv ls g gone (F, [])) : ∀ x, Comes ls g gone x ↔ x ∈ F := by
  intro x
  constructor
  · intro h
    induction h with
    | gate =>
      obtain ⟨G, h⟩ := I.head
      simp at h
      rw [h]; simp
    | step h _ h3 ih => simpa using I.closed _ h ih h3
  · intro h
    exact I.sound x (by simpa using h)
def lmoreOf (ls : List (α × α)) (gone here : List α) : List α := (ls.filter fun p => decide (p.2 ∈ here) && (!decide (p.1 ∈ here) && !decide (p.1 ∈ gone))).map (·.1)
theorem mem_lmoreOf {ls : List (α × α)} {gone here : List α} {x : α} : x ∈ lmoreOf ls gone here ↔ ∃ e ∈ here, (x, e) ∈ ls ∧ x ∉ here ∧ x ∉ gone := by
  unfold lmoreOf
  simp only [List.mem_map, List.mem_filter, Bool.and_eq_true, decide_eq_true_eq, Bool.not_eq_true', decide_eq_false_iff_not]
  constructor
  · rintro ⟨⟨s, e⟩, ⟨h1, h2, h3, h4⟩, rfl⟩
    exact ⟨e, h2, h1, h3, h4⟩
  · rintro ⟨e, h2, h1, h3, h4⟩
    exact ⟨(x, e), ⟨h1, h2, h3, h4⟩, rfl⟩
structure LcomInv (ls : List (α × α)) (g : α) (gone : List α) (here : List α) : Prop where
  nd : here.Nodup
  gate : g ∈ here
  sound : ∀ x ∈ here, Comes ls g gone x
theorem LcomInv.start (ls : List (α × α)) (g : α) (gone : List α) : LcomInv ls g gone [g] :=
  ⟨by simp, by simp, fun x hx => by simp at hx; subst hx; exact .gate⟩
theorem LcomInv.step {ls : List (α × α)} {g : α} {gone here : List α} (I : LcomInv ls g gone here) : LcomInv ls g gone (here ++ (lmoreOf ls gone here).take 1) := by
  cases h : lmoreOf ls gone here with
  | nil => simpa using I
  | cons y l =>
    have hy : y ∈ lmoreOf ls gone here := by rw [h]; simp
    obtain ⟨e, h1, h2, h3, h4⟩ := mem_lmoreOf.mp hy
    refine ⟨?_, by simp [I.gate], ?_⟩
    · rw [List.nodup_append]
      exact ⟨I.nd, by simp, fun a ha b hb q => by simp at hb; subst hb; subst q; exact h3 ha⟩
    · intro x hx
      simp at hx
      rcases hx with h | rfl
      · exact I.sound x h
      · exact .step h2 (I.sound e h1) h4
theorem LcomInv.len {ls : List (α × α)} {g : α} {gone here : List α} (I : LcomInv ls g gone here) : here.length ≤ ls.length + 1 := by
  have := length_le_of_nodup (u := g :: ls.map (·.1)) I.nd fun x hx => by
    rcases comes_start (I.sound x hx) with h | h
    · simp [h]
    · exact List.mem_cons_of_mem _ h
  simpa using this
theorem LcomInv.done {ls : List (α × α)} {g : α} {gone here : List α} (I : LcomInv ls g gone here) (h : lmoreOf ls gone here = []) : ∀ x, Comes ls g gone x ↔ x ∈ here := by
  intro x
  constructor
  · intro c
    induction c with
    | gate => exact I.gate
    | @step s e a _ b ih =>
      cases Classical.em (s ∈ here) with
      | inl q => exact q
      | inr q =>
        have : s ∈ lmoreOf ls gone here := mem_lmoreOf.mpr ⟨e, ih, a, q, b⟩
        rw [h] at this; simp at this
  · exact I.sound x
open Classical in
noncomputable def comB (ls : List (α × α)) (g : α) (gone : List α) (x : α) : Bool := decide (Comes ls g gone x)
theorem comB_eq {ls : List (α × α)} {g : α} {gone : List α} {x : α} : comB ls g gone x = true ↔ Comes ls g gone x := by simp [comB]
theorem comB_mem {ls : List (α × α)} {g : α} {gone : List α} {x : α} {here : List α} (h : ∀ x, Comes ls g gone x ↔ x ∈ here) : comB ls g gone x = decide (x ∈ here) := by
  by_cases q : x ∈ here
  · simp [comB, (h x).mpr q, q]
  · have : ¬ Comes ls g gone x := fun c => q ((h x).mp c)
    simp [comB, this, q]
end
end VL
namespace VL
open PySem PySem.Spec PyProof.Rows L2 TL
theorem seqS_go {f g : Rho → M Fl} {ρ ρ' : Rho} {r : M Fl} (h : f ρ = pure (.nx ρ')) (k : g ρ' = r) : seqS f g ρ = r := by rw [seqS_pure h]; exact k
theorem whileS_inv {S : Type} {g : Rho → M Bool} {body : Rho → M Fl} (R : S → Rho) (I : S → Prop) (μ : S → Nat) (c : S → Bool) (hg : ∀ st, I st → g (R st) = pure (c st))
    (hb : ∀ st, I st → c st = true → ∃ st', body (R st) = pure (.nx (R st')) ∧ I st' ∧ μ st' < μ st) : ∀ st, I st → ∃ st', whileS g body (R st) = pure (.nx (R st')) ∧ I st' ∧ c st' = false := by
  have key : ∀ n st, I st → μ st < n → ∃ st', whileN n g body (R st) = pure (.nx (R st')) ∧ I st' ∧ c st' = false := by
    intro n
    induction n with
    | zero => intro st _ h; omega
    | succ n ih =>
      intro st hI hn
      unfold whileN
      rw [hg st hI, m_pure_bind]
      cases hc : c st with
      | false => exact ⟨st, by simp, hI, hc⟩
      | true =>
        obtain ⟨st1, e1, I1, m1⟩ := hb st hI hc
        obtain ⟨st2, e2, I2, c2⟩ := ih st1 I1 (by omega)
        exact ⟨st2, by rw [if_pos rfl, e1, m_pure_bind]; exact e2, I2, c2⟩
  intro st hI
  obtain ⟨st', e, I', c'⟩ := key (μ st + 1) st hI (by omega)
  refine ⟨st', ?_, I', c'⟩
  funext s
  have e' : whileN (μ st + 1) g body (R st) s = .ok (.nx (R st')) s := by rw [e]; rfl
  rw [whileS_of (n := μ st + 1) (by rw [e']; intro h; cases h), e']
  rfl
theorem dcL_map {α : Type} {tg : D → Rho → Option Rho} {tt : Rho → M Bool} {tk tv : Rho → M D} {ρ : Rho} (enc : α → D) (p : α → Bool) (k : α → Str) (v : α → D) : ∀ (l : List α) (acc : List (Key × D)),
    (∀ a ∈ l, ∃ ρ', tg (enc a) ρ = some ρ' ∧ tt ρ' = pure (p a) ∧ (p a = true → tk ρ' = pure (.str (k a)) ∧ tv ρ' = pure (v a))) → dcL tg tt tk tv ρ acc (l.map enc) = pure (mergeD acc ((l.filter p).map fun a => (.inr (k a), v a)))
  | [], acc, _ => rfl
  | a :: l, acc, h => by
    obtain ⟨ρ', h1, h2, h3⟩ := h a (by simp)
    have ih := dcL_map (tg := tg) (tt := tt) (tk := tk) (tv := tv) (ρ := ρ) enc p k v l
    rw [List.map_cons]
    unfold dcL
    rw [h1, opt_some, m_pure_bind, h2, m_pure_bind]
    cases hp : p a with
    | true =>
      obtain ⟨h4, h5⟩ := h3 hp
      rw [if_pos rfl, h4, m_pure_bind, h5, m_pure_bind]
      show (opt (some (Sum.inr (k a) : Key)) >>= _) = _
      rw [opt_some, m_pure_bind, ih _ fun b hb => h b (by simp [hb]), List.filter_cons_of_pos hp]
      rfl
    | false =>
      rw [if_neg (by simp), ih _ fun b hb => h b (by simp [hb]), List.filter_cons_of_neg (by simp [hp])]
theorem dcF_map {α : Type} {vs : List Nat} {fi : Rho → M (List D)} {tg : D → Rho → Option Rho} {tt : Rho → M Bool} {tk tv : Rho → M D} {ρ : Rho} (enc : α → D) (p : α → Bool) (k : α → Str) (v : α → D) (l : List α) (hi : fi ρ = pure (l.map enc))
    (h : ∀ a ∈ l, ∃ ρ', tg (enc a) (wipeR ρ vs) = some ρ' ∧ tt ρ' = pure (p a) ∧ (p a = true → tk ρ' = pure (.str (k a)) ∧ tv ρ' = pure (v a))) : dcF vs fi tg tt tk tv ρ = pure (.dct (mergeD [] ((l.filter p).map fun a => (.inr (k a), v a)))) := by
  unfold dcF
  rw [hi, m_pure_bind, dcL_map enc p k v l [] h, noE_pure, m_pure_bind]
theorem keys_put {acc : List (Key × D)} {K : List Str} (h : acc.map (·.1) = K.map .inr) (k : Str) (v : D) : (putD acc (.inr k) v).map (·.1) = (if k ∈ K then K else K ++ [k]).map .inr := by
  have e : (acc.any fun kv => decide (kv.1 = (.inr k : Key))) = decide (k ∈ K) := by
    have : (acc.any fun kv => decide (kv.1 = (.inr k : Key))) = ((acc.map (·.1)).any fun z => decide (z = (.inr k : Key))) := by rw [List.any_map]; rfl
    rw [this, h, List.any_map]
    clear this h
    induction K with
    | nil => rfl
    | cons x K ih =>
      rw [List.any_cons, ih]
      simp [Function.comp, eq_comm]
  unfold putD
  rw [e]
  by_cases q : k ∈ K
  · simp only [q, decide_true, if_true]
    rw [← h, List.map_map]
    apply List.map_congr_left
    intro a _
    simp only [Function.comp]
    split <;> rfl
  · simp [q, h]
theorem keys_merge {α : Type} (k : α → Str) (v : α → D) : ∀ (xs : List α) (acc : List (Key × D)) (K : List Str), acc.map (·.1) = K.map .inr → (mergeD acc (xs.map fun a => (.inr (k a), v a))).map (·.1) = (nubOn K (xs.map k)).map .inr
  | [], acc, K, h => h
  | x :: xs, acc, K, h => by
    show (mergeD (putD acc (.inr (k x)) (v x)) _).map _ = _
    rw [keys_merge k v xs _ _ (keys_put h (k x) (v x))]
    rfl
theorem keysD_merge {α : Type} (k : α → Str) (v : α → D) (xs : List α) : keysD [.dct (mergeD [] (xs.map fun a => (.inr (k a), v a)))] = some (.lst (sts (nubOn [] (xs.map k)))) := by
  have h := keys_merge k v xs [] [] rfl
  have e : (mergeD [] (xs.map fun a => ((.inr (k a) : Key), v a))).map (fun z => keyD z.1) = sts (nubOn [] (xs.map k)) := by
    have : (mergeD [] (xs.map fun a => ((.inr (k a) : Key), v a))).map (fun z => keyD z.1) = ((mergeD [] (xs.map fun a => ((.inr (k a) : Key), v a))).map (·.1)).map keyD := by rw [List.map_map]; rfl
    rw [this, h, List.map_map]
    rfl
  show some (D.lst _) = _
  rw [e]
theorem retS_go {f : Rho → M D} {ρ : Rho} {d : D} (h : f ρ = pure d) : retS f ρ = pure (.rt d) := retS_pure h
theorem parS_pure {i j : Nat} {fa fb : Rho → M D} {ρ : Rho} {a b : D} (ha : fa ρ = pure a) (hb : fb ρ = pure b) : parS i j fa fb ρ = pure (.nx ((ρ.set i (some a)).set j (some b))) := by
  unfold parS; rw [ha, m_pure_bind, hb, m_pure_bind]
theorem tst_pure {f : Rho → M D} {ρ : Rho} {b : Bool} (h : f ρ = pure (.bl b)) : tst f ρ = pure b := by unfold tst; rw [h, m_pure_bind, asBl_bl]
theorem andB_pure {f g : Rho → M Bool} {ρ : Rho} {a b : Bool} (h : f ρ = pure a) (k : a = true → g ρ = pure b) : andB f g ρ = pure (a && b) := by
  unfold andB; rw [h, m_pure_bind]; cases a with
  | true => rw [if_pos rfl, k rfl]; rfl
  | false => rfl
theorem orB_pure {f g : Rho → M Bool} {ρ : Rho} {a b : Bool} (h : f ρ = pure a) (k : a = false → g ρ = pure b) : orB f g ρ = pure (a || b) := by
  unfold orB; rw [h, m_pure_bind]; cases a with
  | false => simpa using k rfl
  | true => rfl
theorem notB_pure {f : Rho → M Bool} {ρ : Rho} {a : Bool} (h : f ρ = pure a) : notB f ρ = pure !a := by unfold notB; rw [h, m_pure_bind]
theorem lstF_pure {fs : Rho → M (List D)} {ρ : Rho} {l : List D} (h : fs ρ = pure l) (z : l.length ≤ 16000000) : lstF fs ρ = pure (.lst l) := by
  unfold lstF mkL; rw [h, m_pure_bind, if_pos (sz_of z)]
theorem tupF_pure {fs : Rho → M (List D)} {ρ : Rho} {l : List D} (h : fs ρ = pure l) (z : l.length ≤ 16000000) : tupF fs ρ = pure (.tup l) := by
  unfold tupF mkT; rw [h, m_pure_bind, if_pos (sz_of z)]
theorem consA_pure {f : Rho → M D} {g : Rho → M (List D)} {ρ : Rho} {d : D} {ds : List D} (h : f ρ = pure d) (k : g ρ = pure ds) : consA f g ρ = pure (d :: ds) := by
  unfold consA; rw [h, m_pure_bind, k, m_pure_bind]
theorem starA_pure {f : Rho → M D} {g : Rho → M (List D)} {ρ : Rho} {d : D} {l ds : List D} (h : f ρ = pure d) (q : seqOf d = some l) (k : g ρ = pure ds) : starA f g ρ = pure (l ++ ds) := by
  unfold starA; rw [h, m_pure_bind, q, opt_some, m_pure_bind, k, m_pure_bind]
theorem nilA_pure {ρ : Rho} : nilA ρ = pure [] := rfl
theorem callF_pure {g : List D → Option D} {fs : Rho → M (List D)} {ρ : Rho} {ds : List D} {z : D} (h : fs ρ = pure ds) (k : g ds = some z) : callF g fs ρ = pure z := by
  unfold callF; rw [h, m_pure_bind, k, opt_some]
theorem fnF_pure {n : Nat} {F : List D → M D} {dd : List D} {fs : Rho → M (List D)} {ρ : Rho} {ds : List D} {z : M D} (h : fs ρ = pure ds) (hn : (ds ++ dd).length = n) (k : F (ds ++ dd) = z) : fnF n F dd fs ρ = z := by
  unfold fnF callN; rw [h, m_pure_bind, if_pos hn, k]
theorem propF_pure {ci : Nat} {F : List D → M D} {f : Rho → M D} {ρ : Rho} {l : List D} {z : D} (h : f ρ = pure (.obj ci l)) (k : F [.obj ci l] = pure z) : propF ci F f ρ = pure z := by
  unfold propF; rw [h, m_pure_bind]; dsimp only; rw [if_pos rfl, k, noE_pure]
theorem fldF_pure {ci i : Nat} {f : Rho → M D} {ρ : Rho} {l : List D} {z : D} (h : f ρ = pure (.obj ci l)) (k : l[i]? = some z) : fldF ci i f ρ = pure z := by
  unfold fldF; rw [h, m_pure_bind]; dsimp only; rw [if_pos rfl, k, opt_some]
theorem methF_pure {ci n : Nat} {F : List D → M D} {dd : List D} {f : Rho → M D} {fs : Rho → M (List D)} {ρ : Rho} {l ds : List D} {z : M D} (h : f ρ = pure (.obj ci l)) (k : fs ρ = pure ds) (hn : (.obj ci l :: (ds ++ dd)).length = n) (e : F (.obj ci l :: (ds ++ dd)) = z) : methF ci n F dd f fs ρ = z := by
  unfold methF callN; rw [h, m_pure_bind]; dsimp only; rw [if_pos rfl, k, m_pure_bind, if_pos hn, e]
theorem seqF_pure {f : Rho → M D} {ρ : Rho} {d : D} {l : List D} (h : f ρ = pure d) (q : seqOf d = some l) : seqF f ρ = pure l := by
  unfold seqF; rw [h, m_pure_bind, q, opt_some]
theorem andV_pure {f g : Rho → M D} {ρ : Rho} {a b : Bool} (h : f ρ = pure (.bl a)) (k : a = true → g ρ = pure (.bl b)) : andV f g ρ = pure (.bl (a && b)) := by
  unfold andV; rw [h, m_pure_bind, asBl_bl, m_pure_bind]; cases a with
  | true => rw [if_pos rfl, k rfl]; rfl
  | false => rfl
theorem orV_pure {f g : Rho → M D} {ρ : Rho} {a b : Bool} (h : f ρ = pure (.bl a)) (k : a = false → g ρ = pure (.bl b)) : orV f g ρ = pure (.bl (a || b)) := by
  unfold orV; rw [h, m_pure_bind, asBl_bl, m_pure_bind]; cases a with
  | false => simpa using k rfl
  | true => rfl
theorem notV_pure {f : Rho → M D} {ρ : Rho} {a : Bool} (h : f ρ = pure (.bl a)) : notV f ρ = pure (.bl !a) := by unfold notV; rw [h, m_pure_bind, asBl_bl, m_pure_bind]
theorem forS_pure {fi : Rho → M (List D)} {tg : D → Rho → Option Rho} {body : Rho → M Fl} {ρ : Rho} {l : List D} {r : M Fl} (h : fi ρ = pure l) (k : forL tg body l ρ = r) : forS fi tg body ρ = r := by
  unfold forS; rw [h, m_pure_bind]; exact k
theorem tgtS_pure {g : D → Rho → Option Rho} {f : Rho → M D} {ρ ρ' : Rho} {d : D} (h : f ρ = pure d) (k : g d ρ = some ρ') : tgtS g f ρ = pure (.nx ρ') := by
  unfold tgtS; rw [h, m_pure_bind, k, opt_some, m_pure_bind]
theorem dropS_pure {f : Rho → M D} {ρ : Rho} {d : D} (h : f ρ = pure d) : dropS f ρ = pure (.nx ρ) := by
  unfold dropS; rw [h, m_pure_bind]
theorem isiF_pure {g : D → Option D} {f : Rho → M D} {ρ : Rho} {d z : D} (h : f ρ = pure d) (k : g d = some z) : isiF g f ρ = pure z := by
  unfold isiF; rw [h, m_pure_bind, k, opt_some]
theorem binS_pure {g : D → D → Option D} {fa fb : Rho → M D} {ρ : Rho} {x : Str} {e z : D} (ha : fa ρ = pure (.str x)) (hb : fb ρ = pure e) (hg : g (.str x) e = some z) : binS g fa fb ρ = pure z := by
  unfold binS
  exact bin_pure (by unfold isStr; rw [ha, m_pure_bind]) hb hg
theorem okS_k (x : Str) (h : x.cps.all (· < 0x110000) = true) : OkS x := h
theorem okAll_nil {p : Str → Prop} : ∀ x ∈ ([] : List Str), p x := by simp
theorem okAll_cons {α : Type} {p : α → Prop} {a : α} {l : List α} (h : p a) (k : ∀ x ∈ l, p x) : ∀ x ∈ a :: l, p x := by
  intro x hx
  rcases List.mem_cons.mp hx with e | e
  · rw [e]; exact h
  · exact k x e
theorem okAll_app {α : Type} {p : α → Prop} {l m : List α} (h : ∀ x ∈ l, p x) (k : ∀ x ∈ m, p x) : ∀ x ∈ l ++ m, p x := by
  intro x hx
  rcases List.mem_append.mp hx with e | e
  · exact h x e
  · exact k x e
theorem catD_ok {l m : List D} (h : l.length + m.length ≤ 16000000) : catD (.lst l) (.lst m) = some (.lst (l ++ m)) := by
  show (if _ then _ else _) = _
  rw [if_pos (sz_of h)]
theorem sts_app (l m : List Str) : sts l ++ sts m = sts (l ++ m) := by simp [sts]
theorem lanes_app (l m : List Lane) : lanes l ++ lanes m = lanes (l ++ m) := by simp [lanes]
theorem mem_ok {α : Type} {p : α → Prop} {l : List α} {x : α} (h : ∀ x ∈ l, p x) (k : x ∈ l) : p x := h x k
theorem fnF_pure0 {n : Nat} {F : List D → M D} {fs : Rho → M (List D)} {ρ : Rho} {ds : List D} {z : M D} (h : fs ρ = pure ds) (hn : ds.length = n) (k : F ds = z) : fnF n F [] fs ρ = z := by
  unfold fnF callN; rw [h, m_pure_bind, List.append_nil, if_pos hn, k]
theorem ev_to {α : Type} {x : M α} {a b : α} (h : x = pure a) (e : a = b) : x = pure b := e ▸ h
def IsMap {α : Type} (L : List D) (l : List α) (enc : α → D) : Prop := L = l.map enc
theorem isMap_sts (l : List Str) : IsMap (sts l) l (fun x => .str x) := rfl
theorem isMap_lanes (l : List Lane) : IsMap (lanes l) l laneD := rfl
theorem isMap_map {α : Type} (l : List α) (enc : α → D) : IsMap (l.map enc) l enc := rfl
def CompAt (tg : D → Rho → Option Rho) (tt : Rho → M Bool) (te : Rho → M D) (ρ : Rho) (d : D) (p : Bool) (o : D) : Prop := ∃ ρ', tg d ρ = some ρ' ∧ tt ρ' = pure p ∧ (p = true → te ρ' = pure o)
theorem compAt_mk {tg : D → Rho → Option Rho} {tt : Rho → M Bool} {te : Rho → M D} {ρ ρ' : Rho} {d : D} {p b : Bool} {o o' : D} (h1 : tg d ρ = some ρ') (h2 : tt ρ' = pure b) (h3 : b = true → te ρ' = pure o') (h4 : p = b) (h5 : o = o') : CompAt tg tt te ρ d p o :=
  ⟨ρ', h1, h4 ▸ h2, fun e => h5 ▸ h3 (h4 ▸ e)⟩
theorem lcF_ev {α : Type} {vs : List Nat} {fi : Rho → M (List D)} {tg : D → Rho → Option Rho} {tt : Rho → M Bool} {te : Rho → M D} {ρ : Rho} {L : List D} {l : List α} {enc out : α → D} {p : α → Bool} (hi : fi ρ = pure L) (hL : IsMap L l enc)
    (h : ∀ a, a ∈ l → CompAt tg tt te (wipeR ρ vs) (enc a) (p a) (out a)) : lcF vs fi tg tt te ρ = pure (.lst ((l.filter p).map out)) :=
  lcF_map enc p out l (hL ▸ hi) fun a ha => h a ha
theorem lcF_evS {α : Type} {vs : List Nat} {fi : Rho → M (List D)} {tg : D → Rho → Option Rho} {tt : Rho → M Bool} {te : Rho → M D} {ρ : Rho} {L : List D} {l : List α} {enc : α → D} {out : α → Str} {p : α → Bool} (hi : fi ρ = pure L) (hL : IsMap L l enc)
    (h : ∀ a, a ∈ l → CompAt tg tt te (wipeR ρ vs) (enc a) (p a) (.str (out a))) : lcF vs fi tg tt te ρ = pure (.lst (sts ((l.filter p).map out))) := by
  rw [lcF_ev hi hL h]; simp [sts, List.map_map]; rfl
theorem lcF_evL {α : Type} {vs : List Nat} {fi : Rho → M (List D)} {tg : D → Rho → Option Rho} {tt : Rho → M Bool} {te : Rho → M D} {ρ : Rho} {L : List D} {l : List α} {enc : α → D} {o1 o2 : α → Str} {p : α → Bool} (hi : fi ρ = pure L) (hL : IsMap L l enc)
    (h : ∀ a, a ∈ l → CompAt tg tt te (wipeR ρ vs) (enc a) (p a) (.tup [.str (o1 a), .str (o2 a)])) : lcF vs fi tg tt te ρ = pure (.lst (lanes ((l.filter p).map fun a => (o1 a, o2 a)))) := by
  rw [lcF_ev hi hL h]; simp [lanes, List.map_map]; rfl
theorem dcF_evS {α : Type} {vs : List Nat} {fi : Rho → M (List D)} {tg : D → Rho → Option Rho} {tt : Rho → M Bool} {tk tv : Rho → M D} {ρ : Rho} {L : List D} {l : List α} {enc : α → D} {k : α → Str} {v : α → D} {p : α → Bool} (hi : fi ρ = pure L) (hL : IsMap L l enc)
    (h : ∀ a, a ∈ l → CompAt tg tt tk (wipeR ρ vs) (enc a) (p a) (.str (k a)) ∧ CompAt tg tt tv (wipeR ρ vs) (enc a) (p a) (v a)) : dcF vs fi tg tt tk tv ρ = pure (.dct (mergeD [] ((l.filter p).map fun a => (.inr (k a), v a)))) := by
  refine dcF_map enc p k v l (hL ▸ hi) fun a ha => ?_
  obtain ⟨⟨r1, a1, a2, a3⟩, ⟨r2, b1, b2, b3⟩⟩ := h a ha
  rw [a1] at b1; cases b1
  exact ⟨r1, a1, a2, fun e => ⟨a3 e, b3 e⟩⟩
theorem okAll_map {α : Type} {q : Str → Prop} {l : List α} {p : α → Bool} {f : α → Str} (h : ∀ a, a ∈ l → q (f a)) : ∀ x ∈ (l.filter p).map f, q x := by
  intro x hx
  obtain ⟨a, ha, rfl⟩ := List.mem_map.mp hx
  exact h a (List.mem_filter.mp ha).1
theorem okAll_fil {α : Type} {q : α → Prop} {l : List α} {p : α → Bool} (h : ∀ a, a ∈ l → q a) : ∀ x ∈ l.filter p, q x := fun x hx => h x (List.mem_filter.mp hx).1
theorem okAll_nub {q : Str → Prop} {l : List Str} (h : ∀ a ∈ l, q a) : ∀ x ∈ nubOn [] l, q x := fun x hx => by
  rcases mem_nubOn.mp hx with e | e
  · simp at e
  · exact h x e
theorem ok_l1 {l : List Lane} {p : Lane} (h : ∀ p ∈ l, OkL p) (k : p ∈ l) : OkS p.1 := (h p k).1
theorem ok_l2 {l : List Lane} {p : Lane} (h : ∀ p ∈ l, OkL p) (k : p ∈ l) : OkS p.2 := (h p k).2
theorem seqS_rt' {f g : Rho → M Fl} {ρ : Rho} {d : D} (h : f ρ = pure (.rt d)) : seqS f g ρ = pure (.rt d) := seqS_pureR h
theorem skip_pure {ρ : Rho} : skip ρ = pure (.nx ρ) := rfl
theorem ifS_t {g : Rho → M Bool} {f h : Rho → M Fl} {ρ : Rho} {b : Bool} {r : M Fl} (hg : g ρ = pure b) (hb : b = true) (k : f ρ = r) : ifS g f h ρ = r := by
  unfold ifS; rw [hg, m_pure_bind, if_pos hb]; exact k
theorem ifS_f {g : Rho → M Bool} {f h : Rho → M Fl} {ρ : Rho} {b : Bool} {r : M Fl} (hg : g ρ = pure b) (hb : b = false) (k : h ρ = r) : ifS g f h ρ = r := by
  unfold ifS; rw [hg, m_pure_bind, if_neg (by simp [hb])]; exact k
theorem ifV_t {g : Rho → M Bool} {f h : Rho → M D} {ρ : Rho} {b : Bool} {r : M D} (hg : g ρ = pure b) (hb : b = true) (k : f ρ = r) : ifV g f h ρ = r := by
  unfold ifV; rw [hg, m_pure_bind, if_pos hb]; exact k
theorem ifV_f {g : Rho → M Bool} {f h : Rho → M D} {ρ : Rho} {b : Bool} {r : M D} (hg : g ρ = pure b) (hb : b = false) (k : h ρ = r) : ifV g f h ρ = r := by
  unfold ifV; rw [hg, m_pure_bind, if_neg (by simp [hb])]; exact k
theorem slcF_pure {g : D → Option Int → Option Int → Option D} {fa : Rho → M D} {fl fh : Rho → M (Option Int)} {ρ : Rho} {d z : D} {lo hi : Option Int} (h : fa ρ = pure d) (k : fl ρ = pure lo) (q : fh ρ = pure hi) (e : g d lo hi = some z) : slcF g fa fl fh ρ = pure z := by
  unfold slcF; rw [h, m_pure_bind, k, m_pure_bind, q, m_pure_bind, e, opt_some]
theorem partI_pure {f : Rho → M D} {ρ : Rho} {i : Int} (h : f ρ = pure (.int i)) : partI f ρ = pure (some i) := by
  unfold partI; rw [h, m_pure_bind, asInt_int, m_pure_bind]
theorem nilA_S {ρ : Rho} : nilA ρ = pure (sts []) := rfl
theorem consA_S {f : Rho → M D} {g : Rho → M (List D)} {ρ : Rho} {a : Str} {m : List Str} (h : f ρ = pure (.str a)) (k : g ρ = pure (sts m)) : consA f g ρ = pure (sts (a :: m)) := consA_pure h k
theorem starA_S {f : Rho → M D} {g : Rho → M (List D)} {ρ : Rho} {d : D} {l m : List Str} (h : f ρ = pure d) (q : seqOf d = some (sts l)) (k : g ρ = pure (sts m)) : starA f g ρ = pure (sts (l ++ m)) := by
  rw [starA_pure h q k, sts_app]
theorem starA_S1 {f : Rho → M D} {ρ : Rho} {d : D} {l : List Str} (h : f ρ = pure d) (q : seqOf d = some (sts l)) : starA f nilA ρ = pure (sts l) := by
  rw [starA_pure h q nilA_pure, List.append_nil]
theorem lstF_S {fs : Rho → M (List D)} {ρ : Rho} {l : List Str} (h : fs ρ = pure (sts l)) (z : l.length ≤ 16000000) : lstF fs ρ = pure (.lst (sts l)) := lstF_pure h (by simpa using z)
theorem tupF_S {fs : Rho → M (List D)} {ρ : Rho} {l : List Str} (h : fs ρ = pure (sts l)) (z : l.length ≤ 16000000) : tupF fs ρ = pure (.tup (sts l)) := tupF_pure h (by simpa using z)
theorem nilA_L {ρ : Rho} : nilA ρ = pure (lanes []) := rfl
theorem consA_L {f : Rho → M D} {g : Rho → M (List D)} {ρ : Rho} {a : Lane} {m : List Lane} (h : f ρ = pure (laneD a)) (k : g ρ = pure (lanes m)) : consA f g ρ = pure (lanes (a :: m)) := consA_pure h k
theorem starA_L {f : Rho → M D} {g : Rho → M (List D)} {ρ : Rho} {d : D} {l m : List Lane} (h : f ρ = pure d) (q : seqOf d = some (lanes l)) (k : g ρ = pure (lanes m)) : starA f g ρ = pure (lanes (l ++ m)) := by
  rw [starA_pure h q k, lanes_app]
theorem starA_L1 {f : Rho → M D} {ρ : Rho} {d : D} {l : List Lane} (h : f ρ = pure d) (q : seqOf d = some (lanes l)) : starA f nilA ρ = pure (lanes l) := by
  rw [starA_pure h q nilA_pure, List.append_nil]
theorem lstF_L {fs : Rho → M (List D)} {ρ : Rho} {l : List Lane} (h : fs ρ = pure (lanes l)) (z : l.length ≤ 16000000) : lstF fs ρ = pure (.lst (lanes l)) := lstF_pure h (by simpa using z)
theorem tupF_L {fs : Rho → M (List D)} {ρ : Rho} {l : List Lane} (h : fs ρ = pure (lanes l)) (z : l.length ≤ 16000000) : tupF fs ρ = pure (.tup (lanes l)) := tupF_pure h (by simpa using z)
theorem catD_S {l m : List Str} (h : l.length + m.length ≤ 16000000) : catD (.lst (sts l)) (.lst (sts m)) = some (.lst (sts (l ++ m))) := by
  rw [catD_ok (by simpa using h), sts_app]
theorem catD_L {l m : List Lane} (h : l.length + m.length ≤ 16000000) : catD (.lst (lanes l)) (.lst (lanes m)) = some (.lst (lanes (l ++ m))) := by
  rw [catD_ok (by simpa using h), lanes_app]
theorem cut_drop {α : Type} (xs : List α) (i : Int) (h : 0 ≤ i) : cutL xs (some i) none = xs.drop i.toNat := by
  unfold cutL
  have e : HT.sIx xs.length 0 (some i) = min i.toNat xs.length := by
    show (if i < 0 then (i + (xs.length : Int)).toNat else min i.toNat xs.length) = _
    rw [if_neg (by omega)]
  rw [e, HT.sIx_none]
  by_cases q : i.toNat ≤ xs.length
  · rw [Nat.min_eq_left q]
    apply List.take_of_length_le
    simp
  · rw [Nat.min_eq_right (by omega), List.drop_length, List.drop_of_length_le (by omega)]
    simp
theorem cut_take {α : Type} (xs : List α) (i : Int) (h : 0 ≤ i) : cutL xs none (some i) = xs.take i.toNat := by
  unfold cutL
  have e : HT.sIx xs.length xs.length (some i) = min i.toNat xs.length := by
    show (if i < 0 then (i + (xs.length : Int)).toNat else min i.toNat xs.length) = _
    rw [if_neg (by omega)]
  rw [e, HT.sIx_none, Nat.sub_zero, List.drop_zero]
  by_cases q : i.toNat ≤ xs.length
  · rw [Nat.min_eq_left q]
  · rw [Nat.min_eq_right (by omega), List.take_length, List.take_of_length_le (by omega)]
theorem sts_drop (l : List Str) (n : Nat) : (sts l).drop n = sts (l.drop n) := by simp [sts]
theorem sts_take (l : List Str) (n : Nat) : (sts l).take n = sts (l.take n) := by simp [sts]
theorem lanes_drop (l : List Lane) (n : Nat) : (lanes l).drop n = lanes (l.drop n) := by simp [lanes]
theorem lanes_take (l : List Lane) (n : Nat) : (lanes l).take n = lanes (l.take n) := by simp [lanes]
theorem slL_dS {l : List Str} (i : Int) (h : 0 ≤ i) : slcL (.lst (sts l)) (some i) none = some (.lst (sts (l.drop i.toNat))) := by
  show some (D.lst (cutL (sts l) (some i) none)) = _
  rw [cut_drop _ i h, sts_drop]
theorem slL_tS {l : List Str} (i : Int) (h : 0 ≤ i) : slcL (.lst (sts l)) none (some i) = some (.lst (sts (l.take i.toNat))) := by
  show some (D.lst (cutL (sts l) none (some i))) = _
  rw [cut_take _ i h, sts_take]
theorem slL_dL {l : List Lane} (i : Int) (h : 0 ≤ i) : slcL (.lst (lanes l)) (some i) none = some (.lst (lanes (l.drop i.toNat))) := by
  show some (D.lst (cutL (lanes l) (some i) none)) = _
  rw [cut_drop _ i h, lanes_drop]
theorem slL_tL {l : List Lane} (i : Int) (h : 0 ≤ i) : slcL (.lst (lanes l)) none (some i) = some (.lst (lanes (l.take i.toNat))) := by
  show some (D.lst (cutL (lanes l) none (some i))) = _
  rw [cut_take _ i h, lanes_take]
theorem slT_dS {l : List Str} (i : Int) (h : 0 ≤ i) : slcT (.tup (sts l)) (some i) none = some (.tup (sts (l.drop i.toNat))) := by
  show some (D.tup (cutL (sts l) (some i) none)) = _
  rw [cut_drop _ i h, sts_drop]
theorem slT_tS {l : List Str} (i : Int) (h : 0 ≤ i) : slcT (.tup (sts l)) none (some i) = some (.tup (sts (l.take i.toNat))) := by
  show some (D.tup (cutL (sts l) none (some i))) = _
  rw [cut_take _ i h, sts_take]
theorem slot_at {i : Nat} {ρ : Rho} {d : D} (h : ρ[i]? = some (some d)) : slot i ρ = pure d := by unfold slot; rw [h]
end VL
namespace VL
open PySem PySem.Spec PyProof.Rows L2 TL
local macro_rules | `(tactic| walk_at "ok") => `(tactic| first | assumption | solve_by_elim (maxDepth := 4) | exact okS_k _ (by decide +kernel) | (refine okAll_cons ?_ ?_ <;> walk_at "ok") | (refine okAll_app ?_ ?_ <;> walk_at "ok") | (refine ⟨?_, ?_⟩ <;> walk_at "ok") | exact okAll_nil | (refine okAll_nub ?_; walk_at "ok") | (refine okAll_map ?_; intro _ _; walk_at "ok") | (refine okAll_fil ?_; walk_at "ok") | (refine okAll_map0 ?_; intro _ _; walk_at "ok") | (refine okAll_drop ?_; walk_at "ok") | (refine okAll_take ?_; walk_at "ok") | (refine mem_ok (by assumption) ?_; first | assumption | (simp; done)) | (refine ok_l1 (by assumption) ?_; first | assumption | (simp; done)) | (refine ok_l2 (by assumption) ?_; first | assumption | (simp; done)) | solve_by_elim (maxDepth := 5) | (simp at *; solve_by_elim (maxDepth := 5)))
local macro_rules | `(tactic| walk_at "sz") => `(tactic| first | decide | assumption | (simp; done) | omega | (simp; omega) | (simp at *; omega))
local macro_rules | `(tactic| walk_at "op") => `(tactic| first | exact keysD_merge _ _ _ | exact len_LS | exact len_TS | exact len_LL | exact len_TL | exact any_map _ _ | exact all_map _ _ | exact slL_dS _ (by decide) | exact slL_tS _ (by decide) | exact slL_dL _ (by decide) | exact slL_tL _ (by decide) | exact slT_dS _ (by decide) | exact slT_tS _ (by decide) | rfl | assumption | exact in_strsL (by walk_at "ok") (by walk_at "ok") | exact in_strsT (by walk_at "ok") (by walk_at "ok") | exact notIn_strsL (by walk_at "ok") (by walk_at "ok") | exact notIn_strsT (by walk_at "ok") (by walk_at "ok") | exact in_lanesL (by walk_at "ok") (by walk_at "ok") | exact in_lanesT (by walk_at "ok") (by walk_at "ok") | exact notIn_lanesL (by walk_at "ok") (by walk_at "ok") | exact notIn_lanesT (by walk_at "ok") (by walk_at "ok") | exact ne_nilS (by walk_at "ok") | exact ne_str (by walk_at "ok") (by walk_at "ok") | exact eq_str (by walk_at "ok") (by walk_at "ok") | exact eq_int _ _ | exact ne_int _ _ | exact catD_S (by walk_at "sz") | exact catD_L (by walk_at "sz") | exact catD_ok (by walk_at "sz") | exact keysD_merge _ _ _ | (apply_assumption <;> first | assumption | walk_at "ok" | walk_at "sz"))
local macro_rules | `(tactic| walk_at "im") => `(tactic| first | exact isMap_sts _ | exact isMap_lanes _ | exact isMap_map _ _)
local macro_rules | `(tactic| walk_at "ca") => `(tactic| (intro a_ ha_; apply compAt_mk; rfl; (walk_at "ev"); (intro _; walk_at "ev"); rfl; rfl))
local macro_rules | `(tactic| walk_at "ca2") => `(tactic| (intro a_ ha_; constructor; (apply compAt_mk; rfl; (walk_at "ev"); (intro _; walk_at "ev"); rfl; rfl); (apply compAt_mk; rfl; (walk_at "ev"); (intro _; walk_at "ev"); rfl; rfl)))
local macro_rules | `(tactic| walk_at "ev") => `(tactic| first | assumption | ((with_reducible apply slot_at); rfl) | with_reducible rfl | exact nilA_pure | ((with_reducible apply tst_pure); walk_at "ev") | ((with_reducible apply bin_pure); (walk_at "ev"); (walk_at "ev"); (walk_at "op")) | ((with_reducible apply binS_pure); (walk_at "ev"); (walk_at "ev"); (walk_at "op")) | ((with_reducible apply andB_pure); (walk_at "ev"); (intro _; walk_at "ev")) | ((with_reducible apply orB_pure); (walk_at "ev"); (intro _; walk_at "ev")) | ((with_reducible apply notB_pure); walk_at "ev") | ((with_reducible apply andV_pure); (walk_at "ev"); (intro _; walk_at "ev")) | ((with_reducible apply orV_pure); (walk_at "ev"); (intro _; walk_at "ev")) | ((with_reducible apply notV_pure); walk_at "ev") | ((with_reducible apply lstF_S); (walk_at "evS"); (walk_at "sz")) | ((with_reducible apply lstF_L); (walk_at "evL"); (walk_at "sz")) | ((with_reducible apply lstF_pure); (walk_at "ev"); (walk_at "sz")) | ((with_reducible apply tupF_S); (walk_at "evS"); (walk_at "sz")) | ((with_reducible apply tupF_L); (walk_at "evL"); (walk_at "sz")) | ((with_reducible apply tupF_pure); (walk_at "ev"); (walk_at "sz")) | ((with_reducible apply consA_pure); (walk_at "ev"); (walk_at "ev")) | ((with_reducible apply starA_pure); (walk_at "ev"); (walk_at "op"); (walk_at "ev")) | ((with_reducible apply callF_pure); (walk_at "ev"); (walk_at "op")) | ((with_reducible apply seqF_pure); (walk_at "ev"); (walk_at "op")) | ((with_reducible apply isiF_pure); (walk_at "ev"); (walk_at "op")) | ((with_reducible apply fldF_pure); (walk_at "ev"); rfl) | ((with_reducible apply propF_pure); (walk_at "ev"); (walk_at "op")) | ((with_reducible apply fnF_pure); (walk_at "ev"); rfl; (walk_at "op")) | ((with_reducible apply fnF_pure0); (walk_at "ev"); rfl; (walk_at "op")) | ((with_reducible apply lcF_ev0S); (walk_at "ev"); (walk_at "im"); (walk_at "ca")) | ((with_reducible apply lcF_ev0L); (walk_at "ev"); (walk_at "im"); (walk_at "ca")) | ((with_reducible apply lcF_ev0); (walk_at "ev"); (walk_at "im"); (walk_at "ca")) | ((with_reducible apply lcF_evS); (walk_at "ev"); (walk_at "im"); (walk_at "ca")) | ((with_reducible apply lcF_evL); (walk_at "ev"); (walk_at "im"); (walk_at "ca")) | ((with_reducible apply lcF_ev); (walk_at "ev"); (walk_at "im"); (walk_at "ca")) | ((with_reducible apply dcF_evS); (walk_at "ev"); (walk_at "im"); (walk_at "ca2")) | ((with_reducible apply slcF_pure); (walk_at "ev"); (walk_at "ev"); (walk_at "ev"); (walk_at "op")) | ((with_reducible apply partI_pure); (walk_at "ev")) | rfl)
local macro_rules | `(tactic| walk_at "evS") => `(tactic| first | assumption | exact nilA_S | ((with_reducible apply consA_S); (walk_at "ev"); (walk_at "evS")) | ((with_reducible apply starA_S1); (walk_at "ev"); (walk_at "op")) | ((with_reducible apply starA_S); (walk_at "ev"); (walk_at "op"); (walk_at "evS")))
local macro_rules | `(tactic| walk_at "evL") => `(tactic| first | assumption | exact nilA_L | ((with_reducible apply consA_L); (walk_at "ev"); (walk_at "evL")) | ((with_reducible apply starA_L1); (walk_at "ev"); (walk_at "op")) | ((with_reducible apply starA_L); (walk_at "ev"); (walk_at "op"); (walk_at "evL")))
local macro_rules | `(tactic| walk_at "st") => `(tactic| first | ((with_reducible apply seqS_go); (walk_at "st"); (walk_at "st")) | ((with_reducible apply setS_pure); walk_at "ev") | ((with_reducible apply retS_go); walk_at "ev") | ((with_reducible apply parS_pure); (walk_at "ev"); (walk_at "ev")) | exact skip_pure | ((with_reducible apply extS_S); (walk_at "ev"); (walk_at "ev"); (walk_at "sz")) | ((with_reducible apply extS_L); (walk_at "ev"); (walk_at "ev"); (walk_at "sz")) | ((with_reducible apply appS_pure); (walk_at "ev"); (walk_at "ev"); (walk_at "sz")) | ((with_reducible apply tgtS_pure); (walk_at "ev"); rfl) | ((with_reducible apply dropS_pure); walk_at "ev"))
local macro_rules | `(tactic| walk_at "evt") => `(tactic| (apply ev_to; (walk_at "ev"); rfl))
def ComersOk (t : List D → M D) : Prop := ∀ (d : D) (ls : List Lane) (g : Str) (gone : List Str), seqOf d = some (lanes ls) → (∀ p ∈ ls, OkL p) → OkS g → (∀ x ∈ gone, OkS x) → ls.length ≤ 1000 → gone.length ≤ 1000 →
  ∃ F : List Str, t [d, .str g, .tup (sts gone)] = pure (.lst (sts F)) ∧ (∀ x, Comes ls g gone x ↔ x ∈ g :: F) ∧ (g :: F).Nodup ∧ F.length ≤ ls.length
theorem comers_ok : ComersOk (runD 7 LB_comers) := by
  intro d ls g gone hd hls hg hgone h1 h2
  let R : List Str × List Str × Option D × Option D → Rho := fun st => [some d, some (.str g), some (.tup (sts gone)), some (.lst (sts st.1)), some (.lst (sts st.2.1)), st.2.2.1, st.2.2.2]
  have okI : ∀ st : List Str × List Str, ComInv ls g gone st → (∀ x ∈ st.1, OkS x) ∧ (∀ x ∈ st.2, OkS x) := fun st I => by
    have k : ∀ x ∈ st.1 ++ st.2, OkS x := fun x hx => by
      rcases comes_start (I.sound x hx) with h | h
      · rw [h]; exact hg
      · obtain ⟨p, hp, rfl⟩ := List.mem_map.mp h
        exact (hls p hp).1
    exact ⟨fun x hx => k x (List.mem_append_left _ hx), fun x hx => k x (List.mem_append_right _ hx)⟩
  obtain ⟨st, e, I, c⟩ := whileS_inv (g := tst (bin neD (slot 4) (lstF nilA))) (body := seqS (setS 3 (lstF (starA (slot 3) (starA (slot 4) nilA))))
         (setS 4 (callF keysD (consA (dcF [5, 6] (seqF (slot 0)) (tgT 2 (tgCons (tgN 5) (tgCons (tgN 6) tgNil))) (andB (tst (bin inD (slot 6) (slot 4))) (tst (bin notInD (slot 5) (lstF (starA (slot 3) (starA (slot 2) nilA)))))) (slot 5) (fun _ => pure (.bl true))) nilA)))) R
    (fun st => ComInv ls g gone (st.1, st.2.1)) (fun st => if st.2.1 = [] then 0 else ls.length + 2 - st.1.length) (fun st => !st.2.1.isEmpty)
    (fun st I => by
      obtain ⟨o1, o2⟩ := okI _ I
      simp only [R]
      walk_at "ev")
    (fun st I hc => by
      obtain ⟨o1, o2⟩ := okI _ I
      have hl := I.len
      have hl' := I.step.len
      have hne : st.2.1 ≠ [] := by intro h; rw [h] at hc; simp at hc
      have hpos : 0 < st.2.1.length := List.length_pos_iff.mpr hne
      refine ⟨(st.1 ++ st.2.1, moreOf ls gone (st.1 ++ st.2.1) st.2.1, st.2.2.1, st.2.2.2), ?_, I.step, ?_⟩
      · refine seqS_go (setS_pure (d := .lst (sts (st.1 ++ st.2.1))) ?_) ?_
        · rw [← sts_app, ← List.append_nil (sts st.2.1)]
          simp only [R]
          have z : (sts st.1 ++ (sts st.2.1 ++ [])).length ≤ 16000000 := by simp at *; omega
          exact lstF_pure (starA_pure rfl rfl (starA_pure rfl rfl rfl)) z
        · have z : st.1.length + st.2.1.length ≤ 10000 := by simp at *; omega
          have z2 : st.1.length + st.2.1.length + gone.length ≤ 100000 := by omega
          show setS 4 _ [some d, some (.str g), some (.tup (sts gone)), some (.lst (sts (st.1 ++ st.2.1))), some (.lst (sts st.2.1)), st.2.2.1, st.2.2.2] = _
          refine Eq.trans (by walk_at "st") ?_
          rfl
      · have e : (st.1 ++ st.2.1).length = st.1.length + st.2.1.length := by simp
        simp only [if_neg hne]
        simp only [comStep, List.length_append] at hl hl'
        split <;> omega) ([], [g], none, none) (ComInv.start ls g gone)
  have he : st.2.1 = [] := by simpa using c
  have hd1 := ComInv.done (F := st.1) (by rw [← he]; exact I)
  obtain ⟨F, hF⟩ := I.head
  rw [he, List.append_nil] at hF
  have hn := I.nd
  have hlen := I.len
  rw [he, List.append_nil, hF] at hn
  rw [hF] at hd1
  have hlF : F.length ≤ ls.length := by
    have := congrArg List.length hF
    have h2 := congrArg List.length he
    simp at this hlen h2
    omega
  refine ⟨F, ?_, hd1, hn, hlF⟩
  refine runD_pure ?_
  refine seqS_go (parS_pure (a := .lst (sts [])) (b := .lst (sts [g])) (by walk_at "ev") (by walk_at "ev")) ?_
  refine seqS_go e ?_
  show retS _ [some d, some (.str g), some (.tup (sts gone)), some (.lst (sts st.1)), some (.lst (sts st.2.1)), st.2.2.1, st.2.2.2] = _
  rw [hF]
  refine Eq.trans (by walk_at "st") ?_
  rfl
end VL
namespace VL
open PySem PySem.Spec PyProof.Rows L2 TL
local macro_rules | `(tactic| walk_at "ok") => `(tactic| first | assumption | solve_by_elim (maxDepth := 4) | exact okS_k _ (by decide +kernel) | (refine okAll_cons ?_ ?_ <;> walk_at "ok") | (refine okAll_app ?_ ?_ <;> walk_at "ok") | (refine ⟨?_, ?_⟩ <;> walk_at "ok") | exact okAll_nil | (refine okAll_nub ?_; walk_at "ok") | (refine okAll_map ?_; intro _ _; walk_at "ok") | (refine okAll_fil ?_; walk_at "ok") | (refine okAll_map0 ?_; intro _ _; walk_at "ok") | (refine okAll_drop ?_; walk_at "ok") | (refine okAll_take ?_; walk_at "ok") | (refine mem_ok (by assumption) ?_; first | assumption | (simp; done)) | (refine ok_l1 (by assumption) ?_; first | assumption | (simp; done)) | (refine ok_l2 (by assumption) ?_; first | assumption | (simp; done)) | solve_by_elim (maxDepth := 5) | (simp at *; solve_by_elim (maxDepth := 5)))
local macro_rules | `(tactic| walk_at "sz") => `(tactic| first | decide | assumption | (simp; done) | omega | (simp; omega) | (simp at *; omega))
local macro_rules | `(tactic| walk_at "op") => `(tactic| first | exact keysD_merge _ _ _ | exact len_LS | exact len_TS | exact len_LL | exact len_TL | exact any_map _ _ | exact all_map _ _ | exact slL_dS _ (by decide) | exact slL_tS _ (by decide) | exact slL_dL _ (by decide) | exact slL_tL _ (by decide) | exact slT_dS _ (by decide) | exact slT_tS _ (by decide) | rfl | assumption | exact in_strsL (by walk_at "ok") (by walk_at "ok") | exact in_strsT (by walk_at "ok") (by walk_at "ok") | exact notIn_strsL (by walk_at "ok") (by walk_at "ok") | exact notIn_strsT (by walk_at "ok") (by walk_at "ok") | exact in_lanesL (by walk_at "ok") (by walk_at "ok") | exact in_lanesT (by walk_at "ok") (by walk_at "ok") | exact notIn_lanesL (by walk_at "ok") (by walk_at "ok") | exact notIn_lanesT (by walk_at "ok") (by walk_at "ok") | exact ne_nilS (by walk_at "ok") | exact ne_str (by walk_at "ok") (by walk_at "ok") | exact eq_str (by walk_at "ok") (by walk_at "ok") | exact eq_int _ _ | exact ne_int _ _ | exact catD_S (by walk_at "sz") | exact catD_L (by walk_at "sz") | exact catD_ok (by walk_at "sz") | exact keysD_merge _ _ _ | (apply_assumption <;> first | assumption | walk_at "ok" | walk_at "sz"))
local macro_rules | `(tactic| walk_at "im") => `(tactic| first | exact isMap_sts _ | exact isMap_lanes _ | exact isMap_map _ _)
local macro_rules | `(tactic| walk_at "ca") => `(tactic| (intro a_ ha_; apply compAt_mk; rfl; (walk_at "ev"); (intro _; walk_at "ev"); rfl; rfl))
local macro_rules | `(tactic| walk_at "ca2") => `(tactic| (intro a_ ha_; constructor; (apply compAt_mk; rfl; (walk_at "ev"); (intro _; walk_at "ev"); rfl; rfl); (apply compAt_mk; rfl; (walk_at "ev"); (intro _; walk_at "ev"); rfl; rfl)))
local macro_rules | `(tactic| walk_at "ev") => `(tactic| first | assumption | ((with_reducible apply slot_at); rfl) | with_reducible rfl | exact nilA_pure | ((with_reducible apply tst_pure); walk_at "ev") | ((with_reducible apply bin_pure); (walk_at "ev"); (walk_at "ev"); (walk_at "op")) | ((with_reducible apply binS_pure); (walk_at "ev"); (walk_at "ev"); (walk_at "op")) | ((with_reducible apply andB_pure); (walk_at "ev"); (intro _; walk_at "ev")) | ((with_reducible apply orB_pure); (walk_at "ev"); (intro _; walk_at "ev")) | ((with_reducible apply notB_pure); walk_at "ev") | ((with_reducible apply andV_pure); (walk_at "ev"); (intro _; walk_at "ev")) | ((with_reducible apply orV_pure); (walk_at "ev"); (intro _; walk_at "ev")) | ((with_reducible apply notV_pure); walk_at "ev") | ((with_reducible apply lstF_S); (walk_at "evS"); (walk_at "sz")) | ((with_reducible apply lstF_L); (walk_at "evL"); (walk_at "sz")) | ((with_reducible apply lstF_pure); (walk_at "ev"); (walk_at "sz")) | ((with_reducible apply tupF_S); (walk_at "evS"); (walk_at "sz")) | ((with_reducible apply tupF_L); (walk_at "evL"); (walk_at "sz")) | ((with_reducible apply tupF_pure); (walk_at "ev"); (walk_at "sz")) | ((with_reducible apply consA_pure); (walk_at "ev"); (walk_at "ev")) | ((with_reducible apply starA_pure); (walk_at "ev"); (walk_at "op"); (walk_at "ev")) | ((with_reducible apply callF_pure); (walk_at "ev"); (walk_at "op")) | ((with_reducible apply seqF_pure); (walk_at "ev"); (walk_at "op")) | ((with_reducible apply isiF_pure); (walk_at "ev"); (walk_at "op")) | ((with_reducible apply fldF_pure); (walk_at "ev"); rfl) | ((with_reducible apply propF_pure); (walk_at "ev"); (walk_at "op")) | ((with_reducible apply fnF_pure); (walk_at "ev"); rfl; (walk_at "op")) | ((with_reducible apply fnF_pure0); (walk_at "ev"); rfl; (walk_at "op")) | ((with_reducible apply lcF_ev0S); (walk_at "ev"); (walk_at "im"); (walk_at "ca")) | ((with_reducible apply lcF_ev0L); (walk_at "ev"); (walk_at "im"); (walk_at "ca")) | ((with_reducible apply lcF_ev0); (walk_at "ev"); (walk_at "im"); (walk_at "ca")) | ((with_reducible apply lcF_evS); (walk_at "ev"); (walk_at "im"); (walk_at "ca")) | ((with_reducible apply lcF_evL); (walk_at "ev"); (walk_at "im"); (walk_at "ca")) | ((with_reducible apply lcF_ev); (walk_at "ev"); (walk_at "im"); (walk_at "ca")) | ((with_reducible apply dcF_evS); (walk_at "ev"); (walk_at "im"); (walk_at "ca2")) | ((with_reducible apply slcF_pure); (walk_at "ev"); (walk_at "ev"); (walk_at "ev"); (walk_at "op")) | ((with_reducible apply partI_pure); (walk_at "ev")) | rfl)
local macro_rules | `(tactic| walk_at "evS") => `(tactic| first | assumption | exact nilA_S | ((with_reducible apply consA_S); (walk_at "ev"); (walk_at "evS")) | ((with_reducible apply starA_S1); (walk_at "ev"); (walk_at "op")) | ((with_reducible apply starA_S); (walk_at "ev"); (walk_at "op"); (walk_at "evS")))
local macro_rules | `(tactic| walk_at "evL") => `(tactic| first | assumption | exact nilA_L | ((with_reducible apply consA_L); (walk_at "ev"); (walk_at "evL")) | ((with_reducible apply starA_L1); (walk_at "ev"); (walk_at "op")) | ((with_reducible apply starA_L); (walk_at "ev"); (walk_at "op"); (walk_at "evL")))
local macro_rules | `(tactic| walk_at "st") => `(tactic| first | ((with_reducible apply seqS_go); (walk_at "st"); (walk_at "st")) | ((with_reducible apply setS_pure); walk_at "ev") | ((with_reducible apply retS_go); walk_at "ev") | ((with_reducible apply parS_pure); (walk_at "ev"); (walk_at "ev")) | exact skip_pure | ((with_reducible apply extS_S); (walk_at "ev"); (walk_at "ev"); (walk_at "sz")) | ((with_reducible apply extS_L); (walk_at "ev"); (walk_at "ev"); (walk_at "sz")) | ((with_reducible apply appS_pure); (walk_at "ev"); (walk_at "ev"); (walk_at "sz")) | ((with_reducible apply tgtS_pure); (walk_at "ev"); rfl) | ((with_reducible apply dropS_pure); walk_at "ev"))
local macro_rules | `(tactic| walk_at "evt") => `(tactic| (apply ev_to; (walk_at "ev"); rfl))
def LcomersOk (t : List D → M D) : Prop := ∀ (L : Lore) (gone : List Str), (∀ x ∈ L.g :: L.hs, OkS x) → (∀ p ∈ L.ls, OkL p) → (∀ x ∈ gone, OkS x) → L.ls.length ≤ 1000 → gone.length ≤ 1000 → L.hs.length ≤ 1000 →
  t [loreD L, .lst (sts gone)] = pure (.lst (sts (L.hs.filter fun x => comB L.ls L.g gone x)))
theorem filter_nil {α : Type} [DecidableEq α] {ls : List (α × α)} {gone here : List α} (h : lmoreOf ls gone here = []) : here ++ (lmoreOf ls gone here).take 1 = here := by rw [h]; simp
theorem l_comers_ok : LcomersOk (runD 8 LB_l_comers) := by
  intro L gone hn hls hgone h1 h2 h3
  have g1 := get_gate L
  have g2 := get_houses L
  have g3 := get_lanes L
  have hg : OkS L.g := hn _ (by simp)
  have hhs : ∀ x ∈ L.hs, OkS x := fun x hx => hn x (by simp [hx])
  let R : List Str × Bool × Option D × Option D × Option D → Rho := fun st => [some (loreD L), some (.lst (sts gone)), some (.lst (sts st.1)), some (.bl st.2.1), st.2.2.1, st.2.2.2.1, st.2.2.2.2, none]
  have okI : ∀ here : List Str, LcomInv L.ls L.g gone here → (∀ x ∈ here, OkS x) := fun here I x hx => by
    rcases comes_start (I.sound x hx) with h | h
    · rw [h]; exact hg
    · obtain ⟨p, hp, rfl⟩ := List.mem_map.mp h
      exact (hls p hp).1
  obtain ⟨st, e, I, c⟩ := whileS_inv (g := tst (slot 3)) (body := (seqS (setS 4 (lcF [5, 6] (seqF (bin getD' (slot 0) (fun _ => pure (.str "lanes")))) (tgT 2 (tgCons (tgN 5) (tgCons (tgN 6) tgNil))) (andB (tst (bin inD (slot 6) (slot 2))) (andB (tst (bin notInD (slot 5) (slot 2))) (tst (bin notInD (slot 5) (slot 1))))) (slot 5))) (seqS (setS 2 (bin catD (slot 2) (slcF slcL (slot 4) (fun _ => pure none) (partI (fun _ => pure (.int 1)))))) (setS 3 (bin neD (slot 4) (lstF nilA)))))) R
    (fun st => LcomInv L.ls L.g gone st.1 ∧ (st.2.1 = false → lmoreOf L.ls gone st.1 = [])) (fun st => if st.2.1 then L.ls.length + 3 - st.1.length else 0) (fun st => st.2.1)
    (fun st I => by simp only [R]; walk_at "ev")
    (fun st ⟨I, _⟩ hc => by
      have o1 := okI _ I
      have hl := I.len
      have hl' := I.step.len
      have z1 : st.1.length + ((lmoreOf L.ls gone st.1).take 1).length ≤ 10000 := by simp at *; omega
      refine ⟨(st.1 ++ (lmoreOf L.ls gone st.1).take 1, !(lmoreOf L.ls gone st.1).isEmpty, some (.lst (sts (lmoreOf L.ls gone st.1))), st.2.2.2.1, st.2.2.2.2), ?_, ⟨I.step, fun h => ?_⟩, ?_⟩
      · simp only [R]
        refine seqS_go (setS_pure (d := .lst (sts (lmoreOf L.ls gone st.1))) (by walk_at "evt")) ?_
        have o2 : ∀ x ∈ lmoreOf L.ls gone st.1, OkS x := fun x hx => by
          obtain ⟨e, _, h, _⟩ := mem_lmoreOf.mp hx
          exact (hls _ h).1
        refine Eq.trans (by walk_at "st") ?_
        rfl
      · have h : lmoreOf L.ls gone st.1 = [] := by simpa using h
        rw [filter_nil h]; exact h
      · simp only [hc, if_true]
        cases h : lmoreOf L.ls gone st.1 with
        | nil => simp; omega
        | cons x l => simp; omega) ([L.g], true, none, none, none) ⟨LcomInv.start L.ls L.g gone, fun h => by cases h⟩
  obtain ⟨I, hI⟩ := I
  have hd := I.done (hI c)
  have o1 := okI _ I
  refine runD_pure ?_
  refine seqS_go (parS_pure (a := .lst (sts [L.g])) (b := .bl true) (by walk_at "ev") (by walk_at "ev")) ?_
  refine seqS_go e ?_
  show retS _ [some (loreD L), some (.lst (sts gone)), some (.lst (sts st.1)), some (.bl st.2.1), st.2.2.1, st.2.2.2.1, st.2.2.2.2, none] = _
  refine Eq.trans (by walk_at "st") ?_
  have : (fun x => comB L.ls L.g gone x) = fun x => decide (x ∈ st.1) := by
    funext x
    exact comB_mem hd
  rw [this]
  simp
end VL
namespace VL
open PySem PySem.Spec PyProof.Rows L2 TL
theorem len_LS {l : List Str} : lenD [.lst (sts l)] = some (.int (l.length : Nat)) := by simp [lenD]
theorem len_TS {l : List Str} : lenD [.tup (sts l)] = some (.int (l.length : Nat)) := by simp [lenD]
theorem len_LL {l : List Lane} : lenD [.lst (lanes l)] = some (.int (l.length : Nat)) := by simp [lenD]
theorem len_TL {l : List Lane} : lenD [.tup (lanes l)] = some (.int (l.length : Nat)) := by simp [lenD]
theorem any_map {α : Type} (l : List α) (f : α → Bool) : anyD [.lst (l.map fun a => .bl (f a))] = some (.bl (l.any f)) := by
  show (boolsOf _).map _ = _
  have := boolsOf_map (l.map f)
  rw [List.map_map] at this
  rw [show (l.map fun a => D.bl (f a)) = l.map (D.bl ∘ f) from rfl, this]
  simp
theorem all_map {α : Type} (l : List α) (f : α → Bool) : allD [.lst (l.map fun a => .bl (f a))] = some (.bl (l.all f)) := by
  show (boolsOf _).map _ = _
  have := boolsOf_map (l.map f)
  rw [List.map_map] at this
  rw [show (l.map fun a => D.bl (f a)) = l.map (D.bl ∘ f) from rfl, this]
  simp
theorem minL3 (a b c : Int) : ∃ m, minLD [.lst [.int a, .int b, .int c]] = some (.int m) ∧ (m = a ∨ m = b ∨ m = c) ∧ m ≤ a ∧ m ≤ b ∧ m ≤ c := by
  refine ⟨minI [a, b, c], rfl, ?_⟩
  have h1 := minI_mem (l := [a, b, c]) (by simp)
  simp at h1
  exact ⟨h1, minI_le (by simp), minI_le (by simp), minI_le (by simp)⟩
theorem extS_S {i : Nat} {f : Rho → M D} {ρ : Rho} {l m : List Str} (h : slot i ρ = pure (.lst (sts l))) (k : f ρ = pure (.lst (sts m))) (z : l.length + m.length ≤ 16000000) : extS i f ρ = pure (.nx (ρ.set i (some (.lst (sts (l ++ m)))))) := by
  have z' : (sts l).length + (sts m).length ≤ sizeLine := sz_of (by simpa using z)
  unfold extS
  rw [h, m_pure_bind, asLst_lst, m_pure_bind, k, m_pure_bind, asLst_lst, m_pure_bind, m_pure_bind, asLst_lst, m_pure_bind, if_pos z', sts_app]
theorem extS_L {i : Nat} {f : Rho → M D} {ρ : Rho} {l m : List Lane} (h : slot i ρ = pure (.lst (lanes l))) (k : f ρ = pure (.lst (lanes m))) (z : l.length + m.length ≤ 16000000) : extS i f ρ = pure (.nx (ρ.set i (some (.lst (lanes (l ++ m)))))) := by
  have z' : (lanes l).length + (lanes m).length ≤ sizeLine := sz_of (by simpa using z)
  unfold extS
  rw [h, m_pure_bind, asLst_lst, m_pure_bind, k, m_pure_bind, asLst_lst, m_pure_bind, m_pure_bind, asLst_lst, m_pure_bind, if_pos z', lanes_app]
theorem appS_pure {i : Nat} {f : Rho → M D} {ρ : Rho} {l : List D} {d : D} (h : slot i ρ = pure (.lst l)) (k : f ρ = pure d) (z : l.length < 16000000) : appS i f ρ = pure (.nx (ρ.set i (some (.lst (l ++ [d]))))) := by
  have z' : l.length < sizeLine := Nat.lt_of_lt_of_le z (sz_of (Nat.le_refl _))
  unfold appS
  rw [h, m_pure_bind, asLst_lst, m_pure_bind, k, m_pure_bind, m_pure_bind, asLst_lst, m_pure_bind, if_pos z']
theorem lcF_ev0 {α : Type} {vs : List Nat} {fi : Rho → M (List D)} {tg : D → Rho → Option Rho} {te : Rho → M D} {ρ : Rho} {L : List D} {l : List α} {enc out : α → D} (hi : fi ρ = pure L) (hL : IsMap L l enc)
    (h : ∀ a, a ∈ l → CompAt tg (fun _ => pure true) te (wipeR ρ vs) (enc a) true (out a)) : lcF vs fi tg (fun _ => pure true) te ρ = pure (.lst (l.map out)) := by
  rw [lcF_ev (p := fun _ => true) hi hL h, List.filter_eq_self.mpr fun _ _ => rfl]
theorem lcF_ev0S {α : Type} {vs : List Nat} {fi : Rho → M (List D)} {tg : D → Rho → Option Rho} {te : Rho → M D} {ρ : Rho} {L : List D} {l : List α} {enc : α → D} {out : α → Str} (hi : fi ρ = pure L) (hL : IsMap L l enc)
    (h : ∀ a, a ∈ l → CompAt tg (fun _ => pure true) te (wipeR ρ vs) (enc a) true (.str (out a))) : lcF vs fi tg (fun _ => pure true) te ρ = pure (.lst (sts (l.map out))) := by
  rw [lcF_ev0 hi hL h]; simp [sts, List.map_map]; rfl
theorem lcF_ev0L {α : Type} {vs : List Nat} {fi : Rho → M (List D)} {tg : D → Rho → Option Rho} {te : Rho → M D} {ρ : Rho} {L : List D} {l : List α} {enc : α → D} {o1 o2 : α → Str} (hi : fi ρ = pure L) (hL : IsMap L l enc)
    (h : ∀ a, a ∈ l → CompAt tg (fun _ => pure true) te (wipeR ρ vs) (enc a) true (.tup [.str (o1 a), .str (o2 a)])) : lcF vs fi tg (fun _ => pure true) te ρ = pure (.lst (lanes (l.map fun a => (o1 a, o2 a)))) := by
  rw [lcF_ev0 hi hL h]; simp [lanes, List.map_map]; rfl
theorem okAll_map0 {α : Type} {q : Str → Prop} {l : List α} {f : α → Str} (h : ∀ a, a ∈ l → q (f a)) : ∀ x ∈ l.map f, q x := by
  intro x hx
  obtain ⟨a, ha, rfl⟩ := List.mem_map.mp hx
  exact h a ha
theorem okAll_drop {α : Type} {q : α → Prop} {l : List α} {n : Nat} (h : ∀ a, a ∈ l → q a) : ∀ x ∈ l.drop n, q x := fun x hx => h x (List.mem_of_mem_drop hx)
theorem okAll_take {α : Type} {q : α → Prop} {l : List α} {n : Nat} (h : ∀ a, a ∈ l → q a) : ∀ x ∈ l.take n, q x := fun x hx => h x (List.mem_of_mem_take hx)
section
variable {k k1 k2 : Nat}
theorem tk_pure {α : Type} {m : M α} {a : α} {P : α → Prop} (h : m = pure a) (p : P a) : Tk 0 m P := h ▸ Tk.ret p
theorem tk_set {i : Nat} {f : Rho → M D} {g : Rho → M Fl} {ρ : Rho} {P : D → Prop} {Q : Fl → Prop} (h : Tk k1 (f ρ) P) (q : ∀ d, P d → Tk k2 (g (ρ.set i (some d))) Q) : Tk (k1 + k2) (seqS (setS i f) g ρ) Q := by
  have e : seqS (setS i f) g ρ = (f ρ >>= fun d => g (ρ.set i (some d))) := by
    unfold seqS setS; rw [m_bind_assoc]; rfl
  rw [e]; exact h.bind q
theorem tk_go {f g : Rho → M Fl} {ρ ρ' : Rho} {Q : Fl → Prop} (h : f ρ = pure (.nx ρ')) (q : Tk k (g ρ') Q) : Tk k (seqS f g ρ) Q := by rw [seqS_pure h]; exact q
theorem tk_seq {f g : Rho → M Fl} {ρ : Rho} {P : Fl → Prop} {Q : Fl → Prop} (h : Tk k1 (f ρ) P) (hp : ∀ z, P z → ∃ ρ', z = .nx ρ') (q : ∀ ρ', P (.nx ρ') → Tk k2 (g ρ') Q) : Tk (k1 + k2) (seqS f g ρ) Q := by
  unfold seqS
  refine h.bind fun z hz => ?_
  obtain ⟨ρ', rfl⟩ := hp z hz
  exact q ρ' hz
theorem tk_ret {f : Rho → M D} {ρ : Rho} {P : D → Prop} (h : Tk k (f ρ) P) : Tk k (retS f ρ) (fun z => ∃ d, z = .rt d ∧ P d) := by
  unfold retS
  exact (h.bind (k2 := 0) fun d hd => Tk.ret ⟨d, rfl, hd⟩)
theorem tk_run {n : Nat} {body : Rho → M Fl} {ds : List D} {P : D → Prop} (h : Tk k (body (rho0 n ds)) (fun z => ∃ d, z = .rt d ∧ P d)) : Tk k (runD n body ds) P := by
  unfold runD
  refine (h.bind (k2 := 0) fun z hz => ?_)
  obtain ⟨d, rfl, hd⟩ := hz
  exact Tk.ret hd
theorem tk_fn {n : Nat} {F : List D → M D} {fs : Rho → M (List D)} {ρ : Rho} {ds : List D} {P : D → Prop} (h : fs ρ = pure ds) (hn : ds.length = n) (q : Tk k (F ds) P) : Tk k (fnF n F [] fs ρ) P := by
  rw [fnF_pure0 h hn rfl]; exact q
theorem tk_bin {g : D → D → Option D} {fa fb : Rho → M D} {ρ : Rho} {P P' Q : D → Prop} (ha : Tk k1 (fa ρ) P) (hb : Tk k2 (fb ρ) P') (hq : ∀ a b, P a → P' b → ∃ z, g a b = some z ∧ Q z) : Tk (k1 + k2) (bin g fa fb ρ) Q := by
  unfold bin
  refine ha.bind fun a pa => ?_
  refine (hb.bind (k2 := 0) fun b pb => ?_)
  obtain ⟨z, e, qz⟩ := hq a b pa pb
  rw [e]; exact Tk.ret qz
theorem tk_tst {f : Rho → M D} {ρ : Rho} {P : D → Prop} {Q : Bool → Prop} (h : Tk k (f ρ) P) (q : ∀ d, P d → ∃ b, d = .bl b ∧ Q b) : Tk k (tst f ρ) Q := by
  unfold tst
  refine (h.bind (k2 := 0) fun d hd => ?_)
  obtain ⟨b, rfl, hb⟩ := q d hd
  rw [asBl_bl]; exact Tk.ret hb
theorem tk_cons {f : Rho → M D} {g : Rho → M (List D)} {ρ : Rho} {P : D → Prop} {Q R : List D → Prop} (h : Tk k1 (f ρ) P) (q : Tk k2 (g ρ) Q) (r : ∀ d ds, P d → Q ds → R (d :: ds)) : Tk (k1 + k2) (consA f g ρ) R := by
  unfold consA
  refine h.bind fun d hd => ?_
  refine (q.bind (k2 := 0) fun ds hds => ?_)
  exact Tk.ret (r _ _ hd hds)
theorem tk_callF {g : List D → Option D} {fs : Rho → M (List D)} {ρ : Rho} {P : List D → Prop} {Q : D → Prop} (h : Tk k (fs ρ) P) (q : ∀ ds, P ds → ∃ z, g ds = some z ∧ Q z) : Tk k (callF g fs ρ) Q := by
  unfold callF
  refine (h.bind (k2 := 0) fun d hd => ?_)
  obtain ⟨z, e, qz⟩ := q d hd
  rw [e]; exact Tk.ret qz
theorem tk_lst {fs : Rho → M (List D)} {ρ : Rho} {P : List D → Prop} {Q : D → Prop} (h : Tk k (fs ρ) P) (q : ∀ ds, P ds → ds.length ≤ 16000000 ∧ Q (.lst ds)) : Tk k (lstF fs ρ) Q := by
  unfold lstF
  refine (h.bind (k2 := 0) fun d hd => ?_)
  obtain ⟨z, e⟩ := q d hd
  unfold mkL
  rw [if_pos (sz_of z)]; exact Tk.ret e
theorem tk_tup {fs : Rho → M (List D)} {ρ : Rho} {P : List D → Prop} {Q : D → Prop} (h : Tk k (fs ρ) P) (q : ∀ ds, P ds → ds.length ≤ 16000000 ∧ Q (.tup ds)) : Tk k (tupF fs ρ) Q := by
  unfold tupF
  refine (h.bind (k2 := 0) fun d hd => ?_)
  obtain ⟨z, e⟩ := q d hd
  unfold mkT
  rw [if_pos (sz_of z)]; exact Tk.ret e
theorem tk_if {g : Rho → M Bool} {f h : Rho → M Fl} {ρ : Rho} {P : Bool → Prop} {Q : Fl → Prop} (hg : Tk k1 (g ρ) P) (ht : P true → Tk k2 (f ρ) Q) (hf : P false → Tk k2 (h ρ) Q) : Tk (k1 + k2) (ifS g f h ρ) Q := by
  unfold ifS
  refine hg.bind fun b hb => ?_
  cases b with
  | true => exact ht hb
  | false => exact hf hb
theorem tk_app {i : Nat} {f : Rho → M D} {ρ : Rho} {l : List D} {P : D → Prop} (h : slot i ρ = pure (.lst l)) (z : l.length < 16000000) (q : Tk k (f ρ) P) : Tk k (appS i f ρ) (fun r => ∃ d, P d ∧ r = .nx (ρ.set i (some (.lst (l ++ [d]))))) := by
  have z' : l.length < sizeLine := Nat.lt_of_lt_of_le z (sz_of (Nat.le_refl _))
  unfold appS
  rw [h, m_pure_bind, asLst_lst, m_pure_bind]
  refine (q.bind (k2 := 0) fun d hd => ?_)
  rw [m_pure_bind, asLst_lst, m_pure_bind, if_pos z']
  exact Tk.ret ⟨d, hd, rfl⟩
theorem tk_dput {i : Nat} {f fk : Rho → M D} {ρ : Rho} {l : List (Key × D)} {x : Str} {P : D → Prop} (h : slot i ρ = pure (.dct l)) (z : l.length < 16000000) (q : Tk k (f ρ) P) (hk : fk ρ = pure (.str x)) : Tk k (dputS i fk f ρ) (fun r => ∃ d, P d ∧ r = .nx (ρ.set i (some (.dct (putD l (.inr x) d))))) := by
  have z' : l.length < sizeLine := Nat.lt_of_lt_of_le z (sz_of (Nat.le_refl _))
  unfold dputS
  rw [h, m_pure_bind, asDct_dct, m_pure_bind]
  refine (q.bind (k2 := 0) fun d hd => ?_)
  rw [hk, m_pure_bind]
  show Tk 0 (opt (some (Sum.inr x : Key)) >>= _) _
  rw [opt_some, m_pure_bind, if_pos z']
  exact Tk.ret ⟨d, hd, rfl⟩
theorem tk_forL {α S : Type} {tg : D → Rho → Option Rho} {body : Rho → M Fl} {c : Nat} (enc : α → D) (R : S → Rho) (I : List α → S → Prop) : ∀ (l : List α) (st : S), I l st →
    (∀ st a l, I (a :: l) st → ∃ ρ1, tg (enc a) (R st) = some ρ1 ∧ Tk c (body ρ1) (fun z => ∃ st', z = .nx (R st') ∧ I l st')) → Tk (c * l.length) (forL tg body (l.map enc) (R st)) (fun z => ∃ st', z = .nx (R st') ∧ I [] st')
  | [], st, hI, _ => Tk.ret ⟨st, rfl, hI⟩
  | a :: l, st, hI, h => by
    obtain ⟨ρ1, h1, h2⟩ := h st a l hI
    rw [List.map_cons, List.length_cons, Nat.mul_add, Nat.mul_one, Nat.add_comm]
    unfold forL
    rw [h1, opt_some, m_pure_bind]
    refine h2.bind fun z hz => ?_
    obtain ⟨st', rfl, hI'⟩ := hz
    exact tk_forL enc R I l st' hI' h
theorem tk_for {fi : Rho → M (List D)} {tg : D → Rho → Option Rho} {body : Rho → M Fl} {ρ : Rho} {l : List D} {Q : Fl → Prop} (h : fi ρ = pure l) (q : Tk k (forL tg body l ρ) Q) : Tk k (forS fi tg body ρ) Q := by
  rw [forS_pure h rfl]; exact q
end
end VL
namespace VL
open PySem PySem.Spec PyProof.Rows L2 TL
local macro_rules | `(tactic| walk_at "ok") => `(tactic| first | assumption | solve_by_elim (maxDepth := 4) | exact okS_k _ (by decide +kernel) | (refine okAll_cons ?_ ?_ <;> walk_at "ok") | (refine okAll_app ?_ ?_ <;> walk_at "ok") | (refine ⟨?_, ?_⟩ <;> walk_at "ok") | exact okAll_nil | (refine okAll_nub ?_; walk_at "ok") | (refine okAll_map ?_; intro _ _; walk_at "ok") | (refine okAll_fil ?_; walk_at "ok") | (refine okAll_map0 ?_; intro _ _; walk_at "ok") | (refine okAll_drop ?_; walk_at "ok") | (refine okAll_take ?_; walk_at "ok") | (refine mem_ok (by assumption) ?_; first | assumption | (simp; done)) | (refine ok_l1 (by assumption) ?_; first | assumption | (simp; done)) | (refine ok_l2 (by assumption) ?_; first | assumption | (simp; done)) | solve_by_elim (maxDepth := 5) | (simp at *; solve_by_elim (maxDepth := 5)))
local macro_rules | `(tactic| walk_at "sz") => `(tactic| first | exact Nat.le_of_ble_eq_true rfl | (simp; done) | with_reducible assumption | omega | (simp; omega) | (simp at *; omega))
local macro_rules | `(tactic| walk_at "op") => `(tactic| first | exact keysD_merge _ _ _ | exact len_LS | exact len_TS | exact len_LL | exact len_TL | exact any_map _ _ | exact all_map _ _ | exact slL_dS _ (by decide) | exact slL_tS _ (by decide) | exact slL_dL _ (by decide) | exact slL_tL _ (by decide) | exact slT_dS _ (by decide) | exact slT_tS _ (by decide) | rfl | with_reducible assumption | exact in_strsL (by walk_at "ok") (by walk_at "ok") | exact in_strsT (by walk_at "ok") (by walk_at "ok") | exact notIn_strsL (by walk_at "ok") (by walk_at "ok") | exact notIn_strsT (by walk_at "ok") (by walk_at "ok") | exact in_lanesL (by walk_at "ok") (by walk_at "ok") | exact in_lanesT (by walk_at "ok") (by walk_at "ok") | exact notIn_lanesL (by walk_at "ok") (by walk_at "ok") | exact notIn_lanesT (by walk_at "ok") (by walk_at "ok") | exact ne_nilS (by walk_at "ok") | exact ne_str (by walk_at "ok") (by walk_at "ok") | exact eq_str (by walk_at "ok") (by walk_at "ok") | exact eq_int _ _ | exact ne_int _ _ | exact catD_S (by walk_at "sz") | exact catD_L (by walk_at "sz") | exact catD_ok (by walk_at "sz") | exact keysD_merge _ _ _ | (apply_assumption <;> first | with_reducible assumption | walk_at "ok" | walk_at "sz"))
local macro_rules | `(tactic| walk_at "im") => `(tactic| first | exact isMap_sts _ | exact isMap_lanes _ | exact isMap_map _ _)
local macro_rules | `(tactic| walk_at "ca") => `(tactic| (intro a_ ha_; apply compAt_mk; rfl; (walk_at "ev"); (intro _; walk_at "ev"); rfl; rfl))
local macro_rules | `(tactic| walk_at "ca2") => `(tactic| (intro a_ ha_; constructor; (apply compAt_mk; rfl; (walk_at "ev"); (intro _; walk_at "ev"); rfl; rfl); (apply compAt_mk; rfl; (walk_at "ev"); (intro _; walk_at "ev"); rfl; rfl)))
local macro_rules | `(tactic| walk_at "ev") => `(tactic| first | with_reducible assumption | ((with_reducible apply slot_at); rfl) | with_reducible rfl | exact nilA_pure | ((with_reducible apply tst_pure); walk_at "ev") | ((with_reducible apply bin_pure); (walk_at "ev"); (walk_at "ev"); (walk_at "op")) | ((with_reducible apply binS_pure); (walk_at "ev"); (walk_at "ev"); (walk_at "op")) | ((with_reducible apply andB_pure); (walk_at "ev"); (intro _; walk_at "ev")) | ((with_reducible apply orB_pure); (walk_at "ev"); (intro _; walk_at "ev")) | ((with_reducible apply notB_pure); walk_at "ev") | ((with_reducible apply andV_pure); (walk_at "ev"); (intro _; walk_at "ev")) | ((with_reducible apply orV_pure); (walk_at "ev"); (intro _; walk_at "ev")) | ((with_reducible apply notV_pure); walk_at "ev") | ((with_reducible apply lstF_S); (walk_at "evS"); (walk_at "sz")) | ((with_reducible apply lstF_L); (walk_at "evL"); (walk_at "sz")) | ((with_reducible apply lstF_pure); (walk_at "ev"); (walk_at "sz")) | ((with_reducible apply tupF_S); (walk_at "evS"); (walk_at "sz")) | ((with_reducible apply tupF_L); (walk_at "evL"); (walk_at "sz")) | ((with_reducible apply tupF_pure); (walk_at "ev"); (walk_at "sz")) | ((with_reducible apply consA_pure); (walk_at "ev"); (walk_at "ev")) | ((with_reducible apply starA_pure); (walk_at "ev"); (walk_at "op"); (walk_at "ev")) | ((with_reducible apply callF_pure); (walk_at "ev"); (walk_at "op")) | ((with_reducible apply seqF_pure); (walk_at "ev"); (walk_at "op")) | ((with_reducible apply isiF_pure); (walk_at "ev"); (walk_at "op")) | ((with_reducible apply fldF_pure); (walk_at "ev"); rfl) | ((with_reducible apply propF_pure); (walk_at "ev"); (walk_at "op")) | ((with_reducible apply fnF_pure); (walk_at "ev"); rfl; (walk_at "op")) | ((with_reducible apply fnF_pure0); (walk_at "ev"); rfl; (walk_at "op")) | ((with_reducible apply lcF_ev0S); (walk_at "ev"); (walk_at "im"); (walk_at "ca")) | ((with_reducible apply lcF_ev0L); (walk_at "ev"); (walk_at "im"); (walk_at "ca")) | ((with_reducible apply lcF_ev0); (walk_at "ev"); (walk_at "im"); (walk_at "ca")) | ((with_reducible apply lcF_evS); (walk_at "ev"); (walk_at "im"); (walk_at "ca")) | ((with_reducible apply lcF_evL); (walk_at "ev"); (walk_at "im"); (walk_at "ca")) | ((with_reducible apply lcF_ev); (walk_at "ev"); (walk_at "im"); (walk_at "ca")) | ((with_reducible apply dcF_evS); (walk_at "ev"); (walk_at "im"); (walk_at "ca2")) | ((with_reducible apply slcF_pure); (walk_at "ev"); (walk_at "ev"); (walk_at "ev"); (walk_at "op")) | ((with_reducible apply partI_pure); (walk_at "ev")) | rfl)
local macro_rules | `(tactic| walk_at "evS") => `(tactic| first | with_reducible assumption | exact nilA_S | ((with_reducible apply consA_S); (walk_at "ev"); (walk_at "evS")) | ((with_reducible apply starA_S1); (walk_at "ev"); (walk_at "op")) | ((with_reducible apply starA_S); (walk_at "ev"); (walk_at "op"); (walk_at "evS")))
local macro_rules | `(tactic| walk_at "evL") => `(tactic| first | with_reducible assumption | exact nilA_L | ((with_reducible apply consA_L); (walk_at "ev"); (walk_at "evL")) | ((with_reducible apply starA_L1); (walk_at "ev"); (walk_at "op")) | ((with_reducible apply starA_L); (walk_at "ev"); (walk_at "op"); (walk_at "evL")))
local macro_rules | `(tactic| walk_at "st") => `(tactic| first | ((with_reducible apply seqS_go); (walk_at "st"); (walk_at "st")) | ((with_reducible apply setS_pure); walk_at "ev") | ((with_reducible apply retS_go); walk_at "ev") | ((with_reducible apply parS_pure); (walk_at "ev"); (walk_at "ev")) | exact skip_pure | ((with_reducible apply extS_S); (walk_at "ev"); (walk_at "ev"); (walk_at "sz")) | ((with_reducible apply extS_L); (walk_at "ev"); (walk_at "ev"); (walk_at "sz")) | ((with_reducible apply appS_pure); (walk_at "ev"); (walk_at "ev"); (walk_at "sz")) | ((with_reducible apply tgtS_pure); (walk_at "ev"); rfl) | ((with_reducible apply dropS_pure); walk_at "ev"))
local macro_rules | `(tactic| walk_at "evt") => `(tactic| (apply ev_to; (walk_at "ev"); rfl))
def pairsIn (hs : List Str) (g s : Str) : List Lane := ((g :: hs).filter fun e => !decide (s = e)).map fun e => (s, e)
def pairsOf (hs : List Str) (g : Str) : List Lane := hs.flatMap (pairsIn hs g)
theorem mem_pairsOf {hs : List Str} {g : Str} {p : Lane} : p ∈ pairsOf hs g ↔ p.1 ∈ hs ∧ p.2 ∈ g :: hs ∧ p.1 ≠ p.2 := by
  unfold pairsOf pairsIn
  simp only [List.mem_flatMap, List.mem_map, List.mem_filter, Bool.not_eq_true', decide_eq_false_iff_not]
  constructor
  · rintro ⟨s, hs', e, ⟨he, hne⟩, rfl⟩
    exact ⟨hs', he, hne⟩
  · rintro ⟨h1, h2, h3⟩
    exact ⟨p.1, h1, p.2, ⟨h2, h3⟩, rfl⟩
theorem pairsIn_len (hs : List Str) (g s : Str) : (pairsIn hs g s).length ≤ hs.length + 1 := by
  unfold pairsIn
  rw [List.length_map]
  exact Nat.le_trans (List.length_filter_le _ _) (by simp)
theorem nodup_map_fst {β γ : Type} (s : β) : ∀ {l : List γ}, l.Nodup → (l.map fun e => (s, e)).Nodup
  | [], _ => by simp
  | a :: l, h => by
    rw [List.nodup_cons] at h
    simp only [List.map_cons, List.nodup_cons, List.mem_map, Prod.mk.injEq, true_and, exists_eq_right]
    exact ⟨h.1, nodup_map_fst s h.2⟩
theorem nodup_flat {hs : List Str} {f : Str → List Lane} (h1 : hs.Nodup) (h2 : ∀ s ∈ hs, (f s).Nodup) (h3 : ∀ s ∈ hs, ∀ p ∈ f s, p.1 = s) : (hs.flatMap f).Nodup := by
  induction hs with
  | nil => simp
  | cons s hs ih =>
    rw [List.nodup_cons] at h1
    rw [List.flatMap_cons, List.nodup_append]
    refine ⟨h2 s (by simp), ih h1.2 (fun t ht => h2 t (by simp [ht])) (fun t ht => h3 t (by simp [ht])), fun a ha b hb e => ?_⟩
    subst e
    obtain ⟨t, ht, hb⟩ := List.mem_flatMap.mp hb
    have e1 := h3 s (by simp) a ha
    have e2 := h3 t (by simp [ht]) a hb
    rw [e1] at e2
    rw [e2] at h1
    exact h1.1 ht
theorem pairsOf_nodup {hs : List Str} {g : Str} (h : (g :: hs).Nodup) : (pairsOf hs g).Nodup := by
  refine nodup_flat (List.nodup_cons.mp h).2 (fun s _ => ?_) (fun s _ p hp => ?_)
  · exact nodup_map_fst s (h.sublist List.filter_sublist)
  · unfold pairsIn at hp
    obtain ⟨e, _, rfl⟩ := List.mem_map.mp hp
    rfl
theorem pairsOf_loop {g : Str} {hs : List Str} {a0 a1 a2 a5 a6 : Option D} (hok : ∀ x ∈ g :: hs, OkS x) (hl : hs.length ≤ 20) : ∃ s8, forS (seqF (slot 4)) (tgN 8) (extS 7 (lcF [12] (seqF (bin catD (lstF (consA (slot 3) nilA)) (slot 4))) (tgN 12) (tst (bin neD (slot 8) (slot 12))) (tupF (consA (slot 8) (consA (slot 12) nilA)))))
    [a0, a1, a2, some (.str g), some (.lst (sts hs)), a5, a6, some (.lst []), none, none, none, none, none, none] = pure (.nx [a0, a1, a2, some (.str g), some (.lst (sts hs)), a5, a6, some (.lst (lanes (pairsOf hs g))), s8, none, none, none, none, none]) := by
  let R : List Lane × Option D → Rho := fun st => [a0, a1, a2, some (.str g), some (.lst (sts hs)), a5, a6, some (.lst (lanes st.1)), st.2, none, none, none, none, none]
  have hf := forL_foldN (tg := tgN 8) (body := extS 7 (lcF [12] (seqF (bin catD (lstF (consA (slot 3) nilA)) (slot 4))) (tgN 12) (tst (bin neD (slot 8) (slot 12))) (tupF (consA (slot 8) (consA (slot 12) nilA)))))
    (fun s : Str => D.str s) R (fun k st => st.1.length + 21 * k ≤ 21 * hs.length) (fun st s => (st.1 ++ pairsIn hs g s, some (.str s))) hs ([], none) (by simp) (fun k st s hI hs' => by
      have hs1 : OkS s := hok s (by simp [hs'])
      have hlen := pairsIn_len hs g s
      have hz : 1 + hs.length ≤ 100 := by omega
      have z7 : st.1.length + (pairsIn hs g s).length ≤ 16000000 := by omega
      have hhs : ∀ x ∈ hs, OkS x := fun x hx => hok x (by simp [hx])
      have hgg : OkS g := hok g (by simp)
      refine ⟨by simp; omega, _, rfl, ?_⟩
      refine Eq.trans (extS_L (l := st.1) (m := pairsIn hs g s) rfl ?_ z7) rfl
      show lcF _ _ _ _ _ [a0, a1, a2, some (.str g), some (.lst (sts hs)), a5, a6, some (.lst (lanes st.1)), some (.str s), none, none, none, none, none] = _
      apply ev_to
      · walk_at "ev"
      · trace_state
        rfl)
  have e1 := foldl_room (pairsIn hs g) hs [] none
  refine ⟨(hs.foldl (fun (st : List Lane × Option D) s => (st.1 ++ pairsIn hs g s, some (.str s))) ([], none)).2, ?_⟩
  refine forS_pure (l := sts hs) rfl ?_
  refine hf.1.trans ?_
  simp only [R]
  rw [e1]
  rfl
end VL
namespace VL
open PySem PySem.Spec PyProof.Rows L2 TL
structure LanesInv (hs : List Str) (g : Str) (r : List (Str × Nat)) (ls : List Lane) : Prop where
  ex : ∃ dn : List (Str × Nat), hs.zipIdx = dn ++ r ∧ (∀ p ∈ ls, p.1 ∈ dn.map (·.1) ∧ p.2 ∈ g :: hs ∧ p.1 ≠ p.2) ∧ ls.length ≤ dn.length
  nd : ls.Nodup
theorem zip_split {hs : List Str} {dn r : List (Str × Nat)} {a : Str × Nat} (h : hs.zipIdx = dn ++ a :: r) : ∃ h1 h2 : List Str, hs = h1 ++ a.1 :: h2 ∧ dn.map (·.1) = h1 ∧ a.2 = h1.length := by
  have e := congrArg (List.map (·.1)) h
  rw [List.zipIdx_map_fst] at e
  refine ⟨dn.map (·.1), r.map (·.1), by rw [e]; simp, rfl, ?_⟩
  have e2 := congrArg (List.map (·.2)) h
  rw [List.zipIdx_map_snd] at e2
  have hi : (List.range' 0 hs.length 1)[dn.length]? = some a.2 := by rw [e2]; simp
  rw [List.getElem?_range'] at hi
  · simp at hi; simp; omega
  · have := congrArg List.length h
    simp at this
    omega
theorem lanes_step {hs : List Str} {g : Str} {r : List (Str × Nat)} {ls : List Lane} {a : Str × Nat} (hn : (g :: hs).Nodup) (I : LanesInv hs g (a :: r) ls) : LanesInv hs g r ls ∧ ∀ e, e ∈ g :: hs.take a.2 → LanesInv hs g r (ls ++ [(a.1, e)]) := by
  obtain ⟨dn, h1, h2, h3⟩ := I.ex
  obtain ⟨u, v, e1, e2, e3⟩ := zip_split h1
  refine ⟨⟨⟨dn ++ [a], by rw [h1]; simp, fun p hp => ?_, by simp; omega⟩, I.nd⟩, fun e he => ⟨⟨dn ++ [a], by rw [h1]; simp, fun p hp => ?_, by simp; omega⟩, ?_⟩⟩
  · obtain ⟨q1, q2⟩ := h2 p hp
    exact ⟨by simp at q1 ⊢; exact .inl q1, q2⟩
  · rcases List.mem_append.mp hp with hp | hp
    · obtain ⟨q1, q2⟩ := h2 p hp
      exact ⟨by simp at q1 ⊢; exact .inl q1, q2⟩
    · simp at hp
      subst hp
      have ht : hs.take a.2 = u := by rw [e1, e3]; simp
      rw [ht] at he
      refine ⟨by simp, ?_, ?_⟩
      · rcases List.mem_cons.mp he with q | q
        · rw [q]; simp
        · rw [e1]; simp [q]
      · intro q
        have q : a.1 = e := q
        rw [e1] at hn
        rcases List.mem_cons.mp he with z | z
        · rw [← q] at z; subst z; simp at hn
        · rw [← q] at z
          simp only [List.nodup_cons, List.nodup_append] at hn
          exact (hn.2.2.2 a.1 z a.1 (by simp)) rfl
  · rw [List.nodup_append]
    refine ⟨I.nd, by simp, fun p hp q hq z => ?_⟩
    simp at hq
    subst z
    obtain ⟨w, _⟩ := h2 p hp
    rw [e2] at w
    have w : p.1 ∈ u := w
    rw [hq] at w
    rw [e1] at hn
    simp only [List.nodup_cons, List.nodup_append] at hn
    exact (hn.2.2.2 a.1 w a.1 (by simp)) rfl
theorem gt_int (i j : Int) : gtD (.int i) (.int j) = some (.bl (decide (j < i))) := by simp [gtD, intI]
theorem drawn_loop {t_of t_take : List D → M D} (hT : TakeOk t_take) (hO : OfOk t_of) {g : Str} {hs : List Str} {a1 a2 a5 a7 a8 : Option D} (hn : (g :: hs).Nodup) (hl : hs.length ≤ 20) :
    Tk (2 * hs.length) (forS (rngF enumD1 (consA (slot 4) nilA)) (tgT 2 (tgCons (tgN 9) (tgCons (tgN 10) tgNil))) (ifS (tst (bin gtD (fnF 2 t_take [] (consA (slot 0) (consA (fun _ => pure (.int 9)) nilA))) (fun _ => pure (.int 0)))) (appS 6 (tupF (consA (slot 10) (consA (fnF 2 t_of [] (consA (slot 0) (consA (bin catD (lstF (consA (slot 3) nilA)) (slcF slcL (slot 4) (fun _ => pure none) (partI (slot 9)))) nilA))) nilA)))) skip)
      [some .pot, a1, a2, some (.str g), some (.lst (sts hs)), a5, some (.lst []), a7, a8, none, none, none, none, none])
    (fun z => ∃ ls s9 s10, z = .nx [some .pot, a1, a2, some (.str g), some (.lst (sts hs)), a5, some (.lst (lanes ls)), a7, a8, s9, s10, none, none, none] ∧ LanesInv hs g [] ls) := by
  let R : List Lane × Option D × Option D → Rho := fun st => [some .pot, a1, a2, some (.str g), some (.lst (sts hs)), a5, some (.lst (lanes st.1)), a7, a8, st.2.1, st.2.2, none, none, none]
  have hi : rngF enumD1 (consA (slot 4) nilA) [some .pot, a1, a2, some (.str g), some (.lst (sts hs)), a5, some (.lst []), a7, a8, none, none, none, none, none] = pure (hs.zipIdx.map fun p => D.tup [.int (0 + (p.2 : Nat)), .str p.1]) := by
    rw [← enumL_map (fun x : Str => D.str x) hs 0]
    rfl
  refine tk_for hi ?_
  have key := tk_forL (tg := tgT 2 (tgCons (tgN 9) (tgCons (tgN 10) tgNil))) (body := (ifS (tst (bin gtD (fnF 2 t_take [] (consA (slot 0) (consA (fun _ => pure (.int 9)) nilA))) (fun _ => pure (.int 0)))) (appS 6 (tupF (consA (slot 10) (consA (fnF 2 t_of [] (consA (slot 0) (consA (bin catD (lstF (consA (slot 3) nilA)) (slcF slcL (slot 4) (fun _ => pure none) (partI (slot 9)))) nilA))) nilA)))) skip)) (c := 2)
    (fun p : Str × Nat => D.tup [.int (0 + (p.2 : Nat)), .str p.1]) R (fun r st => LanesInv hs g r st.1) hs.zipIdx ([], none, none) ⟨⟨[], rfl, by simp, by simp⟩, by simp⟩ (fun st a r I => by
      refine ⟨[some .pot, a1, a2, some (.str g), some (.lst (sts hs)), a5, some (.lst (lanes st.1)), a7, a8, some (.int (0 + (a.2 : Nat))), some (.str a.1), none, none, none], rfl, ?_⟩
      obtain ⟨J1, J2⟩ := lanes_step hn I
      have hlen : st.1.length ≤ 100 := by
        obtain ⟨dn, h1, _, h3⟩ := I.ex
        have := congrArg List.length h1
        simp at this; omega
      refine tk_if (k1 := 1) (k2 := 1) (P := fun _ => True) ?_ (fun _ => ?_) (fun _ => ?_)
      · refine tk_tst (P := fun d => ∃ b, d = .bl b) ?_ (fun d ⟨b, hb⟩ => ⟨b, hb, trivial⟩)
        refine tk_bin (k1 := 1) (k2 := 0) (P := fun d => ∃ r : Nat, d = .int (r : Nat)) (P' := fun d => d = .int 0) ?_ (tk_pure rfl rfl) ?_
        · refine tk_fn (ds := [.pot, .int 9]) rfl rfl ((hT 9 (by decide) (by decide)).imp fun d ⟨r, e, _⟩ => ⟨r, e⟩)
        · rintro _ _ ⟨r, rfl⟩ rfl
          exact ⟨_, gt_int _ _, _, rfl⟩
      · have hz : 1 + hs.length ≤ 100 := by omega
        have hr : (0 : Int) ≤ 0 + (a.2 : Nat) := by omega
        have hc : bin catD (lstF (consA (slot 3) nilA)) (slcF slcL (slot 4) (fun _ => pure none) (partI (slot 9))) [some .pot, a1, a2, some (.str g), some (.lst (sts hs)), a5, some (.lst (lanes st.1)), a7, a8, some (.int (0 + (a.2 : Nat))), some (.str a.1), none, none, none] = pure (.lst (sts (g :: hs.take a.2))) := by
          have e : slcL (.lst (sts hs)) none (some (0 + (a.2 : Nat))) = some (.lst (sts (hs.take a.2))) := by
            rw [slL_tS _ hr]; congr 4; omega
          have hlt : (hs.take a.2).length ≤ hs.length := List.length_take_le' _ _
          exact bin_pure (lstF_S (l := [g]) rfl (by simp)) (slcF_pure (d := .lst (sts hs)) (lo := none) (hi := some (0 + (a.2 : Nat))) rfl rfl rfl e) (catD_S (by simp at *; omega))
        refine (tk_app (k := 1) (P := fun d => ∃ e, e ∈ g :: hs.take a.2 ∧ d = laneD (a.1, e)) (l := lanes st.1) rfl (by simp; omega) ?_).imp ?_
        · refine tk_tup (P := fun ds => ∃ e, e ∈ g :: hs.take a.2 ∧ ds = [.str a.1, .str e]) ?_ (fun ds ⟨e, h1, h2⟩ => by subst h2; exact ⟨by simp, e, h1, rfl⟩)
          refine tk_cons (k1 := 0) (k2 := 1) (P := fun d => d = .str a.1) (Q := fun ds => ∃ e, e ∈ g :: hs.take a.2 ∧ ds = [.str e]) (tk_pure rfl rfl) ?_ (fun d ds h1 ⟨e, h2, h3⟩ => ⟨e, h2, by rw [h1, h3]⟩)
          refine tk_cons (k1 := 1) (k2 := 0) (P := fun d => ∃ e, e ∈ g :: hs.take a.2 ∧ d = .str e) (Q := fun ds => ds = []) ?_ (tk_pure rfl rfl) (fun d ds ⟨e, h2, h3⟩ h4 => ⟨e, h2, by rw [h3, h4]⟩)
          refine tk_fn (ds := [.pot, .lst (sts (g :: hs.take a.2))]) (consA_pure rfl (consA_pure hc rfl)) rfl ?_
          refine (hO _ (by simp) (by simp; omega)).imp fun d hd => ?_
          obtain ⟨e, he, rfl⟩ := List.mem_map.mp hd
          exact ⟨e, he, rfl⟩
        · rintro z ⟨d, ⟨e, he, rfl⟩, rfl⟩
          refine ⟨(st.1 ++ [(a.1, e)], some (.int (0 + (a.2 : Nat))), some (.str a.1)), ?_, J2 e he⟩
          simp only [R, lanes, List.map_append]
          rfl
      · exact (Tk.ret (P := fun z => ∃ st', z = Fl.nx (R st') ∧ LanesInv hs g r st'.1) ⟨(st.1, some (.int (0 + (a.2 : Nat))), some (.str a.1)), rfl, J1⟩).mono (by omega) fun _ h => h)
  have hk : 2 * hs.zipIdx.length = 2 * hs.length := by simp
  rw [hk] at key
  refine key.imp ?_
  rintro z ⟨st, rfl, I⟩
  exact ⟨st.1, st.2.1, st.2.2, rfl, I⟩
end VL
namespace VL
open PySem PySem.Spec PyProof.Rows L2 TL
theorem idx_nat {l : List D} {n : Nat} {d : D} (h : l[n]? = some d) : idxD (.lst l) (.int (n : Nat)) = some d := by
  have hr : n < l.length := (List.getElem?_eq_some_iff.mp h).1
  show L2.atI l (n : Nat) = some d
  unfold L2.atI L2.ixN
  have h0 : (0 : Int) ≤ (n : Nat) := by omega
  rw [if_pos h0]
  have e := (List.getElem?_eq_some_iff.mp h).2
  simp [hr, e]
theorem idx_zero {l : List D} {d : D} : idxD (.lst (d :: l)) (.int 0) = some d := idx_nat (n := 0) rfl
theorem some_S {t : List D → M D} (ht : SomeOk t) (l : List Str) (k : Nat) (h1 : k ≤ l.length) (h2 : l.length ≤ 1000) : Tk k (t [.pot, .lst (sts l), .int (k : Nat)]) (fun d => ∃ a b, d = .lst (sts a) ∧ a.length = k ∧ (a ++ b).Perm l) :=
  (ht (sts l) k (by simpa using h1) (by simpa using h2)).imp fun d ⟨l', r, e, hl, hp⟩ => by
    obtain ⟨a, b, rfl, rfl, hp'⟩ := perm_map_inv (enc := fun x : Str => D.str x) strOf (fun _ => rfl) hp
    exact ⟨a, b, e, by simpa using hl, hp'⟩
def laneOf : D → Lane
  | .tup [.str x, .str y] => (x, y)
  | _ => ("", "")
theorem some_L {t : List D → M D} (ht : SomeOk t) (l : List Lane) (k : Nat) (h1 : k ≤ l.length) (h2 : l.length ≤ 1000) : Tk k (t [.pot, .lst (lanes l), .int (k : Nat)]) (fun d => ∃ a b, d = .lst (lanes a) ∧ a.length = k ∧ (a ++ b).Perm l) :=
  (ht (lanes l) k (by simpa using h1) (by simpa using h2)).imp fun d ⟨l', r, e, hl, hp⟩ => by
    obtain ⟨a, b, rfl, rfl, hp'⟩ := perm_map_inv (enc := laneD) laneOf (fun _ => rfl) hp
    exact ⟨a, b, e, by simpa using hl, hp'⟩
theorem perm_self {α : Type} {a b l : List α} (h : (a ++ b).Perm l) (hk : a.length = l.length) : a.Perm l := by
  have e := h.length_eq
  have : b = [] := List.eq_nil_of_length_eq_zero (by simp at e; omega)
  rw [this, List.append_nil] at h
  exact h
def DrawnOk (t : List D → M D) : Prop := ∀ k : Nat, k ≤ 10 → Tk 200 (t [.pot, .int (k : Nat)]) (fun d => ∃ L, d = loreD L ∧ LoreOk L ∧ L.hs.length = k)
theorem drawn_ok {t_names t_of t_some t_take : List D → M D} (hN : NamesOk t_names) (hO : OfOk t_of) (hS : SomeOk t_some) (hT : TakeOk t_take) : DrawnOk (runD 14 (LB_l_drawn t_names t_of t_some t_take)) := by
  intro k hk
  refine tk_run ?_
  refine Tk.mono (k := (k + 1) + (k + (2 * k + (1 + (40 + (40 + 0)))))) ?_ (by omega) fun _ h => h
  unfold LB_l_drawn
  refine tk_set (P := fun d => ∃ ns : List Str, d = .lst (ns.map .str) ∧ ns.length = k + 1 ∧ ns.Nodup ∧ ∀ n ∈ ns, n ∈ pool) ?_ ?_
  · exact tk_fn (ds := [.pot, .int ((k + 1 : Nat))]) rfl rfl (hN (k + 1) (by omega))
  rintro _ ⟨ns, rfl, hlen, hnd, hpl⟩
  obtain ⟨g, hs, rfl⟩ : ∃ g hs, ns = g :: hs := by
    cases ns with
    | nil => simp at hlen
    | cons g hs => exact ⟨g, hs, rfl⟩
  have hl : hs.length = k := by simpa using hlen
  have hok : ∀ x ∈ g :: hs, OkS x := fun x hx => pool_ok x (hpl x hx)
  have hhs : ∀ x ∈ hs, OkS x := fun x hx => hok x (by simp [hx])
  refine tk_go (ρ' := [some .pot, some (.int (k : Nat)), some (.lst (sts (g :: hs))), some (.str g), some (.lst (sts hs)), none, none, none, none, none, none, none, none, none]) ?_ ?_
  · refine Eq.trans (parS_pure (a := .str g) (b := .lst (sts hs)) ?_ ?_) rfl
    · exact bin_pure (d := .lst (sts (g :: hs))) (e := .int 0) rfl rfl idx_zero
    · exact slcF_pure (d := .lst (sts (g :: hs))) (lo := some 1) (hi := none) rfl rfl rfl (slL_dS (l := g :: hs) 1 (by decide))
  refine tk_set (P := fun d => ∃ hs' : List Str, d = .dct [(.inr ("gate" : Str), .str g), (.inr ("houses" : Str), .lst (sts hs')), (.inr ("lanes" : Str), .lst [])] ∧ hs'.Perm hs) ?_ ?_
  · have e : ∀ ρ : Rho, slot 3 ρ = pure (.str g) → ∀ m : M D, fnF 3 t_some [] (consA (slot 0) (consA (slot 4) (consA (slot 1) nilA))) ρ = m → dispF (consP (fun _ => pure (.str "gate")) (slot 3) (consP (fun _ => pure (.str "houses")) (fnF 3 t_some [] (consA (slot 0) (consA (slot 4) (consA (slot 1) nilA)))) (consP (fun _ => pure (.str "lanes")) (lstF nilA) nilP))) ρ =
        (m >>= fun v => pure (.dct [(.inr ("gate" : Str), .str g), (.inr ("houses" : Str), v), (.inr ("lanes" : Str), .lst [])])) := by
      intro ρ h3 m hm
      have hl0 : lstF nilA ρ = pure (.lst []) := lstF_pure rfl (by simp)
      simp only [dispF, consP, nilP, h3, hm, hl0, m_pure_bind, m_bind_assoc, asKey, opt_some, List.length_cons, List.length_nil]
      congr 1
    rw [e _ rfl _ (fnF_pure0 (ds := [.pot, .lst (sts hs), .int (k : Nat)]) rfl rfl rfl)]
    refine (Tk.bind (k2 := 0) (some_S hS hs k (by omega) (by omega)) ?_)
    rintro d ⟨a, b, rfl, hla, hp⟩
    exact Tk.ret ⟨a, rfl, perm_self hp (by omega)⟩
  rintro _ ⟨hs', rfl, hp'⟩
  refine tk_go (ρ' := [some .pot, some (.int (k : Nat)), some (.lst (sts (g :: hs))), some (.str g), some (.lst (sts hs)), some (.dct [(.inr ("gate" : Str), .str g), (.inr ("houses" : Str), .lst (sts hs')), (.inr ("lanes" : Str), .lst [])]), some (.lst []), some (.lst []), none, none, none, none, none, none]) ?_ ?_
  · exact Eq.trans (parS_pure (a := .lst []) (b := .lst []) (lstF_pure rfl (by simp)) (lstF_pure rfl (by simp))) rfl
  obtain ⟨s8, e8⟩ := pairsOf_loop (a0 := some .pot) (a1 := some (.int (k : Nat))) (a2 := some (.lst (sts (g :: hs)))) (a5 := some (.dct [(.inr ("gate" : Str), .str g), (.inr ("houses" : Str), .lst (sts hs')), (.inr ("lanes" : Str), .lst [])])) (a6 := some (.lst [])) hok (by omega)
  refine tk_go e8 ?_
  have hdl := drawn_loop (a1 := some (.int (k : Nat))) (a2 := some (.lst (sts (g :: hs)))) (a5 := some (.dct [(.inr ("gate" : Str), .str g), (.inr ("houses" : Str), .lst (sts hs')), (.inr ("lanes" : Str), .lst [])])) (a7 := some (.lst (lanes (pairsOf hs g)))) (a8 := s8) hT hO hnd (by omega)
  rw [hl] at hdl
  refine tk_seq hdl (fun z ⟨_, _, _, h, _⟩ => ⟨_, h⟩) ?_
  rintro ρ' ⟨ls, s9, s10, e, I⟩
  cases e
  obtain ⟨dn, hz, hI, hIl⟩ := I.ex
  have hdn : dn.map (·.1) = hs := by
    have := congrArg (List.map (·.1)) hz
    rw [List.zipIdx_map_fst] at this
    simpa using this.symm
  have hlsn : ls.length ≤ k := by
    have := congrArg List.length hdn
    simp at this; omega
  have hI2 : ∀ p ∈ ls, p.1 ∈ hs ∧ p.2 ∈ g :: hs ∧ p.1 ≠ p.2 := fun p hp => by
    obtain ⟨q1, q2⟩ := hI p hp
    rw [hdn] at q1
    exact ⟨q1, q2⟩
  have okp : ∀ p ∈ pairsOf hs g, OkL p := fun p hp => by
    obtain ⟨q1, q2, _⟩ := mem_pairsOf.mp hp
    exact ⟨hhs _ q1, hok _ q2⟩
  have okls : ∀ p ∈ ls, OkL p := fun p hp => okp p (mem_pairsOf.mpr (hI2 p hp))
  let rest := (pairsOf hs g).filter fun p => !decide (p ∈ ls)
  have hrest : ∀ p ∈ rest, p ∈ pairsOf hs g ∧ p ∉ ls := fun p hp => by simpa [rest] using hp
  have hrl : rest.length ≤ 220 := by
    refine Nat.le_trans (List.length_filter_le _ _) ?_
    have : ∀ us : List Str, (us.flatMap (pairsIn hs g)).length ≤ us.length * (k + 1) := by
      intro us
      induction us with
      | nil => simp
      | cons u us ih =>
        have := pairsIn_len hs g u
        simp only [List.flatMap_cons, List.length_append, List.length_cons, Nat.add_mul]
        omega
    refine Nat.le_trans (this hs) ?_
    rw [hl]
    exact Nat.le_trans (Nat.mul_le_mul hk (by omega : k + 1 ≤ 11)) (by decide)
  refine tk_go (ρ' := [some .pot, some (.int (k : Nat)), some (.lst (sts (g :: hs))), some (.str g), some (.lst (sts hs)), some (.dct [(.inr ("gate" : Str), .str g), (.inr ("houses" : Str), .lst (sts hs')), (.inr ("lanes" : Str), .lst [])]), some (.lst (lanes ls)), some (.lst (lanes rest)), s8, s9, s10, none, none, none]) ?_ ?_
  · refine Eq.trans (setS_pure (d := .lst (lanes rest)) ?_) rfl
    apply ev_to
    · refine lcF_ev (enc := laneD) (out := laneD) (p := fun p => !decide (p ∈ ls)) (L := lanes (pairsOf hs g)) rfl (isMap_lanes _) ?_
      intro p hp
      refine compAt_mk rfl (b := !decide (p ∈ ls)) ?_ (fun _ => rfl) rfl rfl
      exact tst_pure (bin_pure rfl rfl (notIn_lanesL (okp p hp) okls))
    · rfl
  refine tk_set (P := fun d => ∃ m : Nat, d = .int (m : Nat) ∧ m ≤ rest.length ∧ m + ls.length ≤ 40) ?_ ?_
  · refine tk_callF (P := fun ds => ∃ r : Nat, ds = [.lst [.int (rest.length : Nat), .int (r : Nat), .int (40 - (ls.length : Nat))]]) ?_ ?_
    · refine tk_cons (k1 := 1) (k2 := 0) (P := fun d => ∃ r : Nat, d = .lst [.int (rest.length : Nat), .int (r : Nat), .int (40 - (ls.length : Nat))]) (Q := fun ds => ds = []) ?_ (tk_pure rfl rfl) (fun d ds ⟨r, h⟩ h2 => ⟨r, by rw [h, h2]⟩)
      refine tk_lst (P := fun ds => ∃ r : Nat, ds = [.int (rest.length : Nat), .int (r : Nat), .int (40 - (ls.length : Nat))]) ?_ (fun ds ⟨r, h⟩ => ⟨by rw [h]; simp, r, by rw [h]⟩)
      refine tk_cons (k1 := 0) (k2 := 1) (P := fun d => d = .int (rest.length : Nat)) (Q := fun ds => ∃ r : Nat, ds = [.int (r : Nat), .int (40 - (ls.length : Nat))]) (tk_pure (callF_pure (consA_pure (callF_pure (consA_pure rfl rfl) len_LL) rfl) rfl) rfl) ?_ (fun d ds h1 ⟨r, h2⟩ => ⟨r, by rw [h1, h2]⟩)
      refine tk_cons (k1 := 1) (k2 := 0) (P := fun d => ∃ r : Nat, d = .int (r : Nat)) (Q := fun ds => ds = [.int (40 - (ls.length : Nat))]) ?_ (tk_pure (consA_pure (callF_pure (consA_pure (bin_pure rfl (callF_pure (consA_pure rfl rfl) len_LL) rfl) rfl) rfl) rfl) rfl) (fun d ds ⟨r, h1⟩ h2 => ⟨r, by rw [h1, h2]⟩)
      refine tk_callF (k := 1) (P := fun ds => ∃ r : Nat, ds = [.int (r : Nat)]) ?_ (fun ds ⟨r, h⟩ => ⟨.int (r : Nat), by rw [h]; rfl, r, rfl⟩)
      refine tk_cons (k1 := 1) (k2 := 0) (P := fun d => ∃ r : Nat, d = .int (r : Nat)) (Q := fun ds => ds = []) ?_ (tk_pure rfl rfl) (fun d ds ⟨r, h1⟩ h2 => ⟨r, by rw [h1, h2]⟩)
      have hu : bin addD (bin mulD (fun _ => pure (.int 2)) (slot 1)) (fun _ => pure (.int 1)) [some .pot, some (.int (k : Nat)), some (.lst (sts (g :: hs))), some (.str g), some (.lst (sts hs)), some (.dct [(.inr ("gate" : Str), .str g), (.inr ("houses" : Str), .lst (sts hs')), (.inr ("lanes" : Str), .lst [])]), some (.lst (lanes ls)), some (.lst (lanes rest)), s8, s9, s10, none, none, none] = pure (.int (2 * (k : Nat) + 1)) :=
        bin_pure (bin_pure rfl rfl (mul_ok (.inl (by omega)))) rfl rfl
      refine tk_fn (ds := [.pot, .int (2 * (k : Nat) + 1)]) (consA_pure rfl (consA_pure hu rfl)) rfl ?_
      exact (hT _ (by omega) (by omega)).imp fun d ⟨r, e, _⟩ => ⟨r, e⟩
    · rintro _ ⟨r, rfl⟩
      obtain ⟨m, e, h1, h2, h3, h4⟩ := minL3 (rest.length : Nat) (r : Nat) (40 - (ls.length : Nat))
      have hm : 0 ≤ m := by rcases h1 with h | h | h <;> omega
      refine ⟨_, e, m.toNat, ?_, by omega, by omega⟩
      rw [Int.toNat_of_nonneg hm]
  rintro _ ⟨m, rfl, hm1, hm2⟩
  refine Tk.mono (k := m + ((ls.length + m) + 0)) ?_ (by omega) fun _ h => h
  refine tk_set (P := fun d => ∃ a b, d = .lst (lanes (ls ++ a)) ∧ a.length = m ∧ (a ++ b).Perm rest) ?_ ?_
  · refine Tk.mono (k := 0 + m) ?_ (by omega) fun _ h => h
    refine tk_bin (P := fun d => d = .lst (lanes ls)) (P' := fun d => ∃ a b, d = .lst (lanes a) ∧ a.length = m ∧ (a ++ b).Perm rest) (tk_pure rfl rfl) ?_ ?_
    · exact tk_fn (ds := [.pot, .lst (lanes rest), .int (m : Nat)]) rfl rfl (some_L hS rest m hm1 (by omega))
    · rintro _ _ rfl ⟨a, b, rfl, ha, hp⟩
      exact ⟨_, catD_L (by omega), a, b, rfl, ha, hp⟩
  rintro _ ⟨a, b, rfl, ha, hp⟩
  refine tk_seq (tk_dput (l := [(.inr ("gate" : Str), .str g), (.inr ("houses" : Str), .lst (sts hs')), (.inr ("lanes" : Str), .lst [])]) (x := "lanes") (P := fun d => ∃ c, d = .lst (lanes c) ∧ c.Perm (ls ++ a)) rfl (by simp) ?_ rfl) (fun z ⟨_, _, h⟩ => ⟨_, h⟩) ?_
  · have e0 : ls.length + m = (ls ++ a).length := by simp [ha]
    rw [e0]
    refine (tk_fn (ds := [.pot, .lst (lanes (ls ++ a)), .int ((ls ++ a).length : Nat)]) ?_ rfl (some_L hS (ls ++ a) _ (Nat.le_refl _) (by simp; omega))).imp ?_
    · exact consA_pure rfl (consA_pure rfl (consA_pure (callF_pure (consA_pure rfl rfl) len_LL) rfl))
    · rintro d ⟨c, b', rfl, hc, hp⟩
      exact ⟨c, rfl, perm_self hp hc⟩
  rintro ρ' ⟨_, ⟨c, rfl, hc⟩, e⟩
  cases e
  refine tk_ret (tk_pure rfl ⟨⟨g, hs', c⟩, ?_, ?_, by rw [hp'.length_eq]; exact hl⟩)
  · have q := key_ne
    simp [putD, loreD, q.2.2.2.2.1, q.2.2.2.2.2]
  · have hmem : ∀ p ∈ c, p ∈ pairsOf hs g := fun p hp => by
      rcases List.mem_append.mp (hc.mem_iff.mp hp) with h | h
      · exact mem_pairsOf.mpr (hI2 p h)
      · rename_i hpp
        exact (hrest p (hpp.mem_iff.mp (List.mem_append_left _ h))).1
    have hnc : c.Nodup := by
      rw [hc.nodup_iff, List.nodup_append]
      have hab : (a ++ b).Nodup := by
        rw [hp.nodup_iff]
        exact (pairsOf_nodup hnd).sublist List.filter_sublist
      refine ⟨I.nd, (List.nodup_append.mp hab).1, fun x hx y hy e => ?_⟩
      subst e
      exact (hrest x (hp.mem_iff.mp (List.mem_append_left _ hy))).2 hx
    exact {
      nd := by rw [(List.Perm.cons g hp').nodup_iff]; exact hnd
      pl := fun n hn => hpl n ((List.Perm.cons g hp').mem_iff.mp hn)
      le := by rw [hp'.length_eq]; omega
      lnd := hnc
      ends := fun p hp => by
        obtain ⟨q1, q2, q3⟩ := mem_pairsOf.mp (hmem p hp)
        exact ⟨hp'.mem_iff.mpr q1, (List.Perm.cons g hp').mem_iff.mpr q2, q3⟩
      few := by have := hc.length_eq; simp at this; show c.length ≤ 40; omega }
end VL
namespace VL
open PySem PySem.Spec PyProof.Rows L2 TL
def LoreDrOk (t : List D → M D) : Prop := ∀ a b : Nat, a ≤ b → b ≤ 10 → Tk 201 (t [.pot, .int (a : Nat), .int (b : Nat)]) (fun d => ∃ L, d = loreD L ∧ LoreOk L ∧ a ≤ L.hs.length ∧ L.hs.length ≤ b)
theorem lore_ok {t_drawn t_take : List D → M D} (hD : DrawnOk t_drawn) (hT : TakeOk t_take) : LoreDrOk (runD 3 (LB_l_lore t_drawn t_take)) := by
  intro a b hab hb
  refine tk_run (tk_ret ?_)
  have e : fnF 2 t_drawn [] (consA (slot 0) (consA (bin addD (slot 1) (fnF 2 t_take [] (consA (slot 0) (consA (bin addD (bin subD (slot 2) (slot 1)) (fun _ => pure (.int 1))) nilA)))) nilA)) (rho0 3 [.pot, .int (a : Nat), .int (b : Nat)]) =
      (t_take [.pot, .int ((b : Nat) - (a : Nat) + 1)] >>= fun d => opt (addD (.int (a : Nat)) d) >>= fun z => t_drawn [.pot, z]) := by
    unfold fnF
    have h1 : (consA (slot 0) (consA (bin addD (bin subD (slot 2) (slot 1)) (fun _ => pure (.int 1))) nilA)) (rho0 3 [.pot, .int (a : Nat), .int (b : Nat)]) = pure [.pot, .int ((b : Nat) - (a : Nat) + 1)] :=
      consA_pure rfl (consA_pure (bin_pure (bin_pure rfl rfl rfl) rfl rfl) rfl)
    have h2 : bin addD (slot 1) (fun ρ => do let l ← (consA (slot 0) (consA (bin addD (bin subD (slot 2) (slot 1)) (fun _ => pure (.int 1))) nilA)) ρ; callN 2 t_take (l ++ [])) (rho0 3 [.pot, .int (a : Nat), .int (b : Nat)]) = (t_take [.pot, .int ((b : Nat) - (a : Nat) + 1)] >>= fun d => opt (addD (.int (a : Nat)) d)) := by
      unfold bin
      have : slot 1 (rho0 3 [.pot, .int (a : Nat), .int (b : Nat)]) = pure (.int (a : Nat)) := rfl
      rw [this, m_pure_bind]
      show ((consA (slot 0) (consA (bin addD (bin subD (slot 2) (slot 1)) (fun _ => pure (.int 1))) nilA)) (rho0 3 [.pot, .int (a : Nat), .int (b : Nat)]) >>= _) >>= _ = _
      rw [h1, m_pure_bind]
      rfl
    show ((consA (slot 0) (consA (bin addD (slot 1) (fun ρ => do let l ← (consA (slot 0) (consA (bin addD (bin subD (slot 2) (slot 1)) (fun _ => pure (.int 1))) nilA)) ρ; callN 2 t_take (l ++ []))) nilA)) (rho0 3 [.pot, .int (a : Nat), .int (b : Nat)]) >>= _) = _
    unfold consA at *
    have h0 : slot 0 (rho0 3 [.pot, .int (a : Nat), .int (b : Nat)]) = pure .pot := rfl
    simp only [h0, m_pure_bind, m_bind_assoc]
    simp only [consA, h0, m_pure_bind, m_bind_assoc] at h2
    rw [← m_bind_assoc, h2]
    simp only [nilA, m_pure_bind, m_bind_assoc]
    rfl
  rw [e]
  refine Tk.mono (k := 1 + 200) ?_ (by omega) fun _ h => h
  refine Tk.bind (hT _ (by omega) (by omega)) ?_
  rintro d ⟨r, rfl, hr⟩
  have ea : addD (.int (a : Nat)) (.int (r : Nat)) = some (.int ((a + r : Nat) : Int)) := by simp [addD]
  rw [ea, opt_some, m_pure_bind]
  refine (hD (a + r) (by omega)).imp ?_
  rintro d ⟨L, rfl, hL, hl⟩
  exact ⟨L, rfl, hL, by omega, by omega⟩
theorem LoreOk.with {L : Lore} (h : LoreOk L) {x : List Lane} (h1 : x.Nodup) (h2 : ∀ p ∈ x, p.1 ∈ L.hs ∧ p.2 ∈ L.g :: L.hs ∧ p.1 ≠ p.2) (h3 : x.length ≤ 40) : LoreOk ⟨L.g, L.hs, x⟩ :=
  ⟨h.nd, h.pl, h.le, h1, h2, h3⟩
theorem LoreOk.ok {L : Lore} (h : LoreOk L) : ∀ x ∈ L.g :: L.hs, OkS x := fun x hx => pool_ok x (h.pl x hx)
theorem LoreOk.okL {L : Lore} (h : LoreOk L) : ∀ p ∈ L.ls, OkL p := fun p hp => ⟨h.ok _ (List.mem_cons_of_mem _ (h.ends p hp).1), h.ok _ (h.ends p hp).2.1⟩
end VL
namespace VL
open PySem PySem.Spec PyProof.Rows L2 TL
theorem forL_step {tg : D → Rho → Option Rho} {body : Rho → M Fl} {d : D} {r : List D} {ρ ρ1 ρ2 : Rho} (h1 : tg d ρ = some ρ1) (h2 : body ρ1 = pure (.nx ρ2)) : forL tg body (d :: r) ρ = forL tg body r ρ2 := by
  conv => lhs; unfold forL
  rw [h1, opt_some, m_pure_bind, h2, m_pure_bind]
structure NameInOk (t : List D → M D) : Prop where
  gate : ∀ n ∈ pool, t [.str (("gate " : Str) ++ n), .str "gate"] = pure (.str n)
  house : ∀ n ∈ pool, t [.str (("house " : Str) ++ n), .str "house"] = pure (.str n)
  lane : ∀ p : Lane, p.1 ∈ pool → p.2 ∈ pool → t [.str (laneLine p), .str "house"] = pure .non
structure LaneInOk (t : List D → M D) : Prop where
  house : ∀ n ∈ pool, ∀ g hs : D, t [.str (("house " : Str) ++ n), g, hs] = pure .non
  lane : ∀ (p : Lane) (g : Str) (hs : List Str), (∀ x ∈ g :: hs, x ∈ pool) → hs.length ≤ 1000 → p.1 ∈ hs → p.2 ∈ g :: hs → p.1 ≠ p.2 → t [.str (laneLine p), .str g, .tup (sts hs)] = pure (laneD p)
theorem line_lens {n : Str} (hn : n ∈ pool) : (("gate " : Str) ++ n).length ≤ 1000000 ∧ (("house " : Str) ++ n).length ≤ 1000000 := by
  have c1 : ("gate " : Str).length = 5 := by decide +kernel
  have c2 : ("house " : Str).length = 6 := by decide +kernel
  have := pool_short n hn
  rw [slen_append, slen_append]
  omega
theorem laneLine_len {p : Lane} (h1 : p.1 ∈ pool) (h2 : p.2 ∈ pool) : (laneLine p).length ≤ 1000000 := by
  have c3 : (" " : Str).length = 1 := by decide +kernel
  have c4 : ("lane" : Str).length = 4 := by decide +kernel
  have := pool_short _ h1
  have := pool_short _ h2
  rw [laneLine_eq]
  simp only [slen_append]
  omega
theorem name_in_ok {t : List D → M D} (ht : ∀ n ∈ pool, t [.str n] = pure (.bl true)) : NameInOk (runD 3 (LB_name_in t)) := by
  have o1 : OkS "gate" := by unfold OkS; decide +kernel
  have o2 : OkS "house" := by unfold OkS; decide +kernel
  refine ⟨fun n hn => ?_, fun n hn => ?_, fun p h1 h2 => ?_⟩
  · rw [name_in_two ht (split_gate (pool_signs n hn).1) (line_lens hn).1 o1 o1 hn, if_pos rfl]
  · rw [name_in_two ht (split_house (pool_signs n hn).1) (line_lens hn).2 o2 o2 hn, if_pos rfl]
  · exact name_in_len (split_lane (pool_signs _ h1).1 (pool_signs _ h2).1) (laneLine_len h1 h2) (by simp) (by simp)
theorem lane_in_okk : LaneInOk (runD 6 LB_lane_in) := by
  refine ⟨fun n hn g hs => ?_, fun p g hs hp hl h1 h2 h3 => ?_⟩
  · exact lane_in_len (split_house (pool_signs n hn).1) (line_lens hn).2 (by simp) (by simp)
  · have q1 := hp p.1 (List.mem_cons_of_mem _ h1)
    have q2 := hp p.2 h2
    exact lane_in_ok (laneLine_len q1 q2) (pool_ok g (hp g (by simp))) (fun x hx => pool_ok x (hp x (by simp [hx]))) hl (pool_signs _ q1).1 (pool_signs _ q2).1 h1 h2 h3
section
variable {t_lane_in t_name_in : List D → M D}
def takenBody (t_lane_in t_name_in : List D → M D) : Rho → M Fl := (seqS (parS 7 8 (fnF 2 t_name_in [] (consA (slot 6) (consA (fun _ => pure (.str "house")) nilA))) (fnF 3 t_lane_in [] (consA (slot 6) (consA (slot 2) (consA (slot 3) nilA))))) (ifS (andB (tst (bin notNoneD (slot 7) (fun _ => pure .non))) (andB (tst (bin eqD (slot 4) (tupF nilA))) (andB (tst (bin ltD (callF lenD (consA (slot 3) nilA)) (fun _ => pure (.int 10)))) (tst (bin notInD (slot 7) (lstF (consA (slot 2) (starA (slot 3) nilA)))))))) (setS 3 (tupF (starA (slot 3) (consA (slot 7) nilA)))) (ifS (andB (tst (bin notNoneD (slot 8) (fun _ => pure .non))) (andB (tst (bin ltD (callF lenD (consA (slot 4) nilA)) (fun _ => pure (.int 40)))) (tst (bin notInD (slot 8) (slot 4))))) (setS 4 (tupF (starA (slot 4) (consA (slot 8) nilA)))) (fun _ => nope))))
def takenTg : D → Rho → Option Rho := tgT 2 (tgCons (tgN 5) (tgCons (tgN 6) tgNil))
theorem lt_int (i j : Int) : ltD (.int i) (.int j) = some (.bl (decide (i < j))) := by simp [ltD, intI]
theorem eq_nilT {l : List Lane} (hl : ∀ x ∈ l, OkL x) : eqD (.tup (lanes l)) (.tup []) = some (.bl l.isEmpty) := by
  rw [eqD_ok (okD_tupL hl) rfl]
  cases l <;> simp [lanes, eqB, eqBL]
theorem houses_loop (hN : NameInOk t_name_in) (hL : LaneInOk t_lane_in) {g : Str} {x l : D} : ∀ (hs2 pre : List Str) (k : Int) (tail : List Str) (s5 s6 s7 s8 : Option D), (g :: (pre ++ hs2)).Nodup → (∀ n ∈ g :: (pre ++ hs2), n ∈ pool) → (pre ++ hs2).length ≤ 10 →
    ∃ k' s5' s6' s7' s8', forL takenTg (takenBody t_lane_in t_name_in) (enumL k (sts (hs2.map (fun h => ("house " : Str) ++ h) ++ tail))) [some x, some l, some (.str g), some (.tup (sts pre)), some (.tup []), s5, s6, s7, s8] =
      forL takenTg (takenBody t_lane_in t_name_in) (enumL k' (sts tail)) [some x, some l, some (.str g), some (.tup (sts (pre ++ hs2))), some (.tup []), s5', s6', s7', s8']
  | [], pre, k, tail, s5, s6, s7, s8, _, _, _ => ⟨k, s5, s6, s7, s8, by simp⟩
  | h :: hs2, pre, k, tail, s5, s6, s7, s8, h1, h2, h3 => by
    have hp : h ∈ pool := h2 h (by simp)
    have oh := pool_ok h hp
    have og := pool_ok g (h2 g (by simp))
    have opre : ∀ n ∈ pre, OkS n := fun n hn => pool_ok n (h2 n (by simp [hn]))
    have hni : h ∉ g :: pre := by
      intro q
      simp only [List.nodup_cons, List.nodup_append, List.mem_append, List.mem_cons] at h1
      rcases List.mem_cons.mp q with q | q
      · exact h1.1 (.inr (.inl q.symm))
      · exact h1.2.2.2 h q h (by simp) rfl
    have hlen : pre.length + 1 ≤ 10 := by simp at h3; omega
    have hb : takenBody t_lane_in t_name_in [some x, some l, some (.str g), some (.tup (sts pre)), some (.tup []), some (.int k), some (.str (("house " : Str) ++ h)), s7, s8] =
        pure (.nx [some x, some l, some (.str g), some (.tup (sts (pre ++ [h]))), some (.tup []), some (.int k), some (.str (("house " : Str) ++ h)), some (.str h), some .non]) := by
      unfold takenBody
      refine seqS_go (parS_pure (a := .str h) (b := .non) (fnF_pure0 (ds := [.str (("house " : Str) ++ h), .str "house"]) rfl rfl (hN.house h hp)) (fnF_pure0 (ds := [.str (("house " : Str) ++ h), .str g, .tup (sts pre)]) rfl rfl (hL.house h hp _ _))) ?_
      refine ifS_t (b := (true && (true && (decide (((pre.length : Nat) : Int) < 10) && !decide (h ∈ g :: pre))))) ?_ ?_ ?_
      · refine andB_pure (tst_pure (bin_pure (d := .str h) (e := .non) rfl rfl rfl)) fun _ => andB_pure (tst_pure (bin_pure (d := .tup (lanes [])) (e := .tup []) rfl (tupF_pure rfl (by simp)) (eq_nilT (by simp)))) fun _ => andB_pure (tst_pure (bin_pure (callF_pure (consA_pure rfl rfl) len_TS) rfl (lt_int _ _))) fun _ => tst_pure (bin_pure (d := .str h) rfl (lstF_S (l := g :: pre) (consA_S rfl (starA_S1 rfl rfl)) (by simp; omega)) (notIn_strsL oh (okAll_cons og opre)))
      · have : decide (h ∈ g :: pre) = false := decide_eq_false hni
        rw [this]
        simp; omega
      · refine Eq.trans (setS_pure (tupF_S (l := pre ++ [h]) (starA_S rfl rfl (consA_S rfl nilA_S)) (by simp; omega))) rfl
    obtain ⟨k', a, b, c, d, e⟩ := houses_loop hN hL (g := g) (x := x) (l := l) hs2 (pre ++ [h]) (k + 1) tail (some (.int k)) (some (.str (("house " : Str) ++ h))) (some (.str h)) (some .non) (by simpa using h1) (by simpa using h2) (by simpa using h3)
    refine ⟨k', a, b, c, d, ?_⟩
    have e2 : (pre ++ [h]) ++ hs2 = pre ++ h :: hs2 := by simp
    rw [e2] at e
    rw [← e]
    exact forL_step rfl hb
theorem lanes_loop (hN : NameInOk t_name_in) (hL : LaneInOk t_lane_in) {g : Str} {hs : List Str} {x l : D} (hp : ∀ n ∈ g :: hs, n ∈ pool) (hl : hs.length ≤ 10) : ∀ (ls2 pre : List Lane) (k : Int) (s5 s6 s7 s8 : Option D), (pre ++ ls2).Nodup → (∀ p ∈ pre ++ ls2, p.1 ∈ hs ∧ p.2 ∈ g :: hs ∧ p.1 ≠ p.2) → (pre ++ ls2).length ≤ 40 →
    ∃ s5' s6' s7' s8', forL takenTg (takenBody t_lane_in t_name_in) (enumL k (sts (ls2.map laneLine))) [some x, some l, some (.str g), some (.tup (sts hs)), some (.tup (lanes pre)), s5, s6, s7, s8] =
      pure (.nx [some x, some l, some (.str g), some (.tup (sts hs)), some (.tup (lanes (pre ++ ls2))), s5', s6', s7', s8'])
  | [], pre, k, s5, s6, s7, s8, _, _, _ => ⟨s5, s6, s7, s8, by simp [sts, enumL, forL]⟩
  | p :: ls2, pre, k, s5, s6, s7, s8, h1, h2, h3 => by
    obtain ⟨q1, q2, q3⟩ := h2 p (by simp)
    have p1 := hp _ (List.mem_cons_of_mem _ q1)
    have p2 := hp _ q2
    have op : OkL p := ⟨pool_ok _ p1, pool_ok _ p2⟩
    have opre : ∀ q ∈ pre, OkL q := fun q hq => by
      obtain ⟨r1, r2, _⟩ := h2 q (by simp [hq])
      exact ⟨pool_ok _ (hp _ (List.mem_cons_of_mem _ r1)), pool_ok _ (hp _ r2)⟩
    have hni : p ∉ pre := by
      intro q
      rw [List.nodup_append] at h1
      exact h1.2.2 p q p (by simp) rfl
    have hlen : pre.length + 1 ≤ 40 := by simp at h3; omega
    have hb : takenBody t_lane_in t_name_in [some x, some l, some (.str g), some (.tup (sts hs)), some (.tup (lanes pre)), some (.int k), some (.str (laneLine p)), s7, s8] =
        pure (.nx [some x, some l, some (.str g), some (.tup (sts hs)), some (.tup (lanes (pre ++ [p]))), some (.int k), some (.str (laneLine p)), some .non, some (laneD p)]) := by
      unfold takenBody
      refine seqS_go (parS_pure (a := .non) (b := laneD p) (fnF_pure0 (ds := [.str (laneLine p), .str "house"]) rfl rfl (hN.lane p p1 p2)) (fnF_pure0 (ds := [.str (laneLine p), .str g, .tup (sts hs)]) rfl rfl (hL.lane p g hs hp (by omega) q1 q2 q3))) ?_
      refine ifS_f (b := false) ?_ rfl ?_
      · exact andB_pure (a := false) (b := false) (tst_pure (bin_pure (d := .non) (e := .non) rfl rfl rfl)) (fun h => nomatch h)
      refine ifS_t (b := (true && (decide (((pre.length : Nat) : Int) < 40) && !decide (p ∈ pre)))) ?_ ?_ ?_
      · refine andB_pure (tst_pure (bin_pure (d := laneD p) (e := .non) rfl rfl rfl)) fun _ => andB_pure (tst_pure (bin_pure (callF_pure (consA_pure rfl rfl) len_TL) rfl (lt_int _ _))) fun _ => tst_pure (bin_pure (d := laneD p) rfl rfl (notIn_lanesT op opre))
      · rw [decide_eq_false hni]
        simp; omega
      · refine Eq.trans (setS_pure (tupF_L (l := pre ++ [p]) (starA_L rfl rfl (consA_L rfl nilA_L)) (by simp; omega))) rfl
    obtain ⟨a, b, c, d, e⟩ := lanes_loop hN hL (g := g) (hs := hs) (x := x) (l := l) hp hl ls2 (pre ++ [p]) (k + 1) (some (.int k)) (some (.str (laneLine p))) (some .non) (some (laneD p)) (by simpa using h1) (by simpa using h2) (by simpa using h3)
    refine ⟨a, b, c, d, ?_⟩
    have e2 : (pre ++ [p]) ++ ls2 = pre ++ p :: ls2 := by simp
    rw [e2] at e
    rw [← e]
    exact forL_step rfl hb
def TakenOk (t : List D → M D) : Prop := ∀ L : Lore, LoreOk L → t [.str (textOf L)] = pure (.tup [.str L.g, .tup (sts L.hs), .tup (lanes L.ls)])
theorem text_len (L : Lore) (hL : LoreOk L) : (textOf L).length ≤ 1000000 ∧ (linesOf L).length ≤ 100 := by
  have h1 : ∀ n ∈ L.g :: L.hs, n.length ≤ 8 := fun n hn => pool_short n (hL.pl n hn)
  have h2 : ∀ p ∈ L.ls, p.1.length ≤ 8 ∧ p.2.length ≤ 8 := fun p hp => ⟨h1 _ (List.mem_cons_of_mem _ (hL.ends p hp).1), h1 _ (hL.ends p hp).2.1⟩
  have hs := sum_le (line_len L h1 h2)
  have hl := linesOf_len L
  have := hL.le
  have := hL.few
  refine ⟨?_, by omega⟩
  have c3 : ("\n" : Str).length = 1 := by decide +kernel
  unfold textOf
  have hj : ∀ (sep : Str) (l : List Str), sep.length = 1 → (Txt.join sep l).length ≤ (l.map (·.length)).sum + l.length := by
    intro sep l hsep
    rw [join_eq]
    clear hs hl
    induction l with
    | nil => show (0 : Nat) ≤ _; omega
    | cons a l ih =>
      cases l with
      | nil => show a.length ≤ _; simp
      | cons b l =>
        have e : Str.join sep (a :: b :: l) = a ++ sep ++ Str.join sep (b :: l) := rfl
        rw [e, slen_append, slen_append, hsep]
        simp only [List.map_cons, List.sum_cons, List.length_cons] at ih ⊢
        omega
  have := hj "\n" (linesOf L) c3
  omega
theorem taken_ok (hN : NameInOk t_name_in) (hLi : LaneInOk t_lane_in) : TakenOk (runD 9 (LB_taken t_lane_in t_name_in)) := by
  intro L hL
  obtain ⟨hz1, hz2⟩ := text_len L hL
  have hsg : ∀ n ∈ L.g :: L.hs, 10 ∉ tl n := fun n hn => (pool_signs n (hL.pl n hn)).2
  have hsp : Txt.split (textOf L) "\n" = linesOf L := split_text L hsg fun p hp => ⟨hsg _ (List.mem_cons_of_mem _ (hL.ends p hp).1), hsg _ (hL.ends p hp).2.1⟩
  have hgp := hL.pl L.g (by simp)
  refine runD_pure ?_
  unfold LB_taken
  refine seqS_go (ρ' := rho0 9 [.str (textOf L)]) (ifS_f (b := false) (notB_pure (a := true) (tst_pure (isiF_pure (d := .str (textOf L)) rfl rfl))) rfl rfl) ?_
  have hlen1 : ("\n" : Str).length = 1 := by decide +kernel
  refine seqS_go (setS_pure (binS_pure (x := textOf L) (e := .str "\n") rfl rfl (splitD_ok hsp hlen1 hz1 (by omega)))) ?_
  have e0 : linesOf L = (("gate " : Str) ++ L.g) :: (L.hs.map (fun h => ("house " : Str) ++ h) ++ L.ls.map laneLine) := by simp [linesOf]
  rw [e0]
  have hpar : parS3 2 3 4 (fnF 2 t_name_in [] (consA (bin idxD (slot 1) (fun _ => pure (.int 0))) (consA (fun _ => pure (.str "gate")) nilA))) (tupF nilA) (tupF nilA) ((rho0 9 [.str (textOf L)]).set 1 (some (.lst (sts ((("gate " : Str) ++ L.g) :: (L.hs.map (fun h => ("house " : Str) ++ h) ++ L.ls.map laneLine)))))) =
      pure (.nx [some (.str (textOf L)), some (.lst (sts ((("gate " : Str) ++ L.g) :: (L.hs.map (fun h => ("house " : Str) ++ h) ++ L.ls.map laneLine)))), some (.str L.g), some (.tup (sts [])), some (.tup []), none, none, none, none]) := by
    have h1 : fnF 2 t_name_in [] (consA (bin idxD (slot 1) (fun _ => pure (.int 0))) (consA (fun _ => pure (.str "gate")) nilA)) ((rho0 9 [.str (textOf L)]).set 1 (some (.lst (sts ((("gate " : Str) ++ L.g) :: (L.hs.map (fun h => ("house " : Str) ++ h) ++ L.ls.map laneLine)))))) = pure (.str L.g) :=
      fnF_pure0 (ds := [.str (("gate " : Str) ++ L.g), .str "gate"]) (consA_pure (bin_pure (d := .lst (sts ((("gate " : Str) ++ L.g) :: (L.hs.map (fun h => ("house " : Str) ++ h) ++ L.ls.map laneLine)))) (e := .int 0) rfl rfl idx_zero) (consA_pure rfl rfl)) rfl (hN.gate _ hgp)
    have h2 : ∀ ρ : Rho, tupF nilA ρ = pure (.tup []) := fun ρ => tupF_pure rfl (by simp)
    unfold parS3
    rw [h1, m_pure_bind, h2, m_pure_bind, m_pure_bind]
    rfl
  refine seqS_go hpar ?_
  refine seqS_go (ifS_f (b := false) (tst_pure (bin_pure (d := .str L.g) (e := .non) rfl rfl rfl)) rfl rfl) ?_
  obtain ⟨k', a, b, c, d, e1⟩ := houses_loop hN hLi (g := L.g) (x := .str (textOf L)) (l := .lst (sts ((("gate " : Str) ++ L.g) :: (L.hs.map (fun h => ("house " : Str) ++ h) ++ L.ls.map laneLine)))) L.hs [] 2 (L.ls.map laneLine) none none none none (by simpa using hL.nd) (by simpa using hL.pl) (by simpa using hL.le)
  obtain ⟨a2, b2, c2, d2, e2⟩ := lanes_loop hN hLi (g := L.g) (hs := L.hs) (x := .str (textOf L)) (l := .lst (sts ((("gate " : Str) ++ L.g) :: (L.hs.map (fun h => ("house " : Str) ++ h) ++ L.ls.map laneLine)))) hL.pl hL.le L.ls [] k' a b c d (by simpa using hL.lnd) (by simpa using hL.ends) (by simpa using hL.few)
  have hit : rngF enumD2 (consA (slcF slcL (slot 1) (partI (fun _ => pure (.int 1))) (fun _ => pure none)) (consA (fun _ => pure (.int 2)) nilA)) [some (.str (textOf L)), some (.lst (sts ((("gate " : Str) ++ L.g) :: (L.hs.map (fun h => ("house " : Str) ++ h) ++ L.ls.map laneLine)))), some (.str L.g), some (.tup (sts [])), some (.tup []), none, none, none, none] =
      pure (enumL 2 (sts (L.hs.map (fun h => ("house " : Str) ++ h) ++ L.ls.map laneLine))) := by
    have h1 : slcF slcL (slot 1) (partI (fun _ => pure (.int 1))) (fun _ => pure none) [some (.str (textOf L)), some (.lst (sts ((("gate " : Str) ++ L.g) :: (L.hs.map (fun h => ("house " : Str) ++ h) ++ L.ls.map laneLine)))), some (.str L.g), some (.tup (sts [])), some (.tup []), none, none, none, none] = pure (.lst (sts (L.hs.map (fun h => ("house " : Str) ++ h) ++ L.ls.map laneLine))) :=
      slcF_pure (d := .lst (sts ((("gate " : Str) ++ L.g) :: (L.hs.map (fun h => ("house " : Str) ++ h) ++ L.ls.map laneLine)))) (lo := some 1) (hi := none) rfl rfl rfl (slL_dS 1 (by decide))
    have h2 : enumD2 [.lst (sts (L.hs.map (fun h => ("house " : Str) ++ h) ++ L.ls.map laneLine)), .int 2] = some (enumL 2 (sts (L.hs.map (fun h => ("house " : Str) ++ h) ++ L.ls.map laneLine))) := by
      unfold enumD2
      dsimp only
      rw [if_pos (by omega)]
      rfl
    unfold rngF
    rw [consA_pure h1 (consA_pure (d := .int 2) (ds := []) rfl rfl), m_pure_bind, h2, opt_some]
  refine seqS_go (forS_pure hit (e1.trans e2)) ?_
  exact retS_pure (tupF_pure (consA_pure rfl (consA_pure rfl (consA_pure rfl rfl))) (by simp))
end
end VL
namespace VL
open PySem PySem.Spec PyProof.Rows L2 TL
local macro_rules | `(tactic| walk_at "ok") => `(tactic| first | assumption | solve_by_elim (maxDepth := 4) | exact okS_k _ (by decide +kernel) | (refine okAll_cons ?_ ?_ <;> walk_at "ok") | (refine okAll_app ?_ ?_ <;> walk_at "ok") | (refine ⟨?_, ?_⟩ <;> walk_at "ok") | exact okAll_nil | (refine okAll_nub ?_; walk_at "ok") | (refine okAll_map ?_; intro _ _; walk_at "ok") | (refine okAll_fil ?_; walk_at "ok") | (refine okAll_map0 ?_; intro _ _; walk_at "ok") | (refine okAll_drop ?_; walk_at "ok") | (refine okAll_take ?_; walk_at "ok") | (refine mem_ok (by assumption) ?_; first | assumption | (simp; done)) | (refine ok_l1 (by assumption) ?_; first | assumption | (simp; done)) | (refine ok_l2 (by assumption) ?_; first | assumption | (simp; done)) | solve_by_elim (maxDepth := 5) | (simp at *; solve_by_elim (maxDepth := 5)))
local macro_rules | `(tactic| walk_at "sz") => `(tactic| first | exact Nat.le_of_ble_eq_true rfl | (simp; done) | with_reducible assumption | omega | (simp; omega) | (simp at *; omega))
local macro_rules | `(tactic| walk_at "op") => `(tactic| first | exact keysD_merge _ _ _ | exact len_LS | exact len_TS | exact len_LL | exact len_TL | exact any_map _ _ | exact all_map _ _ | exact slL_dS _ (by decide) | exact slL_tS _ (by decide) | exact slL_dL _ (by decide) | exact slL_tL _ (by decide) | exact slT_dS _ (by decide) | exact slT_tS _ (by decide) | rfl | with_reducible assumption | exact in_strsL (by walk_at "ok") (by walk_at "ok") | exact in_strsT (by walk_at "ok") (by walk_at "ok") | exact notIn_strsL (by walk_at "ok") (by walk_at "ok") | exact notIn_strsT (by walk_at "ok") (by walk_at "ok") | exact in_lanesL (by walk_at "ok") (by walk_at "ok") | exact in_lanesT (by walk_at "ok") (by walk_at "ok") | exact notIn_lanesL (by walk_at "ok") (by walk_at "ok") | exact notIn_lanesT (by walk_at "ok") (by walk_at "ok") | exact ne_nilS (by walk_at "ok") | exact ne_str (by walk_at "ok") (by walk_at "ok") | exact eq_str (by walk_at "ok") (by walk_at "ok") | exact eq_int _ _ | exact ne_int _ _ | exact catD_S (by walk_at "sz") | exact catD_L (by walk_at "sz") | exact catD_ok (by walk_at "sz") | exact keysD_merge _ _ _ | (apply_assumption <;> first | with_reducible assumption | walk_at "ok" | walk_at "sz"))
local macro_rules | `(tactic| walk_at "im") => `(tactic| first | exact isMap_sts _ | exact isMap_lanes _ | exact isMap_map _ _)
local macro_rules | `(tactic| walk_at "ca") => `(tactic| (intro a_ ha_; apply compAt_mk; rfl; (walk_at "ev"); (intro _; walk_at "ev"); rfl; rfl))
local macro_rules | `(tactic| walk_at "ca2") => `(tactic| (intro a_ ha_; constructor; (apply compAt_mk; rfl; (walk_at "ev"); (intro _; walk_at "ev"); rfl; rfl); (apply compAt_mk; rfl; (walk_at "ev"); (intro _; walk_at "ev"); rfl; rfl)))
local macro_rules | `(tactic| walk_at "ev") => `(tactic| first | with_reducible assumption | ((with_reducible apply slot_at); rfl) | with_reducible rfl | exact nilA_pure | ((with_reducible apply tst_pure); walk_at "ev") | ((with_reducible apply bin_pure); (walk_at "ev"); (walk_at "ev"); (walk_at "op")) | ((with_reducible apply binS_pure); (walk_at "ev"); (walk_at "ev"); (walk_at "op")) | ((with_reducible apply andB_pure); (walk_at "ev"); (intro _; walk_at "ev")) | ((with_reducible apply orB_pure); (walk_at "ev"); (intro _; walk_at "ev")) | ((with_reducible apply notB_pure); walk_at "ev") | ((with_reducible apply andV_pure); (walk_at "ev"); (intro _; walk_at "ev")) | ((with_reducible apply orV_pure); (walk_at "ev"); (intro _; walk_at "ev")) | ((with_reducible apply notV_pure); walk_at "ev") | ((with_reducible apply lstF_S); (walk_at "evS"); (walk_at "sz")) | ((with_reducible apply lstF_L); (walk_at "evL"); (walk_at "sz")) | ((with_reducible apply lstF_pure); (walk_at "ev"); (walk_at "sz")) | ((with_reducible apply tupF_S); (walk_at "evS"); (walk_at "sz")) | ((with_reducible apply tupF_L); (walk_at "evL"); (walk_at "sz")) | ((with_reducible apply tupF_pure); (walk_at "ev"); (walk_at "sz")) | ((with_reducible apply consA_pure); (walk_at "ev"); (walk_at "ev")) | ((with_reducible apply starA_pure); (walk_at "ev"); (walk_at "op"); (walk_at "ev")) | ((with_reducible apply callF_pure); (walk_at "ev"); (walk_at "op")) | ((with_reducible apply seqF_pure); (walk_at "ev"); (walk_at "op")) | ((with_reducible apply isiF_pure); (walk_at "ev"); (walk_at "op")) | ((with_reducible apply fldF_pure); (walk_at "ev"); rfl) | ((with_reducible apply propF_pure); (walk_at "ev"); (walk_at "op")) | ((with_reducible apply fnF_pure); (walk_at "ev"); rfl; (walk_at "op")) | ((with_reducible apply fnF_pure0); (walk_at "ev"); rfl; (walk_at "op")) | ((with_reducible apply lcF_ev0S); (walk_at "ev"); (walk_at "im"); (walk_at "ca")) | ((with_reducible apply lcF_ev0L); (walk_at "ev"); (walk_at "im"); (walk_at "ca")) | ((with_reducible apply lcF_ev0); (walk_at "ev"); (walk_at "im"); (walk_at "ca")) | ((with_reducible apply lcF_evS); (walk_at "ev"); (walk_at "im"); (walk_at "ca")) | ((with_reducible apply lcF_evL); (walk_at "ev"); (walk_at "im"); (walk_at "ca")) | ((with_reducible apply lcF_ev); (walk_at "ev"); (walk_at "im"); (walk_at "ca")) | ((with_reducible apply dcF_evS); (walk_at "ev"); (walk_at "im"); (walk_at "ca2")) | ((with_reducible apply slcF_pure); (walk_at "ev"); (walk_at "ev"); (walk_at "ev"); (walk_at "op")) | ((with_reducible apply partI_pure); (walk_at "ev")) | rfl)
local macro_rules | `(tactic| walk_at "evS") => `(tactic| first | with_reducible assumption | exact nilA_S | ((with_reducible apply consA_S); (walk_at "ev"); (walk_at "evS")) | ((with_reducible apply starA_S1); (walk_at "ev"); (walk_at "op")) | ((with_reducible apply starA_S); (walk_at "ev"); (walk_at "op"); (walk_at "evS")))
local macro_rules | `(tactic| walk_at "evL") => `(tactic| first | with_reducible assumption | exact nilA_L | ((with_reducible apply consA_L); (walk_at "ev"); (walk_at "evL")) | ((with_reducible apply starA_L1); (walk_at "ev"); (walk_at "op")) | ((with_reducible apply starA_L); (walk_at "ev"); (walk_at "op"); (walk_at "evL")))
local macro_rules | `(tactic| walk_at "st") => `(tactic| first | ((with_reducible apply seqS_go); (walk_at "st"); (walk_at "st")) | ((with_reducible apply setS_pure); walk_at "ev") | ((with_reducible apply retS_go); walk_at "ev") | ((with_reducible apply parS_pure); (walk_at "ev"); (walk_at "ev")) | exact skip_pure | ((with_reducible apply extS_S); (walk_at "ev"); (walk_at "ev"); (walk_at "sz")) | ((with_reducible apply extS_L); (walk_at "ev"); (walk_at "ev"); (walk_at "sz")) | ((with_reducible apply appS_pure); (walk_at "ev"); (walk_at "ev"); (walk_at "sz")) | ((with_reducible apply tgtS_pure); (walk_at "ev"); rfl) | ((with_reducible apply dropS_pure); walk_at "ev"))
local macro_rules | `(tactic| walk_at "evt") => `(tactic| (apply ev_to; (walk_at "ev"); rfl))
theorem compL_congr {tg : D → Rho → Option Rho} {tt : Rho → M Bool} {te : Rho → M D} {ρ1 ρ2 : Rho} (h : ∀ d, (tg d ρ1).isSome = (tg d ρ2).isSome ∧ ∀ r1 r2, tg d ρ1 = some r1 → tg d ρ2 = some r2 → tt r1 = tt r2 ∧ te r1 = te r2) : ∀ ds, compL tg tt te ρ1 ds = compL tg tt te ρ2 ds
  | [] => rfl
  | d :: ds => by
    have ih := compL_congr h ds
    obtain ⟨h1, h2⟩ := h d
    unfold compL
    cases e1 : tg d ρ1 with
    | none =>
      cases e2 : tg d ρ2 with
      | none => rfl
      | some r2 => rw [e1, e2] at h1; cases h1
    | some r1 =>
      cases e2 : tg d ρ2 with
      | none => rw [e1, e2] at h1; cases h1
      | some r2 =>
        obtain ⟨h3, h4⟩ := h2 r1 r2 e1 e2
        rw [opt_some, opt_some, m_pure_bind, m_pure_bind, h3, h4, ih]
noncomputable def webInit (t_comers t_taken : List D → M D) : List D → M (List D)
  | [d] => t_taken [d] >>= fun z => match z with
    | .tup [g, hs, ls] => t_comers [ls, g, .tup []] >>= fun c => (callF tupleD (consA (lcF [6] (seqF (slot 3)) (tgN 6) (tst (bin inD (slot 6) (slot 5))) (slot 6)) nilA) [none, some d, some g, some hs, some ls, some c, none] >>= fun home => pure [g, home, hs, ls, d])
    | _ => nope
  | _ => nope
theorem webInit_le (t_comers t_taken : List D → M D) (a : Nat) (ds : List D) : Le (webInit t_comers t_taken ds) (runIni 7 (LB_Web_init t_comers t_taken) a ds) := by
  match ds with
  | [] => exact Le.nope
  | _ :: _ :: _ => exact Le.nope
  | [d] =>
    refine Le.of_eq ?_
    funext s
    simp only [webInit, runIni, LB_Web_init, seqI, plainI, tgtS, bind_run]
    have e1 : fnF 1 t_taken [] (consA (slot 1) nilA) (rhoI 7 a [d]) = t_taken [d] := fnF_pure0 (ds := [d]) rfl rfl rfl
    rw [e1]
    cases ht : t_taken [d] s with
    | err _ _ _ => rfl
    | fail => rfl
    | ok z s1 =>
      cases z with
      | tup l =>
        match l with
        | [] => rfl
        | [_] => rfl
        | [_, _] => rfl
        | _ :: _ :: _ :: _ :: _ => rfl
        | [g, hs, ls] =>
          have e2 : tgT 3 (tgCons (tgN 2) (tgCons (tgN 3) (tgCons (tgN 4) tgNil))) (.tup [g, hs, ls]) (rhoI 7 a [d]) = some [some (.tok a), some d, some g, some hs, some ls, none, none] := rfl
          have e3 : sameTok (rhoI 7 a [d]) [some (.tok a), some d, some g, some hs, some ls, none, none] = true := by simp [sameTok, rhoI, rho0]
          have e4 : ∀ c, sameTok [some (.tok a), some d, some g, some hs, some ls, none, none] [some (.tok a), some d, some g, some hs, some ls, c, none] = true := fun _ => by simp [sameTok]
          have e4' : ∀ c, sameTok (rhoI 7 a [d]) [some (.tok a), some d, some g, some hs, some ls, c, none] = true := fun _ => by simp [sameTok, rhoI, rho0]
          have f1 : slot 1 [some (.tok a), some d, some g, some hs, some ls, none, none] = pure d := rfl
          have f2 : slot 2 [some (.tok a), some d, some g, some hs, some ls, none, none] = pure g := rfl
          have f3 : slot 3 [some (.tok a), some d, some g, some hs, some ls, none, none] = pure hs := rfl
          have f4 : slot 4 [some (.tok a), some d, some g, some hs, some ls, none, none] = pure ls := rfl
          have e5 : fnF 3 t_comers [.tup []] (consA (slot 4) (consA (slot 2) nilA)) [some (.tok a), some d, some g, some hs, some ls, none, none] = t_comers [ls, g, .tup []] := fnF_pure (ds := [ls, g]) rfl rfl rfl
          have e6 : ∀ c, callF tupleD (consA (lcF [6] (seqF (slot 3)) (tgN 6) (tst (bin inD (slot 6) (slot 5))) (slot 6)) nilA) [some (.tok a), some d, some g, some hs, some ls, some c, none] = callF tupleD (consA (lcF [6] (seqF (slot 3)) (tgN 6) (tst (bin inD (slot 6) (slot 5))) (slot 6)) nilA) [none, some d, some g, some hs, some ls, some c, none] := fun c => by
            have : lcF [6] (seqF (slot 3)) (tgN 6) (tst (bin inD (slot 6) (slot 5))) (slot 6) [some (.tok a), some d, some g, some hs, some ls, some c, none] = lcF [6] (seqF (slot 3)) (tgN 6) (tst (bin inD (slot 6) (slot 5))) (slot 6) [none, some d, some g, some hs, some ls, some c, none] := by
              unfold lcF
              have q : seqF (slot 3) [some (.tok a), some d, some g, some hs, some ls, some c, none] = seqF (slot 3) [none, some d, some g, some hs, some ls, some c, none] := rfl
              rw [q]
              congr 1
              funext ds
              have k := compL_congr (tg := tgN 6) (tt := tst (bin inD (slot 6) (slot 5))) (te := slot 6) (ρ1 := wipeR [some (.tok a), some d, some g, some hs, some ls, some c, none] [6]) (ρ2 := wipeR [none, some d, some g, some hs, some ls, some c, none] [6]) (fun x => ⟨rfl, fun r1 r2 h1 h2 => by cases h1; cases h2; exact ⟨rfl, rfl⟩⟩) ds
              rw [k]
            unfold callF consA
            rw [this]
            rfl
          simp only [e2, opt_some, pure_run, bind_run, e3, if_true, setI, f1, f2, f3, f4, setS, e5]
          cases hc : t_comers [ls, g, .tup []] s1 with
          | err _ _ _ => rfl
          | fail => rfl
          | ok c s2 =>
            have e7 : ([some (.tok a), some d, some g, some hs, some ls, none, none] : Rho).set 5 (some c) = [some (.tok a), some d, some g, some hs, some ls, some c, none] := rfl
            simp only [e7, e4, if_true, pure_run, bind_run, e6]
            cases hh : callF tupleD (consA (lcF [6] (seqF (slot 3)) (tgN 6) (tst (bin inD (slot 6) (slot 5))) (slot 6)) nilA) [none, some d, some g, some hs, some ls, some c, none] s2 with
            | err _ _ _ => rfl
            | fail => rfl
            | ok home s3 =>
              simp only [e4', if_true, pure_run]
              rfl
      | _ => rfl
noncomputable def homeOf (L : Lore) : List Str := L.hs.filter fun x => comB L.ls L.g [] x
noncomputable def webF (L : Lore) : List D := [.str L.g, .tup (sts (homeOf L)), .tup (sts L.hs), .tup (lanes L.ls), .str (textOf L)]
noncomputable def webD (L : Lore) : D := .obj 0 (webF L)
def WebOk (t : List D → M (List D)) : Prop := ∀ L : Lore, LoreOk L → t [.str (textOf L)] = pure (webF L)
theorem LoreOk.gate_ne {L : Lore} (h : LoreOk L) : ∀ x ∈ L.hs, x ≠ L.g := fun x hx e => by
  have := h.nd
  rw [List.nodup_cons] at this
  exact this.1 (e ▸ hx)
theorem web_ok {t_comers t_taken : List D → M D} (hC : ComersOk t_comers) (hT : TakenOk t_taken) : WebOk (webInit t_comers t_taken) := by
  intro L hL
  have o1 := hL.ok
  have o2 := hL.okL
  have hfew := hL.few
  obtain ⟨F, e, hF, hn, hl⟩ := hC (.tup (lanes L.ls)) L.ls L.g [] rfl o2 (o1 _ (by simp)) (by simp) (by omega) (by simp)
  have okF : ∀ x ∈ F, OkS x := fun x hx => by
    rcases comes_start ((hF x).mpr (List.mem_cons_of_mem _ hx)) with h | h
    · rw [h]; exact o1 _ (by simp)
    · obtain ⟨p, hp, rfl⟩ := List.mem_map.mp h
      exact (o2 p hp).1
  have hhs : ∀ x ∈ L.hs, OkS x := fun x hx => o1 x (by simp [hx])
  have hh : callF tupleD (consA (lcF [6] (seqF (slot 3)) (tgN 6) (tst (bin inD (slot 6) (slot 5))) (slot 6)) nilA) [none, some (.str (textOf L)), some (.str L.g), some (.tup (sts L.hs)), some (.tup (lanes L.ls)), some (.lst (sts F)), none] = pure (.tup (sts (homeOf L))) := by
    have h1 : lcF [6] (seqF (slot 3)) (tgN 6) (tst (bin inD (slot 6) (slot 5))) (slot 6) [none, some (.str (textOf L)), some (.str L.g), some (.tup (sts L.hs)), some (.tup (lanes L.ls)), some (.lst (sts F)), none] = pure (.lst (sts (homeOf L))) := by
      apply ev_to
      · walk_at "ev"
      · have : (L.hs.filter fun x => decide (x ∈ F)) = homeOf L := by
          unfold homeOf
          apply List.filter_congr
          intro x hx
          rw [comB_mem hF]
          have := hL.gate_ne x hx
          simp [this]
        rw [← this]
        simp
    exact callF_pure (consA_pure h1 rfl) rfl
  unfold webInit
  dsimp only
  rw [hT L hL, m_pure_bind]
  dsimp only
  have e' : t_comers [.tup (lanes L.ls), .str L.g, .tup []] = pure (.lst (sts F)) := e
  rw [e', m_pure_bind, hh, m_pure_bind]
  rfl
end VL
namespace VL
open PySem PySem.Spec PyProof.Rows L2 TL
def CaseOk (c : List Str) : Prop := (∀ x ∈ c, OkS x) ∧ c.length ≤ 1000
theorem CaseOk.drop {c : List Str} (h : CaseOk c) (n : Nat) : (∀ x ∈ c.drop n, OkS x) ∧ (c.drop n).length ≤ 1000 := ⟨fun x hx => h.1 x (List.mem_of_mem_drop hx), by have := h.2; simp; omega⟩
structure Mates (L M : Lore) : Prop where
  l : LoreOk L
  m : LoreOk M
  g : M.g = L.g
  hs : M.hs = L.hs
theorem Mates.symm {L M : Lore} (h : Mates L M) : Mates M L := ⟨h.m, h.l, h.g.symm, h.hs.symm⟩
theorem Mates.self {L : Lore} (h : LoreOk L) : Mates L L := ⟨h, h, rfl, rfl⟩
structure WebGet (th tg tl : List D → M D) : Prop where
  h : ∀ L, th [webD L] = pure (.tup (sts L.hs))
  g : ∀ L, tg [webD L] = pure (.str L.g)
  l : ∀ L, tl [webD L] = pure (.tup (lanes L.ls))
theorem webGet : WebGet (runD 1 LB_Web_houses) (runD 1 LB_Web_gate) (runD 1 LB_Web_lanes) := by
  refine ⟨fun L => runD_pure ?_, fun L => runD_pure ?_, fun L => runD_pure ?_⟩
  · exact retS_pure (fldF_pure (l := webF L) rfl rfl)
  · exact retS_pure (fldF_pure (l := webF L) rfl rfl)
  · exact retS_pure (fldF_pure (l := webF L) rfl rfl)
end VL
namespace VL
open PySem PySem.Spec PyProof.Rows L2 TL
theorem runD_pureN {n : Nat} {body : Rho → M Fl} {ds : List D} {ρ : Rho} (h : body (rho0 n ds) = pure (.nx ρ)) : runD n body ds = pure .non := by unfold runD; rw [h, m_pure_bind]; rfl
theorem eqBL_sts (a b : List Str) : eqBL (sts a) (sts b) = decide (a = b) := by
  induction a generalizing b with
  | nil => cases b <;> simp [sts, eqBL]
  | cons x a ih =>
    cases b with
    | nil => simp [sts, eqBL]
    | cons y b =>
      have := ih b
      simp only [sts, List.map_cons, eqBL, eqB_str] at this ⊢
      rw [this]
      by_cases h1 : x = y <;> by_cases h2 : a = b <;> simp [h1, h2]
end VL
namespace VL
open PySem PySem.Spec PyProof.Rows L2 TL
structure WordsOk (tt tw ts to_ : List D → M D) : Prop where
  tup : ∀ (l : List D) (a b : Nat), l.length ≤ 100 → tt [.tup l, .int (a : Nat), .int (b : Nat)] = pure (.bl (decide (a ≤ l.length) && decide (l.length ≤ b)))
  word : ∀ a b : Str, OkS a → OkS b → tw [.str a, .str b] = pure (.bl (decide (a = b)))
  allS : ∀ c : List Str, ts [.tup (sts c)] = pure (.bl true)
  one : ∀ (a : Str) (l : List Str), OkS a → (∀ x ∈ l, OkS x) → to_ [.str a, .lst (sts l)] = pure (.bl (decide (a ∈ l)))
theorem le_int (i j : Int) : leD (.int i) (.int j) = some (.bl (decide (i ≤ j))) := by simp [leD, intI]
theorem wordsOk : WordsOk (runD 3 LB_is_tuple) (runD 2 LB_is_word) (runD 2 LB_are_strings) (runD 2 LB_is_one_of) := by
  refine ⟨fun l a b hl => runD_pure ?_, fun a b ha hb => runD_pure ?_, fun c => runD_pure ?_, fun a l ha hl => runD_pure ?_⟩
  · unfold LB_is_tuple
    have e : orB (notB (tst (isiF (isTy [] "tuple") (slot 0)))) (tst (bin ltD (callF lenD (consA (slot 0) nilA)) (slot 1))) (rho0 3 [.tup l, .int (a : Nat), .int (b : Nat)]) = pure (false || decide (((l.length : Nat) : Int) < (a : Nat))) :=
      orB_pure (a := false) (notB_pure (a := true) (tst_pure (isiF_pure (d := .tup l) rfl rfl))) fun _ => tst_pure (bin_pure (callF_pure (consA_pure (d := .tup l) rfl rfl) rfl) rfl (lt_int _ _))
    by_cases h : a ≤ l.length
    · refine seqS_go (ifS_f e (by simp; omega) rfl) (retS_pure ?_)
      refine (orV_pure (a := false) (b := decide (l.length ≤ b)) (bin_pure (d := .int (b : Nat)) (e := .non) rfl rfl rfl) fun _ => bin_pure (callF_pure (consA_pure (d := .tup l) rfl rfl) rfl) rfl ?_).trans ?_
      · rw [le_int]; congr 3; simp
      · simp [h]
    · refine seqS_pureR (ifS_t e (by simp; omega) (retS_pure ?_))
      simp [h]
  · exact retS_pure ((andV_pure (a := true) (isiF_pure (d := .str a) rfl rfl) fun _ => bin_pure (d := .str a) (e := .str b) rfl rfl (eq_str ha hb)).trans (by simp))
  · refine retS_pure ((andV_pure (a := true) (b := true) (isiF_pure (d := .tup (sts c)) rfl rfl) fun _ => callF_pure (ds := [.lst (c.map fun _ => .bl true)]) (consA_pure ?_ rfl) ?_).trans rfl)
    · refine lcF_ev0 (L := sts c) (seqF_pure (d := .tup (sts c)) rfl rfl) (isMap_sts _) fun x hx => ?_
      exact compAt_mk rfl rfl (fun _ => isiF_pure (d := .str x) rfl rfl) rfl rfl
    · rw [all_map]; simp
  · exact retS_pure ((andV_pure (a := true) (isiF_pure (d := .str a) rfl rfl) fun _ => bin_pure (d := .str a) (e := .lst (sts l)) rfl rfl (in_strsL ha hl)).trans (by simp))
end VL
namespace VL
open PySem PySem.Spec PyProof.Rows L2 TL
theorem makeF_pure {ci n : Nat} {F : List D → M (List D)} {fs : Rho → M (List D)} {ρ : Rho} {ds l : List D} (h : fs ρ = pure ds) (hn : ds.length = n) (k : F ds = pure l) : makeF ci n F [] fs ρ = pure (.obj ci l) := by
  unfold makeF
  rw [h, m_pure_bind, List.append_nil, if_pos hn, k, m_pure_bind]
def TextOk (t : List D → M D) : Prop := ∀ L, LoreOk L → t [loreD L] = pure (.str (textOf L))
theorem textOk {t : List D → M D} (ht : ∀ L, LoreOk L → t [loreD L] = pure (.lst (sts (linesOf L)))) : TextOk (runD 1 (LB_l_text t)) := fun L hL => by
  have h1 : ∀ n ∈ L.g :: L.hs, n.length ≤ 8 := fun n hn => pool_short n (hL.pl n hn)
  have := hL.le
  have := hL.few
  exact text_ok L (ht L hL) h1 (fun p hp => ⟨h1 _ (List.mem_cons_of_mem _ (hL.ends p hp).1), h1 _ (hL.ends p hp).2.1⟩) (by omega) (by omega)
theorem linesOk : ∀ L, LoreOk L → runD 5 LB_l_lines [loreD L] = pure (.lst (sts (linesOf L))) := fun L hL => by
  have h1 : ∀ n ∈ L.g :: L.hs, n.length ≤ 8 := fun n hn => pool_short n (hL.pl n hn)
  have := hL.le
  have := hL.few
  exact lines_ok L h1 (fun p hp => ⟨h1 _ (List.mem_cons_of_mem _ (hL.ends p hp).1), h1 _ (hL.ends p hp).2.1⟩) (by omega) (by omega)
def RightOk (k : Nat) (t : List D → M D) : Prop := Tk k (t [.pot]) (fun d => d = .bl true)
theorem law_run2 {t : List D → M D} {k : Nat} (h : RightOk k t) (hk : k + k ≤ 100000) : ∀ (l i : Nat) (s : Pot), Pk 0 s → ∃ ρ' s', (ifS (orB (notB (tst (fnF 1 t [] (consA (slot 2) nilA)))) (notB (tst (fnF 1 t [] (consA (slot 2) nilA))))) (retS (fun _ => pure (.bl false))) skip) (some (.tok l) :: some (.int (i : Nat)) :: some .pot :: ([] : List Str).map fun (_ : Str) => none) s = .ok (.nx ρ') s' ∧ ρ'.length = ([] : List Str).length + 3 ∧ ρ'[0]? = some (some (.tok l)) := by
  intro l i s hs
  have h1 : Tk k (notB (tst (fnF 1 t [] (consA (slot 2) nilA))) [some (.tok l), some (.int (i : Nat)), some .pot]) (fun b => b = false) := by
    have h2 : Tk k (tst (fnF 1 t [] (consA (slot 2) nilA)) [some (.tok l), some (.int (i : Nat)), some .pot]) (fun b => b = true) := tk_tst (tk_fn (ds := [.pot]) rfl rfl h) (fun d hd => ⟨true, hd, rfl⟩)
    unfold notB
    exact h2.bind (k2 := 0) fun b hb => by subst hb; exact Tk.ret rfl
  have h3 : Tk (k + k) (ifS (orB (notB (tst (fnF 1 t [] (consA (slot 2) nilA)))) (notB (tst (fnF 1 t [] (consA (slot 2) nilA))))) (retS (fun _ => pure (.bl false))) skip [some (.tok l), some (.int (i : Nat)), some .pot]) (fun z => z = .nx [some (.tok l), some (.int (i : Nat)), some .pot]) := by
    refine Tk.mono (k := (k + k) + 0) ?_ (by omega) fun _ h => h
    refine tk_if (P := fun b => b = false) ?_ (fun h => nomatch h) (fun _ => Tk.ret rfl)
    unfold orB
    exact h1.bind fun b hb => by subst hb; exact h1
  obtain ⟨z, s', e, _, rfl⟩ := h3 0 s hs (by omega)
  exact ⟨_, s', e, rfl, rfl⟩
end VL
namespace VL
open PySem PySem.Spec PyProof.Rows L2
noncomputable def LB_l_home (t_l_comers : List D → M D) : Rho → M Fl := (retS (fnF 2 t_l_comers [] (consA (slot 0) (consA (lstF nilA) nilA))))
noncomputable def LB_Web_check_house (t_is_one_of : List D → M D) : Rho → M Fl := (ifS (notB (tst (fnF 2 t_is_one_of [] (consA (slot 1) (consA (fldF 0 2 (slot 0)) nilA))))) (fun _ => nope) skip)
noncomputable def LB_Web_check_home (t_Web_check_house : List D → M D) : Rho → M Fl := (seqS (dropS (methF 0 2 t_Web_check_house [] (slot 0) (consA (slot 1) nilA))) (ifS (tst (bin notInD (slot 1) (fldF 0 1 (slot 0)))) (fun _ => nope) skip))
noncomputable def LB_houses_above : Rho → M Fl := (seqS (setS 2 (lstF nilA)) (seqS (whileS (tst (bin inDct (get2F (slot 0) (slot 1) (fun _ => pure (.str ""))) (slot 0))) (seqS (setS 1 (bin getD' (slot 0) (slot 1))) (appS 2 (slot 1)))) (retS (slot 2))))
noncomputable def LB_Web_home : Rho → M Fl := (retS (fldF 0 1 (slot 0)))
noncomputable def LB_musts_by_house (t_Web_gate : List D → M D) (t_Web_home : List D → M D) (t_Web_lanes : List D → M D) (t_comers : List D → M D) : Rho → M Fl := (seqS (setS 1 (dclF [4] (seqF (propF 0 t_Web_home (slot 0))) (tgN 4) (fun _ => pure true) (slot 4) (lstF nilA))) (seqS (forS (seqF (propF 0 t_Web_home (slot 0))) (tgN 2) (seqS (setS 3 (fnF 3 t_comers [] (consA (propF 0 t_Web_lanes (slot 0)) (consA (propF 0 t_Web_gate (slot 0)) (consA (tupF (consA (slot 2) nilA)) nilA))))) (forS (seqF (propF 0 t_Web_home (slot 0))) (tgN 4) (ifS (andB (tst (bin neD (slot 4) (slot 2))) (tst (bin notInD (slot 4) (slot 3)))) (dappS 1 (slot 4) (slot 2)) skip)))) (retS (slot 1))))
noncomputable def LB_tree_of (t_Web_gate : List D → M D) (t_musts_by_house : List D → M D) : Rho → M Fl := (seqS (parS 1 2 (fnF 1 t_musts_by_house [] (consA (slot 0) nilA)) (fun _ => pure (.dct []))) (seqS (lockS 1 (forS (itemsL 1) (tgT 2 (tgCons (tgN 3) (tgCons (tgN 4) tgNil))) (seqS (setS 5 (lcF [6] (seqF (slot 4)) (tgN 6) (tst (bin eqD (callF lenD (consA (bin getD' (slot 1) (slot 6)) nilA)) (bin subD (callF lenD (consA (slot 4) nilA)) (fun _ => pure (.int 1))))) (slot 6))) (dputS 2 (slot 3) (ifV (tst (bin neD (slot 4) (lstF nilA))) (bin idxD (slot 5) (fun _ => pure (.int 0))) (propF 0 t_Web_gate (slot 0))))))) (retS (slot 2))))
noncomputable def LB_musts (t_Web_check_home : List D → M D) (t_houses_above : List D → M D) (t_tree_of : List D → M D) : Rho → M Fl := (seqS (dropS (methF 0 2 t_Web_check_home [] (slot 0) (consA (slot 1) nilA))) (retS (callF tupleD (consA (fnF 2 t_houses_above [] (consA (fnF 1 t_tree_of [] (consA (slot 0) nilA)) (consA (slot 1) nilA))) nilA))))
noncomputable def LB_near (t_Web_check_home : List D → M D) (t_tree_of : List D → M D) : Rho → M Fl := (seqS (dropS (methF 0 2 t_Web_check_home [] (slot 0) (consA (slot 1) nilA))) (retS (bin getD' (fnF 1 t_tree_of [] (consA (slot 0) nilA)) (slot 1))))
noncomputable def LB_part_of (t_Web_home : List D → M D) (t_houses_above : List D → M D) (t_tree_of : List D → M D) : Rho → M Fl := (seqS (setS 2 (fnF 1 t_tree_of [] (consA (slot 0) nilA))) (retS (lcF [3] (seqF (propF 0 t_Web_home (slot 0))) (tgN 3) (tst (bin inD (slot 1) (lstF (consA (slot 3) (starA (fnF 2 t_houses_above [] (consA (slot 2) (consA (slot 3) nilA))) nilA))))) (slot 3))))
noncomputable def LB_part (t_Web_check_home : List D → M D) (t_part_of : List D → M D) : Rho → M Fl := (seqS (dropS (methF 0 2 t_Web_check_home [] (slot 0) (consA (slot 1) nilA))) (retS (callF tupleD (consA (fnF 2 t_part_of [] (consA (slot 0) (consA (slot 1) nilA))) nilA))))
end VL
namespace VL
section
variable {α : Type} [DecidableEq α] {ls : List (α × α)} {g : α}
theorem comes_or {m k x : α} (h : Comes ls g [k] x) : Comes ls g [m] x ∨ Comes ls g [k] m := by
  induction h with
  | gate => exact .inl .gate
  | step h1 h2 h3 ih =>
    rename_i x y
    rcases ih with ih | ih
    · by_cases e : x = m
      · subst e; exact .inr (.step h1 h2 h3)
      · exact .inl (.step h1 ih (by simpa using e))
    · exact .inr ih
theorem must_trans {m k h : α} (h1 : ¬ Comes ls g [m] h) (h2 : ¬ Comes ls g [k] m) : ¬ Comes ls g [k] h := fun h3 => (comes_or (m := m) h3).elim h1 h2
theorem comes_both {m k x : α} (ne : m ≠ k) (h : Comes ls g [] x) : (Comes ls g [m] x ∧ Comes ls g [k] x) ∨ Comes ls g [k] m ∨ Comes ls g [m] k := by
  induction h with
  | gate => exact .inl ⟨.gate, .gate⟩
  | step h1 h2 h3 ih =>
    rename_i x y
    rcases ih with ⟨i1, i2⟩ | ih
    · by_cases e : x = m
      · subst e; exact .inr (.inl (.step h1 i2 (by simpa using ne)))
      · by_cases e2 : x = k
        · subst e2; exact .inr (.inr (.step h1 i1 (by simpa using e)))
        · exact .inl ⟨.step h1 i1 (by simpa using e), .step h1 i2 (by simpa using e2)⟩
    · exact .inr ih
theorem must_anti {m k : α} (ne : m ≠ k) (hm : Comes ls g [] m) (h1 : ¬ Comes ls g [k] m) (h2 : ¬ Comes ls g [m] k) : False := by
  rcases comes_both ne hm with ⟨_, h⟩ | h | h
  · exact h1 h
  · exact h1 h
  · exact h2 h
theorem comes_one {m k x : α} (h1 : Comes ls g [k] m) (h2 : Comes ls g [m] k) (h : Comes ls g [] x) : Comes ls g [m] x ∨ Comes ls g [k] x := by
  induction h with
  | gate => exact .inl .gate
  | step a1 a2 a3 ih =>
    rename_i x y
    rcases ih with ih | ih
    · by_cases e : x = m
      · subst e; exact .inr h1
      · exact .inl (.step a1 ih (by simpa using e))
    · by_cases e : x = k
      · subst e; exact .inl h2
      · exact .inr (.step a1 ih (by simpa using e))
theorem must_lin {m k h : α} (hh : Comes ls g [] h) (h1 : ¬ Comes ls g [m] h) (h2 : ¬ Comes ls g [k] h) : ¬ Comes ls g [k] m ∨ ¬ Comes ls g [m] k := by
  by_cases a : Comes ls g [k] m
  · by_cases b : Comes ls g [m] k
    · rcases comes_one a b hh with z | z
      · exact absurd z h1
      · exact absurd z h2
    · exact .inr b
  · exact .inl a
end
structure Tower {α : Type} (C : α → Prop) (bd : α → List α) : Prop where
  nd : ∀ h, C h → (bd h).Nodup
  inC : ∀ h, C h → ∀ m ∈ bd h, C m
  sub : ∀ h, C h → ∀ m ∈ bd h, ∀ k ∈ bd m, k ∈ bd h
  irr : ∀ h, C h → h ∉ bd h
  lin : ∀ h, C h → ∀ m ∈ bd h, ∀ k ∈ bd h, m ≠ k → m ∈ bd k ∨ k ∈ bd m
section
variable {α : Type} [DecidableEq α] {C : α → Prop} {bd : α → List α}
theorem Tower.lt (T : Tower C bd) {h m : α} (c : C h) (hm : m ∈ bd h) : (bd m).length < (bd h).length := by
  have cm := T.inC h c m hm
  have h1 : (m :: bd m).length ≤ (bd h).length := length_le_of_nodup (List.nodup_cons.mpr ⟨T.irr m cm, T.nd m cm⟩) fun x hx => by
    rcases List.mem_cons.mp hx with rfl | hx
    · exact hm
    · exact T.sub h c m hm x hx
  rw [List.length_cons] at h1; omega
theorem Tower.inj (T : Tower C bd) {h m k : α} (c : C h) (hm : m ∈ bd h) (hk : k ∈ bd h) (e : (bd m).length = (bd k).length) : m = k := by
  by_cases ne : m = k
  · exact ne
  · rcases T.lin h c m hm k hk ne with z | z
    · have := T.lt (T.inC h c k hk) z; omega
    · have := T.lt (T.inC h c m hm) z; omega
theorem Tower.rank (T : Tower C bd) {h : α} (c : C h) {t : Nat} (ht : t < (bd h).length) : ∃ m ∈ bd h, (bd m).length = t := by
  have h1 : ((bd h).map fun m => (bd m).length).Nodup := by
    have key : ∀ l : List α, l.Nodup → (∀ m ∈ l, m ∈ bd h) → (l.map fun m => (bd m).length).Nodup := by
      intro l
      induction l with
      | nil => intro _ _; simp
      | cons a l ih =>
        intro n s
        rw [List.nodup_cons] at n
        rw [List.map_cons, List.nodup_cons]
        refine ⟨fun z => ?_, ih n.2 fun m hm => s m (by simp [hm])⟩
        obtain ⟨b, hb, e⟩ := List.mem_map.mp z
        have := T.inj c (s b (by simp [hb])) (s a (by simp)) e
        subst this
        exact n.1 hb
    exact key _ (T.nd h c) fun _ h => h
  by_cases q : t ∈ (bd h).map fun m => (bd m).length
  · obtain ⟨m, hm, e⟩ := List.mem_map.mp q
    exact ⟨m, hm, e⟩
  · exfalso
    have h2 : (t :: (bd h).map fun m => (bd m).length).length ≤ (List.range (bd h).length).length := length_le_of_nodup (List.nodup_cons.mpr ⟨q, h1⟩) fun x hx => by
      rcases List.mem_cons.mp hx with rfl | hx
      · simpa using ht
      · obtain ⟨m, hm, rfl⟩ := List.mem_map.mp hx
        simpa using T.lt c hm
    simp at h2
    omega
def atRank (bd : α → List α) (h : α) (t : Nat) : List α := (bd h).filter fun m => decide ((bd m).length = t)
theorem filter_one {l : List α} {p : α → Bool} {m : α} (n : l.Nodup) (hm : m ∈ l) (hp : ∀ x ∈ l, p x = true ↔ x = m) : l.filter p = [m] := by
  induction l with
  | nil => cases hm
  | cons a l ih =>
    rw [List.nodup_cons] at n
    rcases List.mem_cons.mp hm with e | hm
    · subst e
      rw [List.filter_cons_of_pos ((hp m (by simp)).mpr rfl)]
      congr 1
      rw [List.filter_eq_nil_iff]
      intro x hx hpx
      have := (hp x (by simp [hx])).mp hpx
      subst this
      exact n.1 hx
    · have ha : ¬ p a = true := fun z => by
        have := (hp a (by simp)).mp z
        subst this
        exact n.1 hm
      rw [List.filter_cons_of_neg ha]
      exact ih n.2 hm fun x hx => hp x (by simp [hx])
theorem Tower.at_one (T : Tower C bd) {h : α} (c : C h) {t : Nat} (ht : t < (bd h).length) : ∃ m, m ∈ bd h ∧ (bd m).length = t ∧ atRank bd h t = [m] := by
  obtain ⟨m, hm, e⟩ := T.rank c ht
  refine ⟨m, hm, e, filter_one (T.nd h c) hm fun x hx => ?_⟩
  simp only [decide_eq_true_eq]
  exact ⟨fun z => T.inj c hx hm (z.trans e.symm), fun z => by rw [z]; exact e⟩
def rowOf (bd : α → List α) (h : α) : List α := (List.range (bd h).length).foldl (fun acc t => atRank bd h t ++ acc) []
theorem rowOf_nil {h : α} (e : bd h = []) : rowOf bd h = [] := by unfold rowOf; rw [e]; rfl
theorem foldl_rank_congr {h k : α} : ∀ (l : List Nat) (acc : List α), (∀ t ∈ l, atRank bd h t = atRank bd k t) → l.foldl (fun acc t => atRank bd h t ++ acc) acc = l.foldl (fun acc t => atRank bd k t ++ acc) acc
  | [], _, _ => rfl
  | t :: l, acc, e => by
    rw [List.foldl_cons, List.foldl_cons, e t (by simp)]
    exact foldl_rank_congr l _ fun t ht => e t (by simp [ht])
theorem Tower.row (T : Tower C bd) {h : α} (c : C h) (ne : bd h ≠ []) : ∃ m, m ∈ bd h ∧ atRank bd h ((bd h).length - 1) = [m] ∧ (bd m).length + 1 = (bd h).length ∧ rowOf bd h = m :: rowOf bd m := by
  have hp : 0 < (bd h).length := List.length_pos_iff.mpr ne
  obtain ⟨m, hm, e, o⟩ := T.at_one c (t := (bd h).length - 1) (by omega)
  refine ⟨m, hm, o, by omega, ?_⟩
  have cm := T.inC h c m hm
  have len : (bd h).length = (bd m).length + 1 := by omega
  unfold rowOf
  rw [len, List.range_succ, List.foldl_append, List.foldl_cons, List.foldl_nil]
  have o' : atRank bd h (bd m).length = [m] := by rw [e]; exact o
  rw [o']
  show m :: _ = m :: _
  congr 1
  refine foldl_rank_congr _ _ fun t ht => ?_
  have ht : t < (bd m).length := by simpa using ht
  obtain ⟨a, ha, ea, oa⟩ := T.at_one c (t := t) (by omega)
  obtain ⟨b, hb, eb, ob⟩ := T.at_one cm ht
  rw [oa, ob, T.inj c ha (T.sub h c m hm b hb) (ea.trans eb.symm)]
theorem Tower.mem_row (T : Tower C bd) : ∀ (n : Nat) {h : α}, (bd h).length = n → C h → ∀ x, x ∈ rowOf bd h ↔ x ∈ bd h
  | 0, h, e, c, x => by
    have e : bd h = [] := List.eq_nil_of_length_eq_zero e
    rw [rowOf_nil e, e]
  | n + 1, h, e, c, x => by
    have ne : bd h ≠ [] := fun z => by rw [z] at e; cases e
    obtain ⟨m, hm, o, l, r⟩ := T.row c ne
    have cm := T.inC h c m hm
    rw [r, List.mem_cons, T.mem_row n (by omega) cm x]
    refine ⟨fun z => z.elim (fun z => z ▸ hm) (T.sub h c m hm x), fun z => ?_⟩
    by_cases q : x = m
    · exact .inl q
    · rcases T.lin h c x z m hm q with w | w
      · exact .inr w
      · exfalso
        have a := T.lt (T.inC h c x z) w
        have b := T.lt c z
        omega
end
end VL
namespace VL
section
variable {α : Type} [DecidableEq α]
noncomputable def homeL (hs : List α) (ls : List (α × α)) (g : α) : List α := hs.filter fun x => comB ls g [] x
noncomputable def bdL (hs : List α) (ls : List (α × α)) (g : α) (h : α) : List α := (homeL hs ls g).filter fun m => decide (h ≠ m) && !comB ls g [m] h
variable {hs : List α} {ls : List (α × α)} {g : α}
theorem mem_homeL {x : α} : x ∈ homeL hs ls g ↔ x ∈ hs ∧ Comes ls g [] x := by
  unfold homeL
  rw [List.mem_filter, comB_eq]
theorem mem_bdL {h m : α} : m ∈ bdL hs ls g h ↔ (m ∈ hs ∧ Comes ls g [] m) ∧ h ≠ m ∧ ¬ Comes ls g [m] h := by
  unfold bdL
  rw [List.mem_filter, mem_homeL]
  simp only [Bool.and_eq_true, decide_eq_true_eq, Bool.not_eq_true', ne_eq]
  rw [← Bool.not_eq_true, comB_eq]
theorem tower (nd : hs.Nodup) : Tower (fun x => x ∈ homeL hs ls g) (bdL hs ls g) where
  nd := fun h c => (nd.filter _).filter _
  inC := fun h c m hm => mem_homeL.mpr (mem_bdL.mp hm).1
  sub := fun h c m hm k hk => by
    obtain ⟨a1, a2, a3⟩ := mem_bdL.mp hm
    obtain ⟨b1, b2, b3⟩ := mem_bdL.mp hk
    refine mem_bdL.mpr ⟨b1, fun e => ?_, must_trans a3 b3⟩
    subst e
    exact must_anti (Ne.symm a2) a1.2 b3 a3
  irr := fun h c z => (mem_bdL.mp z).2.1 rfl
  lin := fun h c m hm k hk ne => by
    obtain ⟨a1, a2, a3⟩ := mem_bdL.mp hm
    obtain ⟨b1, b2, b3⟩ := mem_bdL.mp hk
    rcases must_lin (mem_homeL.mp c).2 a3 b3 with z | z
    · exact .inr (mem_bdL.mpr ⟨b1, ne, z⟩)
    · exact .inl (mem_bdL.mpr ⟨a1, Ne.symm ne, z⟩)
end
end VL
namespace VL
open PySem PySem.Spec PyProof.Rows L2 TL
def dS (ks : List Str) (f : Str → D) : List (Key × D) := ks.map fun k => (.inr k, f k)
abbrev dctS (ks : List Str) (f : Str → D) : D := .dct (dS ks f)
def setK (f : Str → D) (k : Str) (v : D) : Str → D := fun x => if x = k then v else f x
section
variable {ks : List Str} {f g : Str → D} {k : Str} {v : D}
theorem dS_congr (h : ∀ x ∈ ks, f x = g x) : dS ks f = dS ks g := List.map_congr_left fun x hx => by rw [h x hx]
theorem dS_len : (dS ks f).length = ks.length := by simp [dS]
theorem valD_dS : valD (dS ks f) (.inr k) = if k ∈ ks then some (f k) else none := by
  induction ks with
  | nil => rfl
  | cons a ks ih =>
    unfold valD dS at *
    rw [List.map_cons, List.find?_cons]
    by_cases e : a = k
    · subst e; simp
    · have e' : (decide ((Sum.inr a : Key) = Sum.inr k)) = false := decide_eq_false (fun z => e (by cases z; rfl))
      rw [e', ih]
      simp [Ne.symm e, eq_comm, show ¬ k = a from fun z => e z.symm]
theorem getD'_dS (h : k ∈ ks) : getD' (dctS ks f) (.str k) = some (f k) := by show valD (dS ks f) (.inr k) = _; rw [valD_dS, if_pos h]
theorem inDct_dS : inDct (.str k) (dctS ks f) = some (.bl (decide (k ∈ ks))) := by
  show some (D.bl (valD (dS ks f) (.inr k)).isSome) = _
  rw [valD_dS]; by_cases h : k ∈ ks <;> simp [h]
theorem notInDct_dS : notInDct (.str k) (dctS ks f) = some (.bl (!decide (k ∈ ks))) := by
  show some (D.bl (!(valD (dS ks f) (.inr k)).isSome)) = _
  rw [valD_dS]; by_cases h : k ∈ ks <;> simp [h]
theorem any_dS : ((dS ks f).any fun kv => decide (kv.1 = (Sum.inr k : Key))) = decide (k ∈ ks) := by
  unfold dS
  rw [List.any_map]
  induction ks with
  | nil => simp
  | cons a ks ih =>
    rw [List.any_cons, ih]
    by_cases e : a = k
    · subst e; simp
    · have e' : (decide ((Sum.inr a : Key) = Sum.inr k)) = false := decide_eq_false (fun z => e (by cases z; rfl))
      simp only [Function.comp, e']
      simp [show ¬ k = a from fun z => e z.symm]
theorem putD_new (h : k ∉ ks) : putD (dS ks f) (.inr k) v = dS (ks ++ [k]) (setK f k v) := by
  unfold putD
  rw [any_dS, if_neg (by simpa using h)]
  unfold dS
  rw [List.map_append]
  congr 1
  · refine List.map_congr_left fun x hx => ?_
    have : x ≠ k := fun e => h (e ▸ hx)
    simp [setK, this]
  · simp [setK]
theorem updD_dS (nd : ks.Nodup) (h : k ∈ ks) : updD (dS ks f) (.inr k) v = dS ks (setK f k v) := by
  induction ks with
  | nil => cases h
  | cons a ks ih =>
    rw [List.nodup_cons] at nd
    show updD ((.inr a, f a) :: dS ks f) (.inr k) v = (.inr a, setK f k v a) :: dS ks (setK f k v)
    unfold updD
    by_cases e : a = k
    · subst e
      rw [if_pos rfl]
      have : dS ks f = dS ks (setK f a v) := dS_congr fun x hx => by
        have : x ≠ a := fun e => nd.1 (e ▸ hx)
        simp [setK, this]
      rw [this]; simp [setK]
    · rw [if_neg (fun z => e (by cases z; rfl)), ih nd.2 ((List.mem_cons.mp h).resolve_left fun z => e z.symm)]
      simp [setK, e]
theorem pairs_dS : pairsOf' (ks.map fun k => .tup [.str k, f k]) = some (dS ks f) := by
  induction ks with
  | nil => rfl
  | cons a ks ih =>
    rw [List.map_cons]
    show (match pairOf (.tup [.str a, f a]), pairsOf' (ks.map fun k => .tup [.str k, f k]) with | some z, some zs => some (z :: zs) | _, _ => none) = _
    rw [ih]; rfl
theorem merge_dS (nd : ks.Nodup) : mergeD [] (dS ks f) = dS ks f := by
  have key : ∀ (l pre : List Str), (pre ++ l).Nodup → mergeD (dS pre f) (dS l f) = dS (pre ++ l) f := by
    intro l
    induction l with
    | nil => intro pre _; simp [mergeD, dS]
    | cons a l ih =>
      intro pre n
      have ha : a ∉ pre := fun z => by
        rw [List.nodup_append] at n
        exact n.2.2 a z a (by simp) rfl
      show mergeD (putD (dS pre f) (.inr a) (f a)) (dS l f) = _
      rw [putD_new ha, dS_congr (g := f) (fun x hx => by
        unfold setK; split
        · rename_i e; rw [e]
        · rfl), ih (pre ++ [a]) (by simpa using n)]
      simp
  exact key ks [] (by simpa using nd)
theorem dictD_dS (nd : ks.Nodup) : dictD [.lst (ks.map fun k => .tup [.str k, f k])] = some (dctS ks f) := by
  show (pairsOf' _).map _ = _
  rw [pairs_dS, Option.map_some, merge_dS nd]
end
section
variable {ρ : Rho} {i j : Nat} {ks : List Str} {f : Str → D} {k : Str}
theorem lockS_go {h : Rho → M Fl} {r : Fl} (e : ρ[i]? = some (some (dctS ks f))) (q : h ρ = pure r) : lockS i h ρ = pure r := by
  unfold lockS; rw [e]; dsimp only; rw [q, noE_pure]
theorem itemsL_pure (e : ρ[i]? = some (some (dctS ks f))) (z : ks.length ≤ 16000000) : itemsL i ρ = pure (ks.map fun k => .tup [.str k, f k]) := by
  have z' : (dS ks f).length ≤ sizeLine := by rw [dS_len]; exact sz_of z
  unfold itemsL
  rw [slot_at e, m_pure_bind]
  show (if (dS ks f).length ≤ sizeLine then pure ((dS ks f).map fun z => D.tup [keyD z.1, z.2]) else nope) = _
  rw [if_pos z']
  simp [dS, List.map_map, keyD, Function.comp_def]
theorem dputS_gen {fk fe : Rho → M D} {l : List (Key × D)} {d : D} (e : ρ[i]? = some (some (.dct l))) (hd : fe ρ = pure d) (hk : fk ρ = pure (.str k)) (z : l.length < 16000000) : dputS i fk fe ρ = pure (.nx (ρ.set i (some (.dct (putD l (.inr k) d))))) := by
  have z' : l.length < sizeLine := Nat.lt_of_lt_of_le z (sz_of (Nat.le_refl _))
  unfold dputS
  rw [slot_at e, m_pure_bind, asDct_dct, m_pure_bind, hd, m_pure_bind, hk, m_pure_bind]
  show ((opt (some (Sum.inr k : Key)) : M Key) >>= _) = _
  rw [opt_some, m_pure_bind, if_pos z']
theorem dputS_new {fk fe : Rho → M D} {d : D} (e : ρ[i]? = some (some (dctS ks f))) (hd : fe ρ = pure d) (hk : fk ρ = pure (.str k)) (h : k ∉ ks) (z : ks.length < 16000000) : dputS i fk fe ρ = pure (.nx (ρ.set i (some (dctS (ks ++ [k]) (setK f k d))))) := by
  rw [dputS_gen e hd hk (by rw [dS_len]; exact z), putD_new h]
theorem dappS_pure {fk fe : Rho → M D} {m : List D} {d : D} (e : ρ[i]? = some (some (dctS ks f))) (nd : ks.Nodup) (hk : fk ρ = pure (.str k)) (h : k ∈ ks) (hm : f k = .lst m) (hd : fe ρ = pure d) (z : m.length < 16000000) : dappS i fk fe ρ = pure (.nx (ρ.set i (some (dctS ks (setK f k (.lst (m ++ [d]))))))) := by
  have z' : m.length < sizeLine := Nat.lt_of_lt_of_le z (sz_of (Nat.le_refl _))
  unfold dappS
  rw [slot_at e, m_pure_bind, asDct_dct, m_pure_bind, hk, m_pure_bind]
  show ((opt (some (Sum.inr k : Key)) : M Key) >>= _) = _
  rw [opt_some, m_pure_bind, valD_dS, if_pos h, opt_some, m_pure_bind, hm, asLst_lst, m_pure_bind, hd, m_pure_bind, if_pos z', updD_dS nd h]
theorem get2F_pure {fd fk fx : Rho → M D} {x : D} (hd : fd ρ = pure (dctS ks f)) (hk : fk ρ = pure (.str k)) (hx : fx ρ = pure x) : get2F fd fk fx ρ = pure (if k ∈ ks then f k else x) := by
  unfold get2F
  rw [hd, m_pure_bind, asDct_dct, m_pure_bind, hk, m_pure_bind, hx, m_pure_bind]
  show ((opt (some (Sum.inr k : Key)) : M Key) >>= _) = _
  rw [opt_some, m_pure_bind, valD_dS]
  by_cases h : k ∈ ks <;> simp [h]
theorem dclL_pure {tg : D → Rho → Option Rho} {tk tv : Rho → M D} {ρ0 : Rho} : ∀ (l pre : List Str), (pre ++ l).Nodup → (∀ x ∈ l, ∃ ρ', tg (.str x) ρ0 = some ρ' ∧ tk ρ' = pure (.str x) ∧ tv ρ' = pure (.lst [])) →
    dclL tg (fun _ => pure true) tk tv ρ0 (pre.map fun k => (.inr k, [])) (sts l) = pure ((pre ++ l).map fun k => (.inr k, []))
  | [], pre, _, _ => by simp [dclL, sts]
  | a :: l, pre, n, h => by
    obtain ⟨ρ', h1, h2, h3⟩ := h a (by simp)
    have ha : a ∉ pre := fun z => by
      rw [List.nodup_append] at n
      exact n.2.2 a z a (by simp) rfl
    have hn : ((pre.map fun k => ((Sum.inr k : Key), ([] : List D))).any fun z => decide (z.1 = (Sum.inr a : Key))) = false := by
      rw [List.any_map, List.any_eq_false]
      intro x hx z
      have : x ≠ a := fun e => ha (e ▸ hx)
      simp [this] at z
    show dclL tg (fun _ => pure true) tk tv ρ0 _ (.str a :: sts l) = _
    unfold dclL
    rw [h1, opt_some, m_pure_bind, m_pure_bind, if_pos rfl, h2, m_pure_bind, h3, m_pure_bind]
    show ((opt (some (Sum.inr a : Key)) : M Key) >>= _) = _
    rw [opt_some, m_pure_bind, asLst_lst, m_pure_bind, if_neg (by rw [hn]; decide)]
    have := dclL_pure (tg := tg) (tk := tk) (tv := tv) (ρ0 := ρ0) l (pre ++ [a]) (by simpa using n) fun x hx => h x (by simp [hx])
    simpa using this
theorem dclF_pure {vs : List Nat} {fi : Rho → M (List D)} {tg : D → Rho → Option Rho} {tk tv : Rho → M D} (hi : fi ρ = pure (sts ks)) (nd : ks.Nodup) (h : ∀ x ∈ ks, ∃ ρ', tg (.str x) (wipeR ρ vs) = some ρ' ∧ tk ρ' = pure (.str x) ∧ tv ρ' = pure (.lst [])) :
    dclF vs fi tg (fun _ => pure true) tk tv ρ = pure (dctS ks fun _ => .lst []) := by
  unfold dclF
  rw [hi, m_pure_bind]
  have := dclL_pure (tg := tg) (tk := tk) (tv := tv) (ρ0 := wipeR ρ vs) ks [] (by simpa using nd) h
  rw [List.map_nil, List.nil_append] at this
  rw [this, noE_pure, m_pure_bind, List.map_map]
  rfl
end
end VL
namespace VL
open PySem PySem.Spec PyProof.Rows L2 TL
theorem forL_pre {α : Type} {tg : D → Rho → Option Rho} {body : Rho → M Fl} (enc : α → D) (P : List α → Rho → Prop) (l : List α) (ρ : Rho) (h0 : P [] ρ)
    (h : ∀ done a rest ρ, l = done ++ a :: rest → P done ρ → ∃ ρ1 ρ2, tg (enc a) ρ = some ρ1 ∧ body ρ1 = pure (.nx ρ2) ∧ P (done ++ [a]) ρ2) : ∃ ρ', forL tg body (l.map enc) ρ = pure (.nx ρ') ∧ P l ρ' := by
  have key : ∀ (r done : List α) (ρ : Rho), l = done ++ r → P done ρ → ∃ ρ', forL tg body (r.map enc) ρ = pure (.nx ρ') ∧ P l ρ' := by
    intro r
    induction r with
    | nil => intro done ρ e p; exact ⟨ρ, rfl, by rw [e, List.append_nil]; exact p⟩
    | cons a r ih =>
      intro done ρ e p
      obtain ⟨ρ1, ρ2, h1, h2, h3⟩ := h done a r ρ e p
      obtain ⟨ρ', e', p'⟩ := ih (done ++ [a]) ρ2 (by rw [e]; simp) h3
      exact ⟨ρ', by rw [List.map_cons, forL_step h1 h2, e'], p'⟩
  exact key l [] ρ rfl h0
theorem dct_eq {ks : List Str} {f g : Str → D} (h : ∀ x ∈ ks, f x = g x) : dctS ks f = dctS ks g := congrArg D.dct (dS_congr h)
theorem setK_lst (F : Str → List Str) (k : Str) (v : List Str) : setK (fun x => .lst (sts (F x))) k (.lst (sts v)) = fun x => .lst (sts (if x = k then v else F x)) := by
  funext x; unfold setK; split <;> rfl
theorem LoreOk.hnd {L : Lore} (h : LoreOk L) : L.hs.Nodup := (List.nodup_cons.mp h.nd).2
theorem LoreOk.homeNd {L : Lore} (h : LoreOk L) : (homeOf L).Nodup := h.hnd.filter _
theorem home_len {L : Lore} (h : LoreOk L) : (homeOf L).length ≤ 10 := Nat.le_trans (List.length_filter_le _ _) h.le
theorem home_sub {L : Lore} {x : Str} (h : x ∈ homeOf L) : x ∈ L.hs := (List.mem_filter.mp h).1
noncomputable abbrev bdO (L : Lore) : Str → List Str := bdL L.hs L.ls L.g
noncomputable abbrev rowO (L : Lore) : Str → List Str := rowOf (bdO L)
theorem towerO {L : Lore} (h : LoreOk L) : Tower (fun x => x ∈ homeOf L) (bdO L) := tower h.hnd
def LhomeOk (t : List D → M D) : Prop := ∀ L : Lore, LoreOk L → t [loreD L] = pure (.lst (sts (homeOf L)))
theorem l_home_ok {tc : List D → M D} (hC : LcomersOk tc) : LhomeOk (runD 1 (LB_l_home tc)) := by
  intro L hL
  have f := hL.few
  have f2 := hL.le
  have k := hC L [] hL.ok hL.okL (by simp) (by omega) (by simp) (by omega)
  refine runD_pure (retS_pure ?_)
  exact fnF_pure0 (ds := [loreD L, .lst (sts [])]) (consA_pure rfl (consA_pure rfl rfl)) rfl k
noncomputable def mOf (L : Lore) (l : List Str) (x : Str) : List Str := l.filter fun m => decide (x ≠ m) && !comB L.ls L.g [m] x
theorem mOf_app (L : Lore) (l : List Str) (a x : Str) : mOf L (l ++ [a]) x = if (decide (x ≠ a) && !comB L.ls L.g [a] x) = true then mOf L l x ++ [a] else mOf L l x := by
  unfold mOf
  rw [List.filter_append]
  by_cases e : (decide (x ≠ a) && !comB L.ls L.g [a] x) = true
  · rw [if_pos e, List.filter_cons_of_pos (p := fun m => decide (x ≠ m) && !comB L.ls L.g [m] x) e]; simp
  · rw [if_neg e, List.filter_cons_of_neg (p := fun m => decide (x ≠ m) && !comB L.ls L.g [m] x) e]; simp
theorem mOf_len (L : Lore) (l : List Str) (x : Str) : (mOf L l x).length ≤ l.length := List.length_filter_le _ _
end VL
namespace VL
open PySem PySem.Spec PyProof.Rows L2 TL
noncomputable def nearO (L : Lore) (h : Str) : Str := (rowO L h).headD L.g
noncomputable def treeD (L : Lore) : D := dctS (homeOf L) fun h => .str (nearO L h)
theorem row_step {L : Lore} (hL : LoreOk L) {h : Str} (hh : h ∈ homeOf L) (ne : bdO L h ≠ []) : nearO L h ∈ bdO L h ∧ atRank (bdO L) h ((bdO L h).length - 1) = [nearO L h] ∧ (bdO L (nearO L h)).length + 1 = (bdO L h).length ∧ rowO L h = nearO L h :: rowO L (nearO L h) := by
  obtain ⟨m, h1, h2, h3, h4⟩ := (towerO hL).row hh ne
  have e : nearO L h = m := by unfold nearO rowO; rw [h4]; rfl
  rw [e]; exact ⟨h1, h2, h3, h4⟩
theorem row_end {L : Lore} {h : Str} (e : bdO L h = []) : nearO L h = L.g ∧ rowO L h = [] := by
  have r : rowO L h = [] := rowOf_nil e
  exact ⟨by unfold nearO; rw [r]; rfl, r⟩
theorem bd_home {L : Lore} {h m : Str} (hm : m ∈ bdO L h) : m ∈ homeOf L := (List.mem_filter.mp hm).1
theorem gate_out {L : Lore} (hL : LoreOk L) : L.g ∉ homeOf L := fun z => hL.gate_ne _ (home_sub z) rfl
theorem home_ok {L : Lore} (hL : LoreOk L) : ∀ x ∈ homeOf L, OkS x := fun x hx => hL.ok x (by simp [home_sub hx])
theorem row_sub {L : Lore} (hL : LoreOk L) {h : Str} (hh : h ∈ homeOf L) : ∀ x ∈ rowO L h, x ∈ homeOf L := fun x hx => bd_home (((towerO hL).mem_row _ rfl hh x).mp hx)
theorem row_len {L : Lore} (hL : LoreOk L) : ∀ (n : Nat) {h : Str}, (bdO L h).length = n → h ∈ homeOf L → (rowO L h).length = n
  | 0, h, e, hh => by rw [(row_end (List.eq_nil_of_length_eq_zero e)).2]; rfl
  | n + 1, h, e, hh => by
    obtain ⟨h1, h2, h3, h4⟩ := row_step hL hh (fun z => by rw [z] at e; cases e)
    rw [h4, List.length_cons, row_len hL n (by omega) (bd_home h1)]
theorem bd_len {L : Lore} (hL : LoreOk L) (h : Str) : (bdO L h).length ≤ 10 := Nat.le_trans (List.length_filter_le _ _) (home_len hL)
theorem near_in {L : Lore} (hL : LoreOk L) {h : Str} (hh : h ∈ homeOf L) : nearO L h ∈ homeOf L ↔ bdO L h ≠ [] := by
  constructor
  · intro z e
    rw [(row_end e).1] at z
    exact gate_out hL z
  · intro ne
    exact bd_home (row_step hL hh ne).1
theorem web_home (L : Lore) : runD 1 LB_Web_home [webD L] = pure (.tup (sts (homeOf L))) := runD_pure (retS_pure (fldF_pure (l := webF L) rfl rfl))
theorem musts_by_ok {th tg tl tc thm : List D → M D} (hW : WebGet th tg tl) (hM : ∀ L, thm [webD L] = pure (.tup (sts (homeOf L)))) (hC : ComersOk tc) : ∀ L, LoreOk L → runD 5 (LB_musts_by_house tg thm tl tc) [webD L] = pure (dctS (homeOf L) fun h => .lst (sts (bdO L h))) := by
  intro L hL
  have nd := hL.homeNd
  have len := home_len hL
  have f := hL.few
  have ok := home_ok hL
  have hp : ∀ ρ : Rho, ρ[0]? = some (some (webD L)) → propF 0 thm (slot 0) ρ = pure (.tup (sts (homeOf L))) := fun ρ e => propF_pure (l := webF L) (slot_at e) (hM L)
  refine runD_pure ?_
  unfold LB_musts_by_house
  refine seqS_go (setS_pure (d := dctS (homeOf L) fun _ => .lst []) (dclF_pure (seqF_pure (hp _ rfl) rfl) nd fun x hx => ⟨_, rfl, slot_at rfl, lstF_S nilA_S (by simp)⟩)) ?_
  let P1 : List Str → Rho → Prop := fun done ρ => ∃ s2 s3 s4, ρ = [some (webD L), some (dctS (homeOf L) fun x => .lst (sts (mOf L done x))), s2, s3, s4]
  obtain ⟨ρ1, e1, s2, s3, s4, rfl⟩ := forL_pre (tg := tgN 2) (body := (seqS (setS 3 (fnF 3 tc [] (consA (propF 0 tl (slot 0)) (consA (propF 0 tg (slot 0)) (consA (tupF (consA (slot 2) nilA)) nilA))))) (forS (seqF (propF 0 thm (slot 0))) (tgN 4) (ifS (andB (tst (bin neD (slot 4) (slot 2))) (tst (bin notInD (slot 4) (slot 3)))) (dappS 1 (slot 4) (slot 2)) skip)))) D.str P1 (homeOf L) [some (webD L), some (dctS (homeOf L) fun _ => .lst []), none, none, none] ⟨none, none, none, rfl⟩ (by
    rintro done a rest ρ eh ⟨s2, s3, s4, rfl⟩
    have ha : a ∈ homeOf L := by rw [eh]; simp
    have oka : OkS a := ok a ha
    have hd : done.length ≤ 10 := by have := congrArg List.length eh; simp at this; omega
    obtain ⟨F, e, hF, hn, hl⟩ := hC (.tup (lanes L.ls)) L.ls L.g [a] rfl hL.okL (hL.ok _ (by simp)) (by simpa using oka) (by omega) (by simp)
    have okF : ∀ x ∈ F, OkS x := fun x hx => by
      rcases comes_start ((hF x).mpr (List.mem_cons_of_mem _ hx)) with h | h
      · rw [h]; exact hL.ok _ (by simp)
      · obtain ⟨p, hp, rfl⟩ := List.mem_map.mp h
        exact (hL.okL p hp).1
    let P2 : List Str → Rho → Prop := fun d2 ρ => ∃ s4, ρ = [some (webD L), some (dctS (homeOf L) fun x => .lst (sts (if x ∈ d2 then mOf L (done ++ [a]) x else mOf L done x))), some (.str a), some (.lst (sts F)), s4]
    obtain ⟨ρ2, e2, s4', rfl⟩ := forL_pre (tg := tgN 4) (body := (ifS (andB (tst (bin neD (slot 4) (slot 2))) (tst (bin notInD (slot 4) (slot 3)))) (dappS 1 (slot 4) (slot 2)) skip)) D.str P2 (homeOf L) [some (webD L), some (dctS (homeOf L) fun x => .lst (sts (mOf L done x))), some (.str a), some (.lst (sts F)), s4] ⟨s4, by simp⟩ (by
      rintro d2 h rest2 ρ eh2 ⟨s4, rfl⟩
      have hh : h ∈ homeOf L := by rw [eh2]; simp
      have okh : OkS h := ok h hh
      have hn : h ∉ d2 := fun z => by
        have := nd
        rw [eh2, List.nodup_append] at this
        exact this.2.2 h z h (by simp) rfl
      have hb : decide (h ∈ F) = comB L.ls L.g [a] h := by
        rw [comB_mem hF]
        have := hL.gate_ne h (home_sub hh)
        simp [this]
      have hml := mOf_len L done h
      have hg : ∀ ρ : Rho, ρ[4]? = some (some (.str h)) → ρ[2]? = some (some (.str a)) → ρ[3]? = some (some (.lst (sts F))) → andB (tst (bin neD (slot 4) (slot 2))) (tst (bin notInD (slot 4) (slot 3))) ρ = pure (!decide (h = a) && !decide (h ∈ F)) := fun ρ q5 q3 q4 =>
        andB_pure (tst_pure (bin_pure (slot_at q5) (slot_at q3) (ne_str okh oka))) fun _ => tst_pure (bin_pure (slot_at q5) (slot_at q4) (notIn_strsL okh okF))
      by_cases c : (!decide (h = a) && !decide (h ∈ F)) = true
      · refine ⟨_, _, rfl, ifS_t (hg _ rfl rfl rfl) c (dappS_pure (ks := homeOf L) (m := sts (mOf L done h)) rfl nd (slot_at rfl) hh (by rw [if_neg hn]) (slot_at rfl) (by simp; omega)), some (.str h), ?_⟩
        rw [show sts (mOf L done h) ++ [D.str a] = sts (mOf L done h ++ [a]) from by simp [sts], setK_lst]
        refine congrArg (fun z => [some (webD L), some z, some (.str a), some (.lst (sts F)), some (.str h)]) (dct_eq fun x hx => ?_)
        have em := mOf_app L done a h
        rw [hb] at c
        rw [if_pos (by simpa using c)] at em
        by_cases e : x = h
        · subst e; simp [em]
        · simp [e]
      · refine ⟨_, _, rfl, ifS_f (hg _ rfl rfl rfl) (by simpa using c) skip_pure, some (.str h), ?_⟩
        refine congrArg (fun z => [some (webD L), some z, some (.str a), some (.lst (sts F)), some (.str h)]) (dct_eq fun x hx => ?_)
        have em := mOf_app L done a h
        rw [hb] at c
        rw [if_neg (by simpa using c)] at em
        by_cases e : x = h
        · subst e; simp [em]
        · simp [e])
    refine ⟨_, _, rfl, seqS_go (setS_pure (d := .lst (sts F)) (fnF_pure0 (ds := [.tup (lanes L.ls), .str L.g, .tup (sts [a])]) (consA_pure (propF_pure (l := webF L) rfl (hW.l L)) (consA_pure (propF_pure (l := webF L) rfl (hW.g L)) (consA_pure (tupF_S (consA_S (slot_at rfl) nilA_S) (by simp)) rfl))) rfl e)) (forS_pure (seqF_pure (hp _ rfl) rfl) e2), some (.str a), some (.lst (sts F)), s4', ?_⟩
    refine congrArg (fun z => [some (webD L), some z, some (.str a), some (.lst (sts F)), s4']) (dct_eq fun x hx => ?_)
    rw [if_pos hx])
  refine seqS_go (forS_pure (seqF_pure (hp _ rfl) rfl) e1) ?_
  exact retS_pure rfl
theorem tree_of_ok {th tg tl tm : List D → M D} (hW : WebGet th tg tl) (hM : ∀ L, LoreOk L → tm [webD L] = pure (dctS (homeOf L) fun h => .lst (sts (bdO L h)))) : ∀ L, LoreOk L → runD 7 (LB_tree_of tg tm) [webD L] = pure (treeD L) := by
  intro L hL
  have nd := hL.homeNd
  have len := home_len hL
  have ok := home_ok hL
  refine runD_pure ?_
  unfold LB_tree_of
  refine seqS_go (parS_pure (a := dctS (homeOf L) fun h => .lst (sts (bdO L h))) (b := dctS [] fun _ => .non) (fnF_pure0 (ds := [webD L]) (consA_pure rfl rfl) rfl (hM L hL)) rfl) ?_
  let P1 : List Str → Rho → Prop := fun done ρ => ∃ s3 s4 s5, ρ = [some (webD L), some (dctS (homeOf L) fun h => .lst (sts (bdO L h))), some (dctS done fun h => .str (nearO L h)), s3, s4, s5, none]
  obtain ⟨ρ1, e1, s3, s4, s5, rfl⟩ := forL_pre (tg := (tgT 2 (tgCons (tgN 3) (tgCons (tgN 4) tgNil)))) (body := (seqS (setS 5 (lcF [6] (seqF (slot 4)) (tgN 6) (tst (bin eqD (callF lenD (consA (bin getD' (slot 1) (slot 6)) nilA)) (bin subD (callF lenD (consA (slot 4) nilA)) (fun _ => pure (.int 1))))) (slot 6))) (dputS 2 (slot 3) (ifV (tst (bin neD (slot 4) (lstF nilA))) (bin idxD (slot 5) (fun _ => pure (.int 0))) (propF 0 tg (slot 0)))))) (fun k : Str => D.tup [.str k, .lst (sts (bdO L k))]) P1 (homeOf L) [some (webD L), some (dctS (homeOf L) fun h => .lst (sts (bdO L h))), some (dctS [] fun _ => .non), none, none, none, none] ⟨none, none, none, rfl⟩ (by
    rintro done h rest ρ eh ⟨s3, s4, s5, rfl⟩
    have hh : h ∈ homeOf L := by rw [eh]; simp
    have hn : h ∉ done := fun z => by
      have := nd
      rw [eh, List.nodup_append] at this
      exact this.2.2 h z h (by simp) rfl
    have hd : done.length ≤ 10 := by have := congrArg List.length eh; simp at this; omega
    have hbl := bd_len hL h
    have okb : ∀ x ∈ bdO L h, OkS x := fun x hx => ok x (bd_home hx)
    refine ⟨_, _, rfl, seqS_go (setS_pure (d := .lst (sts ((bdO L h).filter fun m => decide (((bdO L m).length : Int) = (bdO L h).length - 1)))) ?_) (dputS_new (ks := done) rfl (d := .str (nearO L h)) ?_ (slot_at rfl) hn (by omega)), some (.str h), some (.lst (sts (bdO L h))), some (.lst (sts ((bdO L h).filter fun m => decide (((bdO L m).length : Int) = (bdO L h).length - 1)))), ?_⟩
    · refine (lcF_evS (enc := .str) (l := bdO L h) (out := fun x => x) (p := fun m => decide (((bdO L m).length : Int) = (bdO L h).length - 1)) (seqF_pure (slot_at rfl) rfl) rfl fun m hm => ?_).trans (by rw [List.map_id'])
      refine compAt_mk (b := decide (((bdO L m).length : Int) = (bdO L h).length - 1)) rfl (tst_pure (bin_pure (d := .int (bdO L m).length) (e := .int ((bdO L h).length - 1)) (callF_pure (ds := [.lst (sts (bdO L m))]) (consA_pure (bin_pure (slot_at rfl) (slot_at rfl) (getD'_dS (bd_home hm))) rfl) len_LS) (bin_pure (d := .int (bdO L h).length) (e := .int 1) (callF_pure (ds := [.lst (sts (bdO L h))]) (consA_pure (slot_at rfl) rfl) len_LS) rfl ?_) (eq_int _ _))) (fun _ => slot_at rfl) rfl rfl
      simp [subD, intI]
    · by_cases e : bdO L h = []
      · refine ifV_f (tst_pure (bin_pure (d := .lst (sts (bdO L h))) (e := .lst []) (slot_at rfl) (lstF_S nilA_S (by simp)) (ne_nilS okb))) (by simp [e]) ?_
        rw [(row_end e).1]
        exact propF_pure (l := webF L) rfl (hW.g L)
      · obtain ⟨r1, r2, r3, r4⟩ := row_step hL hh e
        refine ifV_t (tst_pure (bin_pure (d := .lst (sts (bdO L h))) (e := .lst []) (slot_at rfl) (lstF_S nilA_S (by simp)) (ne_nilS okb))) (by simp [e]) ?_
        have ef : ((bdO L h).filter fun m => decide (((bdO L m).length : Int) = (bdO L h).length - 1)) = [nearO L h] := by
          rw [← r2]
          unfold atRank
          refine List.filter_congr fun x _ => ?_
          have : (bdO L h).length ≠ 0 := by omega
          refine decide_eq_decide.mpr ⟨fun z => by omega, fun z => by omega⟩
        refine bin_pure (d := .lst (sts [nearO L h])) (e := .int 0) ?_ rfl rfl
        rw [ef]; rfl
    · refine congrArg (fun z => [some (webD L), some (dctS (homeOf L) fun h => .lst (sts (bdO L h))), some z, some (.str h), some (.lst (sts (bdO L h))), some (.lst (sts ((bdO L h).filter fun m => decide (((bdO L m).length : Int) = (bdO L h).length - 1)))), none]) (dct_eq fun x hx => ?_)
      unfold setK
      split
      · rename_i e; rw [e]
      · rfl)
  refine seqS_go (lockS_go (ks := homeOf L) rfl (forS_pure (itemsL_pure (ks := homeOf L) rfl (by omega)) e1)) ?_
  exact retS_pure rfl
end VL
namespace VL
open PySem PySem.Spec PyProof.Rows L2 TL
local macro_rules | `(tactic| walk_at "ok") => `(tactic| first | assumption | solve_by_elim (maxDepth := 4) | exact okS_k _ (by decide +kernel) | (refine okAll_cons ?_ ?_ <;> walk_at "ok") | (refine okAll_app ?_ ?_ <;> walk_at "ok") | (refine ⟨?_, ?_⟩ <;> walk_at "ok") | exact okAll_nil | (refine okAll_nub ?_; walk_at "ok") | (refine okAll_map ?_; intro _ _; walk_at "ok") | (refine okAll_fil ?_; walk_at "ok") | (refine okAll_map0 ?_; intro _ _; walk_at "ok") | (refine okAll_drop ?_; walk_at "ok") | (refine okAll_take ?_; walk_at "ok") | (refine mem_ok (by assumption) ?_; first | assumption | (simp; done)) | (refine ok_l1 (by assumption) ?_; first | assumption | (simp; done)) | (refine ok_l2 (by assumption) ?_; first | assumption | (simp; done)) | solve_by_elim (maxDepth := 5) | (simp at *; solve_by_elim (maxDepth := 5)))
local macro_rules | `(tactic| walk_at "sz") => `(tactic| first | exact Nat.le_of_ble_eq_true rfl | (simp; done) | with_reducible assumption | omega | (simp; omega) | (simp at *; omega))
local macro_rules | `(tactic| walk_at "op") => `(tactic| first | exact keysD_merge _ _ _ | exact len_LS | exact len_TS | exact len_LL | exact len_TL | exact any_map _ _ | exact all_map _ _ | exact slL_dS _ (by decide) | exact slL_tS _ (by decide) | exact slL_dL _ (by decide) | exact slL_tL _ (by decide) | exact slT_dS _ (by decide) | exact slT_tS _ (by decide) | rfl | with_reducible assumption | exact in_strsL (by walk_at "ok") (by walk_at "ok") | exact in_strsT (by walk_at "ok") (by walk_at "ok") | exact notIn_strsL (by walk_at "ok") (by walk_at "ok") | exact notIn_strsT (by walk_at "ok") (by walk_at "ok") | exact in_lanesL (by walk_at "ok") (by walk_at "ok") | exact in_lanesT (by walk_at "ok") (by walk_at "ok") | exact notIn_lanesL (by walk_at "ok") (by walk_at "ok") | exact notIn_lanesT (by walk_at "ok") (by walk_at "ok") | exact ne_nilS (by walk_at "ok") | exact ne_str (by walk_at "ok") (by walk_at "ok") | exact eq_str (by walk_at "ok") (by walk_at "ok") | exact eq_int _ _ | exact ne_int _ _ | exact catD_S (by walk_at "sz") | exact catD_L (by walk_at "sz") | exact catD_ok (by walk_at "sz") | exact keysD_merge _ _ _ | (apply_assumption <;> first | with_reducible assumption | walk_at "ok" | walk_at "sz"))
local macro_rules | `(tactic| walk_at "im") => `(tactic| first | exact isMap_sts _ | exact isMap_lanes _ | exact isMap_map _ _)
local macro_rules | `(tactic| walk_at "ca") => `(tactic| (intro a_ ha_; apply compAt_mk; rfl; (walk_at "ev"); (intro _; walk_at "ev"); rfl; rfl))
local macro_rules | `(tactic| walk_at "ca2") => `(tactic| (intro a_ ha_; constructor; (apply compAt_mk; rfl; (walk_at "ev"); (intro _; walk_at "ev"); rfl; rfl); (apply compAt_mk; rfl; (walk_at "ev"); (intro _; walk_at "ev"); rfl; rfl)))
local macro_rules | `(tactic| walk_at "ev") => `(tactic| first | with_reducible assumption | ((with_reducible apply slot_at); rfl) | with_reducible rfl | exact nilA_pure | ((with_reducible apply tst_pure); walk_at "ev") | ((with_reducible apply bin_pure); (walk_at "ev"); (walk_at "ev"); (walk_at "op")) | ((with_reducible apply binS_pure); (walk_at "ev"); (walk_at "ev"); (walk_at "op")) | ((with_reducible apply andB_pure); (walk_at "ev"); (intro _; walk_at "ev")) | ((with_reducible apply orB_pure); (walk_at "ev"); (intro _; walk_at "ev")) | ((with_reducible apply notB_pure); walk_at "ev") | ((with_reducible apply andV_pure); (walk_at "ev"); (intro _; walk_at "ev")) | ((with_reducible apply orV_pure); (walk_at "ev"); (intro _; walk_at "ev")) | ((with_reducible apply notV_pure); walk_at "ev") | ((with_reducible apply lstF_S); (walk_at "evS"); (walk_at "sz")) | ((with_reducible apply lstF_L); (walk_at "evL"); (walk_at "sz")) | ((with_reducible apply lstF_pure); (walk_at "ev"); (walk_at "sz")) | ((with_reducible apply tupF_S); (walk_at "evS"); (walk_at "sz")) | ((with_reducible apply tupF_L); (walk_at "evL"); (walk_at "sz")) | ((with_reducible apply tupF_pure); (walk_at "ev"); (walk_at "sz")) | ((with_reducible apply consA_pure); (walk_at "ev"); (walk_at "ev")) | ((with_reducible apply starA_pure); (walk_at "ev"); (walk_at "op"); (walk_at "ev")) | ((with_reducible apply callF_pure); (walk_at "ev"); (walk_at "op")) | ((with_reducible apply seqF_pure); (walk_at "ev"); (walk_at "op")) | ((with_reducible apply isiF_pure); (walk_at "ev"); (walk_at "op")) | ((with_reducible apply fldF_pure); (walk_at "ev"); rfl) | ((with_reducible apply propF_pure); (walk_at "ev"); (walk_at "op")) | ((with_reducible apply fnF_pure); (walk_at "ev"); rfl; (walk_at "op")) | ((with_reducible apply fnF_pure0); (walk_at "ev"); rfl; (walk_at "op")) | ((with_reducible apply lcF_ev0S); (walk_at "ev"); (walk_at "im"); (walk_at "ca")) | ((with_reducible apply lcF_ev0L); (walk_at "ev"); (walk_at "im"); (walk_at "ca")) | ((with_reducible apply lcF_ev0); (walk_at "ev"); (walk_at "im"); (walk_at "ca")) | ((with_reducible apply lcF_evS); (walk_at "ev"); (walk_at "im"); (walk_at "ca")) | ((with_reducible apply lcF_evL); (walk_at "ev"); (walk_at "im"); (walk_at "ca")) | ((with_reducible apply lcF_ev); (walk_at "ev"); (walk_at "im"); (walk_at "ca")) | ((with_reducible apply dcF_evS); (walk_at "ev"); (walk_at "im"); (walk_at "ca2")) | ((with_reducible apply slcF_pure); (walk_at "ev"); (walk_at "ev"); (walk_at "ev"); (walk_at "op")) | ((with_reducible apply partI_pure); (walk_at "ev")) | rfl)
local macro_rules | `(tactic| walk_at "evS") => `(tactic| first | with_reducible assumption | exact nilA_S | ((with_reducible apply consA_S); (walk_at "ev"); (walk_at "evS")) | ((with_reducible apply starA_S1); (walk_at "ev"); (walk_at "op")) | ((with_reducible apply starA_S); (walk_at "ev"); (walk_at "op"); (walk_at "evS")))
local macro_rules | `(tactic| walk_at "evL") => `(tactic| first | with_reducible assumption | exact nilA_L | ((with_reducible apply consA_L); (walk_at "ev"); (walk_at "evL")) | ((with_reducible apply starA_L1); (walk_at "ev"); (walk_at "op")) | ((with_reducible apply starA_L); (walk_at "ev"); (walk_at "op"); (walk_at "evL")))
local macro_rules | `(tactic| walk_at "st") => `(tactic| first | ((with_reducible apply seqS_go); (walk_at "st"); (walk_at "st")) | ((with_reducible apply setS_pure); walk_at "ev") | ((with_reducible apply retS_go); walk_at "ev") | ((with_reducible apply parS_pure); (walk_at "ev"); (walk_at "ev")) | exact skip_pure | ((with_reducible apply extS_S); (walk_at "ev"); (walk_at "ev"); (walk_at "sz")) | ((with_reducible apply extS_L); (walk_at "ev"); (walk_at "ev"); (walk_at "sz")) | ((with_reducible apply appS_pure); (walk_at "ev"); (walk_at "ev"); (walk_at "sz")) | ((with_reducible apply tgtS_pure); (walk_at "ev"); rfl) | ((with_reducible apply dropS_pure); walk_at "ev"))
local macro_rules | `(tactic| walk_at "evt") => `(tactic| (apply ev_to; (walk_at "ev"); rfl))
theorem one_T {a : Str} {l : List Str} (ha : OkS a) (hl : ∀ x ∈ l, OkS x) : runD 2 LB_is_one_of [.str a, .tup (sts l)] = pure (.bl (decide (a ∈ l))) := by
  refine runD_pure (retS_pure ?_)
  apply ev_to
  · walk_at "ev"
  · simp
theorem house_in {L : Lore} (hL : LoreOk L) {t1 : List D → M D} (h1 : ∀ (a : Str) (l : List Str), OkS a → (∀ x ∈ l, OkS x) → t1 [.str a, .tup (sts l)] = pure (.bl (decide (a ∈ l)))) {h : Str} (hh : h ∈ L.hs) : runD 2 (LB_Web_check_house t1) [webD L, .str h] = pure .non := by
  have oh : ∀ x ∈ L.hs, OkS x := fun x hx => hL.ok x (by simp [hx])
  refine runD_pureN (ρ := [some (webD L), some (.str h)]) ?_
  unfold LB_Web_check_house
  refine ifS_f (b := !decide (h ∈ L.hs)) (notB_pure (tst_pure (fnF_pure0 (ds := [.str h, .tup (sts L.hs)]) (consA_pure (slot_at rfl) (consA_pure (fldF_pure (l := webF L) (slot_at rfl) rfl) rfl)) rfl (h1 h L.hs (oh h hh) oh)))) (by simp [hh]) rfl
def CheckOk (t : List D → M D) : Prop := ∀ L, LoreOk L → ∀ h ∈ homeOf L, t [webD L, .str h] = pure .non
theorem check_home_ok {tc : List D → M D} (hc : ∀ L, LoreOk L → ∀ h ∈ L.hs, tc [webD L, .str h] = pure .non) : CheckOk (runD 2 (LB_Web_check_home tc)) := by
  intro L hL h hh
  refine runD_pureN (ρ := [some (webD L), some (.str h)]) ?_
  unfold LB_Web_check_home
  refine seqS_go (dropS_pure (methF_pure (l := webF L) (ds := [.str h]) (slot_at rfl) (consA_pure (slot_at rfl) rfl) rfl (hc L hL h (home_sub hh)))) ?_
  exact ifS_f (b := !decide (h ∈ homeOf L)) (tst_pure (bin_pure (slot_at rfl) (fldF_pure (l := webF L) (slot_at rfl) rfl) (notIn_strsT (home_ok hL h hh) (home_ok hL)))) (by simp [hh]) rfl
def AboveOk (t : List D → M D) : Prop := ∀ L, LoreOk L → ∀ h ∈ homeOf L, t [treeD L, .str h] = pure (.lst (sts (rowO L h)))
theorem above_ok : AboveOk (runD 3 LB_houses_above) := by
  intro L hL h hh
  refine runD_pure ?_
  unfold LB_houses_above
  refine seqS_go (setS_pure (d := .lst (sts [])) rfl) ?_
  let R : List Str × Str → Rho := fun st => [some (treeD L), some (.str st.2), some (.lst (sts st.1))]
  obtain ⟨st, e, ⟨I1, I2⟩, c⟩ := whileS_inv (g := (tst (bin inDct (get2F (slot 0) (slot 1) (fun _ => pure (.str ""))) (slot 0)))) (body := (seqS (setS 1 (bin getD' (slot 0) (slot 1))) (appS 2 (slot 1)))) R
    (fun st => st.2 ∈ homeOf L ∧ st.1 ++ rowO L st.2 = rowO L h) (fun st => (bdO L st.2).length) (fun st => decide (nearO L st.2 ∈ homeOf L))
    (fun st ⟨I1, I2⟩ => by
      refine tst_pure (bin_pure (d := .str (nearO L st.2)) ((get2F_pure (ks := homeOf L) (f := fun h => .str (nearO L h)) (k := st.2) (slot_at rfl) (slot_at rfl) rfl).trans (by rw [if_pos I1])) (slot_at rfl) inDct_dS))
    (fun st ⟨I1, I2⟩ hc => by
      have ne := (near_in hL I1).mp (by simpa using hc)
      obtain ⟨r1, r2, r3, r4⟩ := row_step hL I1 ne
      have hl : st.1.length ≤ 10 := by
        have := congrArg List.length I2
        rw [List.length_append, row_len hL _ rfl hh] at this
        have := bd_len hL h
        omega
      refine ⟨(st.1 ++ [nearO L st.2], nearO L st.2), seqS_go (setS_pure (d := .str (nearO L st.2)) (bin_pure (slot_at rfl) (slot_at rfl) (getD'_dS (f := fun h => .str (nearO L h)) I1))) ((appS_pure (l := sts st.1) (slot_at rfl) (slot_at rfl) (by simp; omega)).trans ?_), ⟨bd_home r1, ?_⟩, ?_⟩
      · simp [R, sts]
      · rw [← I2, r4]; simp
      · show (bdO L (nearO L st.2)).length < (bdO L st.2).length; omega)
    ([], h) ⟨hh, rfl⟩
  refine seqS_go e ?_
  have e2 : bdO L st.2 = [] := by
    by_cases z : bdO L st.2 = []
    · exact z
    · have := (near_in hL I1).mpr z
      simp [this] at c
  rw [(row_end e2).2, List.append_nil] at I2
  rw [← I2]
  exact retS_pure rfl
structure MustsOk (tm tn tpo tp : List D → M D) : Prop where
  m : ∀ L, LoreOk L → ∀ h ∈ homeOf L, tm [webD L, .str h] = pure (.tup (sts (rowO L h)))
  n : ∀ L, LoreOk L → ∀ h ∈ homeOf L, tn [webD L, .str h] = pure (.str (nearO L h))
  po : ∀ L, LoreOk L → ∀ h ∈ homeOf L, tpo [webD L, .str h] = pure (.lst (sts ((homeOf L).filter fun x => decide (h ∈ x :: rowO L x))))
  p : ∀ L, LoreOk L → ∀ h ∈ homeOf L, tp [webD L, .str h] = pure (.tup (sts ((homeOf L).filter fun x => decide (h ∈ x :: rowO L x))))
theorem musts_ok {tk ta tt thm : List D → M D} (hk : CheckOk tk) (ha : AboveOk ta) (ht : ∀ L, LoreOk L → tt [webD L] = pure (treeD L)) (hM : ∀ L, thm [webD L] = pure (.tup (sts (homeOf L)))) :
    MustsOk (runD 2 (LB_musts tk ta tt)) (runD 2 (LB_near tk tt)) (runD 4 (LB_part_of thm ta tt)) (runD 2 (LB_part tk (runD 4 (LB_part_of thm ta tt)))) := by
  have hpo : ∀ L, LoreOk L → ∀ h ∈ homeOf L, runD 4 (LB_part_of thm ta tt) [webD L, .str h] = pure (.lst (sts ((homeOf L).filter fun x => decide (h ∈ x :: rowO L x)))) := by
    intro L hL h hh
    have ok := home_ok hL
    refine runD_pure ?_
    unfold LB_part_of
    refine seqS_go (setS_pure (d := treeD L) (fnF_pure0 (ds := [webD L]) (consA_pure rfl rfl) rfl (ht L hL))) (retS_pure ?_)
    refine (lcF_evS (enc := .str) (l := homeOf L) (out := fun x => x) (p := fun x => decide (h ∈ x :: rowO L x)) (seqF_pure (propF_pure (l := webF L) (slot_at rfl) (hM L)) rfl) rfl fun x hx => ?_).trans (by rw [List.map_id'])
    have hl : (rowO L x).length ≤ 10 := by rw [row_len hL _ rfl hx]; exact bd_len hL x
    have okr : ∀ y ∈ x :: rowO L x, OkS y := fun y hy => by
      rcases List.mem_cons.mp hy with rfl | hy
      · exact ok _ hx
      · exact ok _ (row_sub hL hx y hy)
    refine compAt_mk (b := decide (h ∈ x :: rowO L x)) rfl (tst_pure (bin_pure (d := .str h) (e := .lst (sts (x :: rowO L x))) (slot_at rfl) (lstF_S ?_ (by simp; omega)) (in_strsL (ok h hh) okr))) (fun _ => slot_at rfl) rfl rfl
    have e1 := consA_S (a := x) (m := rowO L x ++ []) (ρ := [some (webD L), some (.str h), some (treeD L), some (.str x)]) (slot_at (i := 3) rfl) (starA_S (d := .lst (sts (rowO L x))) (fnF_pure0 (n := 2) (F := ta) (fs := consA (slot 2) (consA (slot 3) nilA)) (ds := [treeD L, .str x]) (consA_pure (slot_at rfl) (consA_pure (slot_at rfl) rfl)) rfl (ha L hL x hx)) rfl nilA_S)
    rw [List.append_nil] at e1
    exact e1
  refine ⟨fun L hL h hh => ?_, fun L hL h hh => ?_, hpo, fun L hL h hh => ?_⟩
  all_goals refine runD_pure (seqS_go (dropS_pure (methF_pure (l := webF L) (ds := [.str h]) (slot_at rfl) (consA_pure (slot_at rfl) rfl) rfl (hk L hL h hh))) (retS_pure ?_))
  · refine callF_pure (ds := [.lst (sts (rowO L h))]) (consA_pure (fnF_pure0 (ds := [treeD L, .str h]) (consA_pure (fnF_pure0 (ds := [webD L]) (consA_pure rfl rfl) rfl (ht L hL)) (consA_pure (slot_at rfl) rfl)) rfl (ha L hL h hh)) rfl) rfl
  · exact bin_pure (d := treeD L) (fnF_pure0 (ds := [webD L]) (consA_pure rfl rfl) rfl (ht L hL)) (slot_at rfl) (getD'_dS (f := fun h => .str (nearO L h)) hh)
  · refine callF_pure (ds := [.lst (sts ((homeOf L).filter fun x => decide (h ∈ x :: rowO L x)))]) (consA_pure (fnF_pure0 (ds := [webD L, .str h]) (consA_pure rfl (consA_pure rfl rfl)) rfl (hpo L hL h hh)) rfl) rfl
end VL
namespace VL
open PySem PySem.Spec PyProof.Rows L2 TL
theorem near_self {L : Lore} (hL : LoreOk L) {s : Str} (hs : s ∈ homeOf L) : nearO L s ≠ s := fun z => by
  by_cases e : bdO L s = []
  · rw [(row_end e).1] at z
    exact gate_out hL (z ▸ hs)
  · have := (row_step hL hs e).1
    rw [z] at this
    exact (towerO hL).irr s hs this
theorem near_above {L : Lore} (hL : LoreOk L) {s e : Str} (hs : s ∈ homeOf L) (hl : (s, e) ∈ L.ls) (he : e ∈ homeOf L) (ne : e ≠ nearO L s) : nearO L s = L.g ∨ nearO L s ∈ rowO L e := by
  by_cases z : bdO L s = []
  · exact .inl (row_end z).1
  · right
    have h1 := (row_step hL hs z).1
    obtain ⟨a1, a2, a3⟩ := mem_bdL.mp h1
    refine ((towerO hL).mem_row _ rfl he _).mpr (mem_bdL.mpr ⟨a1, ne, fun c => a3 (.step hl c (by simpa using a2))⟩)
structure SibAt (L : Lore) (s e p : Str) : Prop where
  home : p ∈ homeOf L
  same : ((e :: rowO L e).find? fun x => decide (nearO L x = nearO L s)) = ((p :: rowO L p).find? fun x => decide (nearO L x = nearO L s))
  own : s ∈ e :: rowO L e ↔ s ∈ p :: rowO L p
  up : nearO L s = L.g ∨ nearO L s ∈ rowO L p
theorem SibAt.step {L : Lore} (hL : LoreOk L) {s e p : Str} (I : SibAt L s e p) (n1 : nearO L p ≠ nearO L s) (n2 : p ≠ s) : SibAt L s e (nearO L p) ∧ (bdO L (nearO L p)).length < (bdO L p).length := by
  have ne : bdO L p ≠ [] := fun z => by
    obtain ⟨z1, z2⟩ := row_end z
    rcases I.up with h | h
    · exact n1 (z1.trans h.symm)
    · rw [z2] at h; cases h
  obtain ⟨r1, r2, r3, r4⟩ := row_step hL I.home ne
  refine ⟨⟨bd_home r1, ?_, ?_, ?_⟩, by omega⟩
  · rw [I.same, r4, List.find?_cons_of_neg (by simpa using n1)]
  · rw [I.own, r4, List.mem_cons]
    exact ⟨fun z => z.resolve_left (Ne.symm n2), .inr⟩
  · rcases I.up with h | h
    · exact .inl h
    · rw [r4] at h
      exact .inr ((List.mem_cons.mp h).resolve_left (Ne.symm n1))
theorem SibAt.done {L : Lore} (hL : LoreOk L) {s e p : Str} (hs : s ∈ homeOf L) (I : SibAt L s e p) (n : nearO L p = nearO L s) : ((e :: rowO L e).find? fun x => decide (nearO L x = nearO L s)) = some p ∧ (p = s ↔ s ∈ e :: rowO L e) := by
  refine ⟨by rw [I.same, List.find?_cons_of_pos (by simpa using n)], ?_⟩
  rw [I.own, List.mem_cons]
  refine ⟨fun z => .inl z.symm, fun z => z.elim Eq.symm fun z => ?_⟩
  exfalso
  have T := towerO hL
  have hb := (T.mem_row _ rfl I.home s).mp z
  have ne : bdO L p ≠ [] := fun w => by rw [w] at hb; cases hb
  obtain ⟨r1, r2, r3, r4⟩ := row_step hL I.home ne
  rw [r4] at z
  rcases List.mem_cons.mp z with z | z
  · rw [n] at z; exact near_self hL hs z.symm
  · have hq := bd_home r1
    have h1 := (T.mem_row _ rfl hq s).mp z
    have l1 := T.lt hq h1
    have ne2 : bdO L s ≠ [] := (near_in hL hs).mp (n ▸ hq)
    have l2 := (row_step hL hs ne2).2.2.1
    rw [← n] at l2
    omega
theorem SibAt.start {L : Lore} (hL : LoreOk L) {s e : Str} (hs : s ∈ homeOf L) (hl : (s, e) ∈ L.ls) (he : e ∈ homeOf L) (ne : e ≠ nearO L s) : SibAt L s e e := ⟨he, rfl, Iff.rfl, near_above hL hs hl he ne⟩
end VL
namespace VL
open PySem PySem.Spec PyProof.Rows L2 TL
theorem okS_app {x y : Str} (hx : OkS x) (hy : OkS y) : OkS (x ++ y) := by
  unfold OkS at *
  show (x.cps ++ y.cps).all _ = true
  rw [Array.all_append, hx, hy]; rfl
theorem okS_join : ∀ (sep : Str) (ts : List Str), OkS sep → (∀ t ∈ ts, OkS t) → OkS (Str.join sep ts)
  | _, [], _, _ => by show OkS Str.empty; unfold OkS; decide +kernel
  | _, [x], _, h => h x (by simp)
  | sep, x :: y :: r, hs, h => okS_app (okS_app (h x (by simp)) hs) (okS_join sep (y :: r) hs fun t ht => h t (by simp [ht]))
mutual
/-- what repr shows well: leaves whose text is fine -/
def fineR : PyData → Bool
  | .none | .bool _ => true
  | .int i => (PyData.shown (.int i)).cps.all (· < 0x110000) && decide ((PyData.shown (.int i)).length ≤ 30) && decide (i.natAbs.log2 < 1920)
  | .str x => (reprText x).cps.all (· < 0x110000) && x.cps.toList.all fun c => decide (c < 16 ^ 8)
  | .list xs | .tuple xs => fineRs xs
  | .dict _ => false
def fineRs : List PyData → Bool
  | [] => true
  | x :: xs => fineR x && fineRs xs
end
mutual
theorem fine_shown : ∀ d : PyData, fineR d = true → OkS d.shown ∧ d.showable = true ∧ d.leavesShort 30 = true
  | .none, _ => ⟨by unfold OkS; decide +kernel, rfl, rfl⟩
  | .bool true, _ => ⟨by unfold OkS; decide +kernel, rfl, rfl⟩
  | .bool false, _ => ⟨by unfold OkS; decide +kernel, rfl, rfl⟩
  | .int i, h => by
    simp only [fineR, Bool.and_eq_true, decide_eq_true_eq] at h
    exact ⟨h.1.1, by simpa [PyData.showable] using h.2, by simpa [PyData.leavesShort] using h.1.2⟩
  | .str x, h => by
    simp only [fineR, Bool.and_eq_true] at h
    refine ⟨?_, rfl, ?_⟩
    · simp only [PyData.shown]; exact h.1
    · simp only [PyData.leavesShort]; exact h.2
  | .list xs, h => by
    obtain ⟨h1, h2, h3⟩ := fine_shownAll xs (by simpa only [fineR] using h)
    refine ⟨?_, by simpa only [PyData.showable] using h2, by simpa only [PyData.leavesShort] using h3⟩
    simp only [PyData.shown]
    rw [listText_eq_join]
    exact okS_app (okS_app (by unfold OkS; decide +kernel) (okS_join _ _ (by unfold OkS; decide +kernel) h1)) (by unfold OkS; decide +kernel)
  | .tuple xs, h => by
    obtain ⟨h1, h2, h3⟩ := fine_shownAll xs (by simpa only [fineR] using h)
    refine ⟨?_, by simpa only [PyData.showable] using h2, by simpa only [PyData.leavesShort] using h3⟩
    simp only [PyData.shown]
    unfold tupleText
    refine okS_app (okS_app (by unfold OkS; decide +kernel) (okS_join _ _ (by unfold OkS; decide +kernel) h1)) ?_
    split <;> (unfold OkS; decide +kernel)
  | .dict _, h => by simp [fineR] at h
theorem fine_shownAll : ∀ xs : List PyData, fineRs xs = true → (∀ t ∈ PyData.shownAll xs, OkS t) ∧ PyData.showableAll xs = true ∧ PyData.leavesShortAll 30 xs = true
  | [], _ => ⟨by simp [PyData.shownAll], rfl, rfl⟩
  | x :: xs, h => by
    simp only [fineRs, Bool.and_eq_true] at h
    obtain ⟨a1, a2, a3⟩ := fine_shown x h.1
    obtain ⟨b1, b2, b3⟩ := fine_shownAll xs h.2
    refine ⟨?_, ?_, ?_⟩
    · simp only [PyData.shownAll, List.mem_cons]
      rintro t (rfl | ht)
      · exact a1
      · exact b1 t ht
    · simp only [PyData.showableAll, a2, b2, Bool.and_self]
    · simp only [PyData.leavesShortAll, a3, b3, Bool.and_self]
end
def Shows (d : D) : Prop := ∃ p, toPy d = some p ∧ fineR p = true ∧ p.depth ≤ 60 ∧ p.weight ≤ 100000
theorem Shows.repr {d : D} (h : Shows d) : ∃ t, OkS t ∧ reprD [d] = some (.str t) := by
  obtain ⟨p, e, f, z1, z2⟩ := h
  obtain ⟨h1, h2, h3⟩ := fine_shown p f
  have h4 := PyData.shown_le 30 (by decide) p h3
  have h5 : p.shown.length ≤ sizeLine := sz_of (by omega)
  refine ⟨p.shown, h1, ?_⟩
  show (match toPy d with | some p => reprOf p | none => none) = _
  rw [e]
  show reprOf p = _
  unfold reprOf
  rw [if_pos ⟨h2, z1, h5⟩]
structure Fine (d : D) (k w : Nat) : Prop where
  ex : ∃ p, toPy d = some p ∧ fineR p = true ∧ p.depth ≤ k ∧ p.weight ≤ w
structure Fines (ds : List D) (k w : Nat) : Prop where
  ex : ∃ ps, toPyL ds = some ps ∧ fineRs ps = true ∧ PyData.depthAll ps ≤ k ∧ PyData.weightAll ps ≤ w
theorem Fine.shows {d : D} {k w : Nat} (h : Fine d k w) (hk : k ≤ 60) (hw : w ≤ 100000) : Shows d := by
  obtain ⟨p, h1, h2, h3, h4⟩ := h.ex
  exact ⟨p, h1, h2, by omega, by omega⟩
theorem Fine.mono {d : D} {k w k' w' : Nat} (h : Fine d k w) (hk : k ≤ k') (hw : w ≤ w') : Fine d k' w' := by
  obtain ⟨p, h1, h2, h3, h4⟩ := h.ex
  exact ⟨p, h1, h2, by omega, by omega⟩
theorem Fines.mono {d : List D} {k w k' w' : Nat} (h : Fines d k w) (hk : k ≤ k') (hw : w ≤ w') : Fines d k' w' := by
  obtain ⟨p, h1, h2, h3, h4⟩ := h.ex
  exact ⟨p, h1, h2, by omega, by omega⟩
theorem Fines.tup {ds : List D} {k w : Nat} (h : Fines ds k w) : Fine (.tup ds) (k + 1) w := by
  obtain ⟨ps, g1, g2, g3, g4⟩ := h.ex
  refine ⟨.tuple ps, by simp only [toPy, g1, Option.map_some], by simpa only [fineR] using g2, by simp only [PyData.depth]; omega, by simpa only [PyData.weight] using g4⟩
theorem Fines.lst {ds : List D} {k w : Nat} (h : Fines ds k w) : Fine (.lst ds) (k + 1) w := by
  obtain ⟨ps, g1, g2, g3, g4⟩ := h.ex
  refine ⟨.list ps, by simp only [toPy, g1, Option.map_some], by simpa only [fineR] using g2, by simp only [PyData.depth]; omega, by simpa only [PyData.weight] using g4⟩
end VL
namespace VL
section
variable {α : Type} [DecidableEq α] {ls : List (α × α)} {g : α}
def IsWay (ls : List (α × α)) (g : α) : List α → Prop
  | [] => False
  | [x] => x = g
  | x :: y :: r => (x, y) ∈ ls ∧ IsWay ls g (y :: r)
theorem IsWay.tail {x y : α} {r : List α} (h : IsWay ls g (x :: y :: r)) : IsWay ls g (y :: r) := h.2
theorem IsWay.suffix : ∀ {a : List α} {x : α} {r : List α}, IsWay ls g (a ++ x :: r) → IsWay ls g (x :: r)
  | [], _, _, h => h
  | [b], _, _, h => h.2
  | b :: c :: a, x, r, h => IsWay.suffix (a := c :: a) h.2
theorem IsWay.comes {k : α} : ∀ {p : List α} {x : α}, IsWay ls g (x :: p) → (∀ y ∈ x :: p, y ≠ k) → Comes ls g [k] x
  | [], x, h, _ => by
    obtain rfl : x = g := h
    exact .gate
  | y :: p, x, h, n => .step h.1 (IsWay.comes h.2 fun z hz => n z (by simp [hz])) (by simpa using n x (by simp))
theorem IsWay.home : ∀ {p : List α} {x : α}, IsWay ls g (x :: p) → Comes ls g [] x
  | [], x, h => by
    obtain rfl : x = g := h
    exact .gate
  | y :: p, x, h => .step h.1 (IsWay.home h.2) (by simp)
theorem IsWay.last : ∀ {p : List α} {x : α}, IsWay ls g (x :: p) → (x :: p).getLast? = some g
  | [], x, h => by
    obtain rfl : x = g := h
    rfl
  | y :: p, x, h => by rw [List.getLast?_cons_cons]; exact IsWay.last h.2
variable {hs : List α}
end
end VL
namespace VL
section
variable {α : Type} [DecidableEq α] {ls : List (α × α)} {g : α}
def endsOf (ls : List (α × α)) (x : α) : List α := (ls.filter fun p => decide (p.1 = x)).map (·.2)
theorem mem_endsOf {x y : α} : y ∈ endsOf ls x ↔ (x, y) ∈ ls := by
  unfold endsOf
  simp only [List.mem_map, List.mem_filter, decide_eq_true_eq]
  constructor
  · rintro ⟨⟨a, b⟩, ⟨h1, h2⟩, h3⟩
    simp at h2 h3
    subst h2 h3
    exact h1
  · intro h
    exact ⟨(x, y), ⟨h, rfl⟩, rfl⟩
structure PreW (ls : List (α × α)) (g h : α) (w : List α) : Prop where
  hd : ∃ a, w = h :: a
  nd : w.Nodup
  ng : g ∉ w
  go : ∀ y p, w.getLast? = some y → IsWay ls g (y :: p) → IsWay ls g (w ++ p)
theorem PreW.start {h : α} (n : h ≠ g) : PreW ls g h [h] where
  hd := ⟨[], rfl⟩
  nd := by simp
  ng := by simpa using Ne.symm n
  go := fun y p e w => by
    cases e
    exact w
theorem PreW.on {h y z : α} {w : List α} (P : PreW ls g h w) (e : w.getLast? = some y) (l : (y, z) ∈ ls) (n1 : z ≠ g) (n2 : z ∉ w) : PreW ls g h (w ++ [z]) where
  hd := by
    obtain ⟨a, rfl⟩ := P.hd
    exact ⟨a ++ [z], rfl⟩
  nd := by
    rw [List.nodup_append]
    refine ⟨P.nd, by simp, fun a ha b hb => ?_⟩
    simp at hb
    subst hb
    exact fun q => n2 (q ▸ ha)
  ng := by simp [P.ng, Ne.symm n1]
  go := fun y' p e' w' => by
    rw [List.getLast?_concat] at e'
    cases e'
    have := P.go y (z :: p) e ⟨l, w'⟩
    simpa using this
theorem PreW.done {h y : α} {w : List α} (P : PreW ls g h w) (e : w.getLast? = some y) (l : (y, g) ∈ ls) : IsWay ls g (w ++ [g]) ∧ (w ++ [g]).Nodup ∧ ∃ a, w ++ [g] = h :: a := by
  refine ⟨P.go y [g] e ⟨l, rfl⟩, ?_, ?_⟩
  · rw [List.nodup_append]
    refine ⟨P.nd, by simp, fun a ha b hb => ?_⟩
    simp at hb
    subst hb
    exact fun q => P.ng (q ▸ ha)
  · obtain ⟨a, rfl⟩ := P.hd
    exact ⟨a ++ [g], rfl⟩
structure DfsInv (ls : List (α × α)) (g h : α) (found waiting : List (List α)) : Prop where
  sound : ∀ w ∈ found, IsWay ls g w ∧ w.Nodup ∧ ∃ a, w = h :: a
  pre : ∀ w ∈ waiting, PreW ls g h w
  all : ∀ p, IsWay ls g (h :: p) → (h :: p).Nodup → (h :: p) ∈ found ∨ ∃ w ∈ waiting, ∃ r, h :: p = w ++ r ∧ r ≠ []
theorem DfsInv.start {h : α} (n : h ≠ g) : DfsInv ls g h [] [[h]] where
  sound := by simp
  pre := by
    intro w hw
    simp at hw
    subst hw
    exact .start n
  all := fun p w nd => .inr ⟨[h], by simp, p, rfl, fun e => by
    subst e
    exact n w⟩
def stepF (ls : List (α × α)) (g : α) (w : List α) (y : α) : List (List α) := ((endsOf ls y).filter fun e => decide (e = g)).map fun e => w ++ [e]
def stepW (ls : List (α × α)) (g : α) (w : List α) (y : α) : List (List α) := ((endsOf ls y).filter fun e => !decide (e = g) && !decide (e ∈ w)).map fun e => w ++ [e]
theorem IsWay.gate_end (ng : ∀ p ∈ ls, p.1 ≠ g) : ∀ {p : List α}, IsWay ls g (g :: p) → p = []
  | [], _ => rfl
  | y :: p, h => absurd rfl (ng _ h.1)
theorem DfsInv.step {h y : α} {found rest : List (List α)} {w : List α} (ng : ∀ p ∈ ls, p.1 ≠ g) (I : DfsInv ls g h found (rest ++ [w])) (e : w.getLast? = some y) : DfsInv ls g h (found ++ stepF ls g w y) (rest ++ stepW ls g w y) where
  sound := fun v hv => by
    rcases List.mem_append.mp hv with hv | hv
    · exact I.sound v hv
    · unfold stepF at hv
      simp only [List.mem_map, List.mem_filter, decide_eq_true_eq] at hv
      obtain ⟨z, ⟨h1, rfl⟩, rfl⟩ := hv
      exact (I.pre w (by simp)).done e (mem_endsOf.mp h1)
  pre := fun v hv => by
    rcases List.mem_append.mp hv with hv | hv
    · exact I.pre v (by simp [hv])
    · unfold stepW at hv
      simp only [List.mem_map, List.mem_filter, Bool.and_eq_true, Bool.not_eq_true', decide_eq_false_iff_not] at hv
      obtain ⟨z, ⟨h1, h2, h3⟩, rfl⟩ := hv
      exact (I.pre w (by simp)).on e (mem_endsOf.mp h1) h2 h3
  all := fun p hp nd => by
    rcases I.all p hp nd with z | ⟨v, hv, r, er, nr⟩
    · exact .inl (List.mem_append_left _ z)
    · rcases List.mem_append.mp hv with hv | hv
      · exact .inr ⟨v, List.mem_append_left _ hv, r, er, nr⟩
      · have hv : v = w := by simpa using hv
        subst hv
        obtain ⟨z, r', rfl⟩ := List.exists_cons_of_ne_nil nr
        obtain ⟨b, eb⟩ : ∃ b, v = b ++ [y] := by
          have := List.getLast?_eq_some_iff.mp e
          exact this
        have hp2 : IsWay ls g (y :: z :: r') := by
          rw [er, eb] at hp
          have : b ++ [y] ++ z :: r' = b ++ y :: (z :: r') := by simp
          rw [this] at hp
          exact hp.suffix
        have hl : z ∈ endsOf ls y := mem_endsOf.mpr hp2.1
        by_cases q : z = g
        · subst q
          have er' : r' = [] := hp2.2.gate_end ng
          subst er'
          refine .inl (List.mem_append_right _ ?_)
          unfold stepF
          rw [er]
          exact List.mem_map.mpr ⟨z, List.mem_filter.mpr ⟨hl, by simp⟩, rfl⟩
        · have nz : z ∉ v := fun hz => by
            rw [er, List.nodup_append] at nd
            exact nd.2.2 z hz z (by simp) rfl
          refine .inr ⟨v ++ [z], List.mem_append_right _ (List.mem_map.mpr ⟨z, List.mem_filter.mpr ⟨hl, by simp [q, nz]⟩, rfl⟩), r', by rw [er]; simp, fun e0 => ?_⟩
          subst e0
          exact q hp2.2
theorem DfsInv.done {h : α} {found : List (List α)} (I : DfsInv ls g h found []) (w : List α) : w ∈ found ↔ IsWay ls g w ∧ w.Nodup ∧ ∃ a, w = h :: a := by
  refine ⟨I.sound w, ?_⟩
  rintro ⟨h1, h2, a, rfl⟩
  exact (I.all a h1 h2).resolve_right (by simp)
end
end VL
namespace VL
open PySem PySem.Spec PyProof.Rows L2 TL
theorem un_pure {g : D → Option D} {fa : Rho → M D} {ρ : Rho} {d z : D} (h : fa ρ = pure d) (k : g d = some z) : un g fa ρ = pure z := by
  unfold un; rw [h, m_pure_bind, k, opt_some]
theorem idx_last {l : List D} {d : D} : idxD (.tup (l ++ [d])) (.int (-1)) = some d := by
  show L2.atI (l ++ [d]) (-1) = some d
  unfold L2.atI L2.ixN
  have h1 : ¬ (0 : Int) ≤ -1 := by decide
  rw [if_neg h1, if_pos (by simp; omega)]
  have : ((-1 : Int) + ((l ++ [d]).length : Nat)).toNat = l.length := by simp; omega
  show (l ++ [d])[((-1 : Int) + ((l ++ [d]).length : Nat)).toNat]? = some d
  rw [this]; simp
end VL
namespace VL
open PySem PySem.Spec PyProof.Rows L2 TL
def Nx (m : M Fl) (P : Rho → Prop) : Prop := ∃ ρ', m = pure (.nx ρ') ∧ P ρ'
section
variable {f g : Rho → M Fl} {ρ : Rho} {P Q : Rho → Prop}
theorem nx_of {m : M Fl} {ρ' : Rho} (h : m = pure (.nx ρ')) (p : P ρ') : Nx m P := ⟨ρ', h, p⟩
theorem Nx.imp {m : M Fl} (h : Nx m P) (k : ∀ ρ', P ρ' → Q ρ') : Nx m Q := let ⟨ρ', e, p⟩ := h; ⟨ρ', e, k _ p⟩
theorem nx_seq (h : Nx (f ρ) P) (k : ∀ ρ', P ρ' → Nx (g ρ') Q) : Nx (seqS f g ρ) Q := by
  obtain ⟨ρ1, e1, p1⟩ := h
  obtain ⟨ρ2, e2, p2⟩ := k ρ1 p1
  exact ⟨ρ2, by rw [seqS_pure e1, e2], p2⟩
theorem nx_go {ρ1 : Rho} (h : f ρ = pure (.nx ρ1)) (k : Nx (g ρ1) Q) : Nx (seqS f g ρ) Q := nx_seq (nx_of (P := fun r => r = ρ1) h rfl) fun ρ' e => by rw [e]; exact k
theorem tk_nx {k : Nat} {R : Fl → Prop} (h : Nx (f ρ) P) (q : ∀ ρ', P ρ' → Tk k (g ρ') R) : Tk k (seqS f g ρ) R := by
  obtain ⟨ρ1, e1, p1⟩ := h
  rw [seqS_pure e1]; exact q ρ1 p1
theorem nx_for {α : Type} {fi : Rho → M (List D)} {tg : D → Rho → Option Rho} {body : Rho → M Fl} (enc : α → D) (P : List α → Rho → Prop) (l : List α) (hi : fi ρ = pure (l.map enc)) (h0 : P [] ρ)
    (h : ∀ done a rest ρ, l = done ++ a :: rest → P done ρ → ∃ ρ1, tg (enc a) ρ = some ρ1 ∧ Nx (body ρ1) (P (done ++ [a]))) : Nx (forS fi tg body ρ) (P l) := by
  obtain ⟨ρ', e, p⟩ := forL_pre (tg := tg) (body := body) enc P l ρ h0 fun done a rest ρ2 e p => by
    obtain ⟨ρ1, e1, ρ3, e2, p2⟩ := h done a rest ρ2 e p
    exact ⟨ρ1, ρ3, e1, e2, p2⟩
  exact ⟨ρ', forS_pure hi e, p⟩
theorem nx_ifF {t : Rho → M Bool} (h : t ρ = pure false) (k : Nx (g ρ) Q) : Nx (ifS t f g ρ) Q := by
  obtain ⟨ρ1, e1, p1⟩ := k
  exact ⟨ρ1, ifS_f h rfl e1, p1⟩
theorem nx_ifT {t : Rho → M Bool} (h : t ρ = pure true) (k : Nx (f ρ) Q) : Nx (ifS t f g ρ) Q := by
  obtain ⟨ρ1, e1, p1⟩ := k
  exact ⟨ρ1, ifS_t h rfl e1, p1⟩
theorem nx_skip (p : P ρ) : Nx (skip ρ) P := ⟨ρ, rfl, p⟩
end
end VL
namespace VL
section
variable {α : Type} [DecidableEq α]
structure Flat (S : List α) (E : List (α × α)) (g : α) : Prop where
  nd : S.Nodup
  gS : g ∉ S
  eN : E.Nodup
  st : ∀ p ∈ E, p.1 ∈ S
  en : ∀ p ∈ E, p.2 = g ∨ p.2 ∈ S
  ne : ∀ p ∈ E, p.1 ≠ p.2
  home : ∀ v ∈ S, Comes E g [] v
  ok : ∀ v ∈ S, ∀ u, u ≠ v → u ≠ g → Comes E g [u] v
def Rowed (S : List α) (E : List (α × α)) (g : α) (pos : α → Int) : Prop :=
  (∀ x ∈ S, ∀ y ∈ S, pos x = pos y → x = y) ∧ ∀ v ∈ S, (v, g) ∉ E → (∃ a ∈ S, (v, a) ∈ E ∧ pos a < pos v) ∧ ∃ b ∈ S, (v, b) ∈ E ∧ pos v < pos b
theorem comes_last {E : List (α × α)} {g v : α} {gone : List α} {x : α} (h : Comes E g gone x) : Comes E g (v :: gone) x ∨ ∃ w, (v, w) ∈ E ∧ Comes E g (v :: gone) w := by
  induction h with
  | gate => exact .inl .gate
  | step h1 h2 h3 ih =>
    rename_i s e
    rcases ih with ih | ih
    · by_cases q : s = v
      · subst q; exact .inr ⟨e, h1, ih⟩
      · exact .inl (.step h1 ih (by simp [q, h3]))
    · exact .inr ih
theorem comes_on {E : List (α × α)} {g v : α} {gone : List α} (hv : v ≠ g) (h : Comes E g gone v) : ∃ w, (v, w) ∈ E ∧ Comes E g (v :: gone) w := by
  rcases comes_last (v := v) h with q | q
  · rcases comes_gone q with z | z
    · exact absurd z hv
    · simp at z
  · exact q
theorem Rowed.more {S : List α} {E E' : List (α × α)} {g : α} {pos : α → Int} (R : Rowed S E' g pos) (h : ∀ p ∈ E', p ∈ E) (hg : ∀ v, (v, g) ∈ E' → (v, g) ∈ E) : Rowed S E g pos := by
  refine ⟨R.1, fun v hv n => ?_⟩
  obtain ⟨⟨a, a1, a2, a3⟩, b, b1, b2, b3⟩ := R.2 v hv fun z => n (hg v z)
  exact ⟨⟨a, a1, h _ a2, a3⟩, b, b1, h _ b2, b3⟩
theorem Flat.other {S : List α} {E : List (α × α)} {g v x : α} (F : Flat S E g) (hv : v ∈ S) (n : x ≠ v) (xg : x ≠ g) : ∃ z, (v, z) ∈ E ∧ z ≠ x := by
  have vg : v ≠ g := fun z => F.gS (z ▸ hv)
  obtain ⟨b, hb, c⟩ := comes_on vg (F.ok v hv x n xg)
  refine ⟨b, hb, fun z => ?_⟩
  rcases comes_gone c with q | q
  · exact xg (z ▸ q)
  · simp [z] at q
end
end VL
namespace VL
section
variable {α : Type} [DecidableEq α] {ls : List (α × α)} {g : α} {hs : List α}
def stepsOf : List α → List (α × α)
  | x :: y :: r => (x, y) :: stepsOf (y :: r)
  | _ => []
theorem steps_in : ∀ {w : List α}, IsWay ls g w → ∀ p ∈ stepsOf w, p ∈ ls
  | [], _, p, h => by simp [stepsOf] at h
  | [x], _, p, h => by simp [stepsOf] at h
  | x :: y :: r, w, p, h => by
    simp only [stepsOf, List.mem_cons] at h
    rcases h with rfl | h
    · exact w.1
    · exact steps_in w.tail p h
end
end VL
namespace VL
open PySem PySem.Spec PyProof.Rows L2
def ZipO (h : Heap) (z TI TO : Addr) (f0 : Value) (f : Bool) : Prop := h.get? z = some { cls := .type "zip", dict := none, data := .fields #[f0, .bool f, .bool false, .ref TI, .ref TO], slots := #[] }
def LastP (f0 : Value) : Prop := f0 = .none ∨ ∃ T : Nat, f0 = rawInt T
section
variable {prog : Program} {w : World} {A : Around} {E : Value → Shared → Prop} {s : Shared} {z TI TO i1 i2 : Addr} {fp1 fp2 : List Addr} {n1 n2 i : Nat} {P1 P2 : Nat → Value → Prop} {St1 St2 : Nat → Heap → Prop} {a1 a2 : Value}
theorem owned_free {f0 : Value} {f : Bool} {Q : Bool → Shared → Prop} (hz : ZipO s.heap z TI TO f0 f) (hl : LastP f0) (hT : Q true s)
    (hF : ∀ h', ZipO h' z TI TO f0 true → Heap.SameBut z s.heap h' → Q false { s with heap := h' }) : wpAny (model prog w) A (Builtin.SmallTypes.ownedTupleIsFree (.ref z)) Q E s := by
  unfold Builtin.SmallTypes.ownedTupleIsFree
  refine wpAny_bind (wpAny_field hz rfl (x := f0) rfl ?_)
  rcases hl with rfl | ⟨T, rfl⟩
  · exact wpAny_pure hT
  · show wpAny _ _ (loadIfAlive ((T : Int).toNat) >>= _) _ _ _
    rw [Int.toNat_natCast]
    have al : ∀ {Q' : Option Obj → Shared → Prop}, Q' (s.heap.get? T) s → wpAny (model prog w) A (loadIfAlive T) Q' E s := fun h _ _ _ => h
    cases ho : s.heap.get? T with
    | none =>
      refine wpAny_bind (al ?_)
      rw [ho]
      exact wpAny_pure hT
    | some o =>
      refine wpAny_bind (al ?_)
      rw [ho]
      simp only [Option.isNone_some, Bool.false_eq_true, if_false]
      refine wpAny_bind (wpAny_field hz rfl (x := .bool f) rfl ?_)
      cases f with
      | true =>
        rw [if_neg (show ¬ ((Value.bool true != Value.bool true) = true) from Bool.false_ne_true)]
        exact wpAny_pure (hF _ hz (Heap.SameBut.refl _ _))
      | false =>
        rw [if_pos (show (Value.bool false != Value.bool true) = true from rfl)]
        exact wpAny_bind (wpAny_setField_rec hz (by simp) fun h' hz' sb => wpAny_pure (hF h' hz' sb))
def EndsAt (prog : Program) (w : World) (A : Around) (it : Addr) (n i : Nat) (St : Nat → Heap → Prop) : Prop := ∀ (s : Shared) (Q : Value → Shared → Prop) (E : Value → Shared → Prop), St i s.heap → n ≤ i →
  (∀ h' e, Heap.ExtBut it s.heap h' → (∃ o, h'.get? e = some o ∧ o.cls = .type "StopIteration") → E (.ref e) { s with heap := h' }) → wpAny (model prog w) A (Builtin.SmallTypes.nextOf (.ref it)) Q E s
theorem zipN_item {f0 : Value} {f : Bool} {Q : Value → Shared → Prop} (S : ZipSep2 z TI TO i1 i2 fp1 fp2) (D1 : Draws prog w A i1 fp1 n1 P1 St1) (D2 : Draws prog w A i2 fp2 n2 P2 St2)
    (hz : ZipO s.heap z TI TO f0 f) (hl : LastP f0) (hTI : IsTupOf2 s.heap TI (.ref i1) (.ref i2)) (hTO : IsTupOf2 s.heap TO a1 a2) (st1 : St1 i s.heap) (st2 : St2 i s.heap) (l1 : i < n1) (l2 : i < n2)
    (hQ : ∀ x1 x2 h' tk f' b1 b2, P1 i x1 → P2 i x2 → (∃ f1, LastP f1 ∧ ZipO h' z TI TO f1 f') → IsTupOf2 h' TO b1 b2 → St1 (i + 1) h' → St2 (i + 1) h' → IsTupOf2 h' s.heap.objs.size x1 x2 →
      (∀ c o, c ≠ z → c ≠ TO → c ≠ i1 → c ≠ i2 → s.heap.get? c = some o → h'.get? c = some o) → Q (.ref s.heap.objs.size) { s with heap := h', toks := tk }) :
    wpAny (model prog w) A (Builtin.«zip.__next__» ⟨[.ref z], []⟩) (fun fin s' => ∃ v, fin = .done (.ret v) ∧ Q v s') E s := by
  obtain ⟨hp, g, d, tk0, os⟩ := s
  have zlt : z < hp.objs.size := Heap.lt_size hz
  show wpAny _ _ (field (.ref z) 2 >>= _) _ _ _
  refine wpAny_bind (wpAny_field hz rfl (x := .bool false) rfl ?_); show wpAny _ _ (field (.ref z) 3 >>= _) _ _ _
  refine wpAny_bind (wpAny_field hz rfl (x := .ref TI) rfl ?_); refine wpAny_bind (wpAny_seqItems hTI rfl ?_)
  show wpAny _ _ (Builtin.SmallTypes.ownedTupleIsFree (.ref z) >>= _) _ _ _
  refine wpAny_bind (owned_free hz hl ?_ fun k0 zk sk => ?_)
  · simp only [if_true]
    refine wpAny_bind (wpAny_rule ?_); refine wpAny_bind (wpAny_field hz rfl (x := .ref TO) rfl ?_)
    refine wpAny_bind (wpAny_setField_rec hz (by simp) fun h1 z1 s1 => ?_)
    replace z1 : ZipO h1 z TI TO .ellipsis f := z1; replace s1 : Heap.SameBut z hp h1 := s1
    refine wpAny_bind ?_; simp only [List.zipIdx_cons, List.zipIdx_nil, List.forIn_cons, List.forIn_nil]
    refine wpAny_bind (wpAny_bind (wpAny_onRaise ?_)); show wpAny _ _ (Builtin.SmallTypes.nextOf (.ref i1) >>= _) _ _ ⟨h1, g, d, tk0, os⟩
    refine wpAny_bind (D1.item i _ _ _ l1 (D1.over st1 s1 S.zf1) fun x1 h2 tk1 y1 n1' s2 => wpAny_pure ?_); replace s2 : Heap.SameBut i1 h1 h2 := s2
    have U2 : IsTupOf2 h2 TO a1 a2 := s2.extBut _ _ S.Ti1 (s1.extBut _ _ S.TOz hTO)
    refine wpAny_bind (wpAny_seqItems (s := ⟨h2, g, d, tk1, os⟩) U2 rfl ?_); refine wpAny_bind (updateSeq_IsTupOf2 (s := ⟨h2, g, d, tk1, os⟩) U2 fun h3 U3 s3 => ?_)
    replace U3 : IsTupOf2 h3 TO x1 a2 := U3; replace s3 : Heap.SameBut TO h2 h3 := s3
    refine wpAny_bind (wpAny_letGo (wpAny_pure ?_)); refine wpAny_bind (wpAny_bind (wpAny_onRaise ?_))
    show wpAny _ _ (Builtin.SmallTypes.nextOf (.ref i2) >>= _) _ _ ⟨h3, g, d, tk1, os⟩
    refine wpAny_bind (D2.item i _ _ _ l2 (D2.over (D2.over (D2.over st2 s1 S.zf2) s2 S.sep1_2) s3 S.Tf2) fun x2 h4 tk2 y2 n2' s4 => wpAny_pure ?_); replace s4 : Heap.SameBut i2 h3 h4 := s4
    have U4 : IsTupOf2 h4 TO x1 a2 := s4.extBut _ _ S.Ti2 U3
    refine wpAny_bind (wpAny_seqItems (s := ⟨h4, g, d, tk2, os⟩) U4 rfl ?_); refine wpAny_bind (updateSeq_IsTupOf2 (s := ⟨h4, g, d, tk2, os⟩) U4 fun h5 U5 s5 => ?_)
    replace U5 : IsTupOf2 h5 TO x1 x2 := U5; replace s5 : Heap.SameBut TO h4 h5 := s5
    refine wpAny_bind (wpAny_letGo (wpAny_pure (wpAny_pure ?_))); refine wpAny_bind (wpAny_seqItems (s := ⟨h5, g, d, tk2, os⟩) U5 rfl ?_)
    refine wpAny_bind (wpAny_newTuple ?_)
    have e5 : h5.objs.size = hp.objs.size := by rw [s5.1, s4.1, s3.1, s2.1, s1.1]
    have z5 : ZipO h5 z TI TO .ellipsis f := s5.extBut _ _ S.TOz.symm (s4.extBut _ _ S.zi2 (s3.extBut _ _ S.TOz.symm (s2.extBut _ _ S.zi1 z1)))
    show wpAny _ _ (Builtin.SmallTypes.ownedTupleHandOut (.ref z) (.ref h5.objs.size) >>= _) _ _ ⟨h5.push { cls := .type "tuple", data := .seq #[x1, x2] }, g, d, tk2, os⟩
    refine wpAny_bind ?_; unfold Builtin.SmallTypes.ownedTupleHandOut
    have z6 : ZipO (h5.push { cls := .type "tuple", data := .seq #[x1, x2] }) z TI TO .ellipsis f := Heap.get?_push_of_some _ z5
    refine wpAny_bind (wpAny_setField_rec z6 (by simp) fun h7 z7 s7 => ?_); replace z7 : ZipO h7 z TI TO (rawInt h5.objs.size) f := z7
    refine wpAny_setField_rec z7 (by simp) fun h8 z8 s8 => ?_; replace z8 : ZipO h8 z TI TO (rawInt h5.objs.size) false := z8
    replace s7 : Heap.SameBut z (h5.push { cls := .type "tuple", data := .seq #[x1, x2] }) h7 := s7; replace s8 : Heap.SameBut z h7 h8 := s8
    have up : ∀ c o, c ≠ z → h5.get? c = some o → h8.get? c = some o := fun c o q e => s8.extBut _ _ q (s7.extBut _ _ q (Heap.get?_push_of_some _ e))
    have nz : h5.objs.size ≠ z := by rw [e5]; exact Nat.ne_of_gt zlt
    have T8 : IsTupOf2 h8 h5.objs.size x1 x2 := s8.extBut _ _ nz (s7.extBut _ _ nz (Heap.get?_push_size _ rfl))
    rw [e5] at T8
    refine wpAny_pure ⟨_, rfl, ?_⟩; show Q (.ref h5.objs.size) ⟨h8, g, d, tk2, os⟩
    rw [e5]
    exact hQ x1 x2 h8 tk2 false x1 x2 y1 y2 ⟨_, .inr ⟨_, rfl⟩, z8⟩ (up _ _ S.TOz U5) (D1.frame _ _ _ (D1.over (D1.over (D1.over n1' s3 S.Tf1) s4 S.sep2_1) s5 S.Tf1) fun b hb o e => up b o (fun q => S.zf1 (q ▸ hb)) e)
      (D2.frame _ _ _ (D2.over n2' s5 S.Tf2) fun b hb o e => up b o (fun q => S.zf2 (q ▸ hb)) e) T8 fun c o q1 q2 q3 q4 e => up c o q1 (s5.extBut _ _ q2 (s4.extBut _ _ q4 (s3.extBut _ _ q2 (s2.extBut _ _ q3 (s1.extBut _ _ q1 e)))))
  · replace sk : Heap.SameBut z hp k0 := sk
    simp only [Bool.false_eq_true, if_false]
    refine wpAny_bind ?_
    rw [← Array.forIn_toList]
    simp only [List.forIn_cons, List.forIn_nil]
    refine wpAny_bind (wpAny_bind (wpAny_holding ?_)); show wpAny _ _ (Builtin.SmallTypes.nextOf (.ref i1) >>= _) _ _ ⟨k0, g, d, tk0, os⟩
    refine wpAny_bind (D1.item i _ _ _ l1 (D1.over st1 sk S.zf1) fun x1 h2 tk1 y1 n1' s2 => wpAny_pure ?_); replace s2 : Heap.SameBut i1 k0 h2 := s2
    refine wpAny_pure ?_
    refine wpAny_bind (wpAny_bind (wpAny_holding ?_)); show wpAny _ _ (Builtin.SmallTypes.nextOf (.ref i2) >>= _) _ _ ⟨h2, g, d, tk1, os⟩
    refine wpAny_bind (D2.item i _ _ _ l2 (D2.over (D2.over st2 sk S.zf2) s2 S.sep1_2) fun x2 h4 tk2 y2 n2' s4 => wpAny_pure ?_); replace s4 : Heap.SameBut i2 h2 h4 := s4
    refine wpAny_pure (wpAny_pure ?_)
    refine wpAny_bind (wpAny_newTuple ?_ (by show 2 ≤ sizeLine; decide))
    have e4 : h4.objs.size = hp.objs.size := by rw [s4.1, s2.1, sk.1]
    refine wpAny_pure ⟨_, rfl, ?_⟩
    show Q (.ref h4.objs.size) ⟨h4.push { cls := .type "tuple", data := .seq #[x1, x2] }, g, d, tk2, os⟩
    have T4 : IsTupOf2 (h4.push { cls := .type "tuple", data := .seq #[x1, x2] }) h4.objs.size x1 x2 := Heap.get?_push_size _ rfl
    rw [e4] at T4
    rw [e4]
    refine hQ x1 x2 _ tk2 true a1 a2 y1 y2 ⟨f0, hl, Heap.get?_push_of_some _ (s4.extBut _ _ S.zi2 (s2.extBut _ _ S.zi1 zk))⟩ (Heap.get?_push_of_some _ (s4.extBut _ _ S.Ti2 (s2.extBut _ _ S.Ti1 (sk.extBut _ _ S.TOz hTO))))
      (D1.frame _ _ _ (D1.over n1' s4 S.sep2_1) fun b hb o e => Heap.get?_push_of_some _ e) (D2.frame _ _ _ n2' fun b hb o e => Heap.get?_push_of_some _ e) T4 fun c o q1 q2 q3 q4 e => Heap.get?_push_of_some _ (s4.extBut _ _ q4 (s2.extBut _ _ q3 (sk.extBut _ _ q1 e)))
theorem zipN_end {f0 : Value} {f : Bool} {Q : Fin → Shared → Prop} (S : ZipSep2 z TI TO i1 i2 fp1 fp2) (D1 : Draws prog w A i1 fp1 n1 P1 St1) (D2 : Draws prog w A i2 fp2 n2 P2 St2)
    (hz : ZipO s.heap z TI TO f0 f) (hl : LastP f0) (hTI : IsTupOf2 s.heap TI (.ref i1) (.ref i2)) (hTO : IsTupOf2 s.heap TO a1 a2) (st1 : St1 i s.heap) (st2 : St2 i s.heap) (d1 : EndsAt prog w A i1 n1 i St1) (d2 : EndsAt prog w A i2 n2 i St2) (hend : n1 ≤ i ∨ n2 ≤ i)
    (hE : ∀ h' tk e, (∀ c o, c ≠ z → c ≠ TO → c ≠ i1 → c ≠ i2 → s.heap.get? c = some o → h'.get? c = some o) → (∃ o, h'.get? e = some o ∧ o.cls = .type "StopIteration") → E (.ref e) { s with heap := h', toks := tk }) :
    wpAny (model prog w) A (Builtin.«zip.__next__» ⟨[.ref z], []⟩) Q E s := by
  obtain ⟨hp, g, d, tk0, os⟩ := s
  show wpAny _ _ (field (.ref z) 2 >>= _) _ _ _
  refine wpAny_bind (wpAny_field hz rfl (x := .bool false) rfl ?_); show wpAny _ _ (field (.ref z) 3 >>= _) _ _ _
  refine wpAny_bind (wpAny_field hz rfl (x := .ref TI) rfl ?_); refine wpAny_bind (wpAny_seqItems hTI rfl ?_)
  show wpAny _ _ (Builtin.SmallTypes.ownedTupleIsFree (.ref z) >>= _) _ _ _
  refine wpAny_bind (owned_free hz hl ?_ fun k0 zk sk => ?_)
  · simp only [if_true]
    refine wpAny_bind (wpAny_rule ?_); refine wpAny_bind (wpAny_field hz rfl (x := .ref TO) rfl ?_)
    refine wpAny_bind (wpAny_setField_rec hz (by simp) fun h1 z1 s1 => ?_)
    replace z1 : ZipO h1 z TI TO .ellipsis f := z1; replace s1 : Heap.SameBut z hp h1 := s1
    refine wpAny_bind ?_; simp only [List.zipIdx_cons, List.zipIdx_nil, List.forIn_cons, List.forIn_nil]
    refine wpAny_bind (wpAny_bind (wpAny_onRaise ?_)); show wpAny _ _ (Builtin.SmallTypes.nextOf (.ref i1) >>= _) _ _ ⟨h1, g, d, tk0, os⟩
    by_cases l1 : i < n1
    · refine wpAny_bind (D1.item i _ _ _ l1 (D1.over st1 s1 S.zf1) fun x1 h2 tk1 y1 n1' s2 => wpAny_pure ?_); replace s2 : Heap.SameBut i1 h1 h2 := s2
      have U2 : IsTupOf2 h2 TO a1 a2 := s2.extBut _ _ S.Ti1 (s1.extBut _ _ S.TOz hTO)
      refine wpAny_bind (wpAny_seqItems (s := ⟨h2, g, d, tk1, os⟩) U2 rfl ?_); refine wpAny_bind (updateSeq_IsTupOf2 (s := ⟨h2, g, d, tk1, os⟩) U2 fun h3 U3 s3 => ?_)
      replace U3 : IsTupOf2 h3 TO x1 a2 := U3; replace s3 : Heap.SameBut TO h2 h3 := s3
      have e2 : n2 ≤ i := by omega
      refine wpAny_bind (wpAny_letGo (wpAny_pure ?_)); refine wpAny_bind (wpAny_bind (wpAny_onRaise ?_))
      show wpAny _ _ (Builtin.SmallTypes.nextOf (.ref i2) >>= _) _ _ ⟨h3, g, d, tk1, os⟩
      refine wpAny_bind (d2 ⟨h3, g, d, tk1, os⟩ _ _ (D2.over (D2.over (D2.over st2 s1 S.zf2) s2 S.sep1_2) s3 S.Tf2) e2 fun q e hq he => ?_)
      replace hq : Heap.ExtBut i2 h3 q := hq
      obtain ⟨oe, hoe, hce⟩ := he
      replace hoe : q.get? e = some oe := hoe
      have zq : ZipO q z TI TO .ellipsis f := hq _ _ S.zi2 (s3.extBut _ _ S.TOz.symm (s2.extBut _ _ S.zi1 z1))
      have ez : e ≠ z := fun x => by subst x; rw [zq] at hoe; cases hoe; simp at hce
      refine wpAny_setField_rec (s := ⟨q, g, d, tk1, os⟩) zq (by simp) fun q' _ sq => ?_; replace sq : Heap.SameBut z q q' := sq
      exact hE q' tk1 e (fun c o q1 q2 q3 q4 x => sq.extBut _ _ q1 (hq _ _ q4 (s3.extBut _ _ q2 (s2.extBut _ _ q3 (s1.extBut _ _ q1 x))))) ⟨oe, sq.extBut _ _ ez hoe, hce⟩
    · have e1 : n1 ≤ i := by omega
      refine wpAny_bind (d1 ⟨h1, g, d, tk0, os⟩ _ _ (D1.over st1 s1 S.zf1) e1 fun q e hq he => ?_)
      replace hq : Heap.ExtBut i1 h1 q := hq
      obtain ⟨oe, hoe, hce⟩ := he
      replace hoe : q.get? e = some oe := hoe
      have zq : ZipO q z TI TO .ellipsis f := hq _ _ S.zi1 z1
      have ez : e ≠ z := fun x => by subst x; rw [zq] at hoe; cases hoe; simp at hce
      refine wpAny_setField_rec (s := ⟨q, g, d, tk0, os⟩) zq (by simp) fun q' _ sq => ?_; replace sq : Heap.SameBut z q q' := sq
      exact hE q' tk0 e (fun c o q1 q2 q3 q4 x => sq.extBut _ _ q1 (hq _ _ q3 (s1.extBut _ _ q1 x))) ⟨oe, sq.extBut _ _ ez hoe, hce⟩
  · replace sk : Heap.SameBut z hp k0 := sk
    simp only [Bool.false_eq_true, if_false]
    refine wpAny_bind ?_
    rw [← Array.forIn_toList]
    simp only [List.forIn_cons, List.forIn_nil]
    refine wpAny_bind (wpAny_bind (wpAny_holding ?_)); show wpAny _ _ (Builtin.SmallTypes.nextOf (.ref i1) >>= _) _ _ ⟨k0, g, d, tk0, os⟩
    by_cases l1 : i < n1
    · refine wpAny_bind (D1.item i _ _ _ l1 (D1.over st1 sk S.zf1) fun x1 h2 tk1 y1 n1' s2 => wpAny_pure ?_); replace s2 : Heap.SameBut i1 k0 h2 := s2
      refine wpAny_pure ?_
      have e2 : n2 ≤ i := by omega
      refine wpAny_bind (wpAny_bind (wpAny_holding ?_)); show wpAny _ _ (Builtin.SmallTypes.nextOf (.ref i2) >>= _) _ _ ⟨h2, g, d, tk1, os⟩
      refine wpAny_bind (d2 ⟨h2, g, d, tk1, os⟩ _ _ (D2.over (D2.over st2 sk S.zf2) s2 S.sep1_2) e2 fun q e hq he => ?_)
      exact hE q tk1 e (fun c o q1 q2 q3 q4 x => hq _ _ q4 (s2.extBut _ _ q3 (sk.extBut _ _ q1 x))) he
    · have e1 : n1 ≤ i := by omega
      refine wpAny_bind (d1 ⟨k0, g, d, tk0, os⟩ _ _ (D1.over st1 sk S.zf1) e1 fun q e hq he => ?_)
      exact hE q tk0 e (fun c o q1 q2 q3 q4 x => hq _ _ q3 (sk.extBut _ _ q1 x)) he
end
section
variable {prog : Program} {w : World} {A : Around} {E : Value → Shared → Prop} {s : Shared} {z TI TO i1 i2 : Addr} {fp1 fp2 : List Addr} {n1 n2 i : Nat} {P1 P2 : Nat → Value → Prop} {St1 St2 : Nat → Heap → Prop} {a1 a2 : Value}
theorem next_zipN {f0 : Value} {f : Bool} {Q : Option Value → Shared → Prop} (S : ZipSep2 z TI TO i1 i2 fp1 fp2) (D1 : Draws prog w A.in1 i1 fp1 n1 P1 St1) (D2 : Draws prog w A.in1 i2 fp2 n2 P2 St2)
    (hz : ZipO s.heap z TI TO f0 f) (hl : LastP f0) (hTI : IsTupOf2 s.heap TI (.ref i1) (.ref i2)) (hTO : IsTupOf2 s.heap TO a1 a2) (st1 : St1 i s.heap) (st2 : St2 i s.heap) (l1 : i < n1) (l2 : i < n2)
    (hQ : ∀ x1 x2 h' tk f' b1 b2, P1 i x1 → P2 i x2 → (∃ f1, LastP f1 ∧ ZipO h' z TI TO f1 f') → IsTupOf2 h' TO b1 b2 → St1 (i + 1) h' → St2 (i + 1) h' → IsTupOf2 h' s.heap.objs.size x1 x2 →
      (∀ c o, c ≠ z → c ≠ TO → c ≠ i1 → c ≠ i2 → s.heap.get? c = some o → h'.get? c = some o) → Q (some (.ref s.heap.objs.size)) { s with heap := h', toks := tk }) :
    wpAny (model prog w) A (pyNext (.ref z)) Q E s := by
  have hT : s.TypeIs (.ref z) "zip" := ⟨_, hz, rfl⟩
  unfold pyNext
  exact wpAny_bind (wpAny_attempt (wpAny_callSpecial?_slot (name := Str.ofString "__next__") hT F.slot_zip_next (wpAny_call_entry F.slot_zip_next hT F.entry_zip_next
      (zipN_item S D1 D2 hz hl hTI hTO st1 st2 l1 l2 fun x1 x2 h' tk f' b1 b2 y1 y2 u v d1 d2 q5 q6 => wpAny_pure (hQ x1 x2 h' tk f' b1 b2 y1 y2 u v d1 d2 q5 q6)) (F.args_zip_next_1 _))))
theorem done_zipN {f0 : Value} {f : Bool} {Q : Option Value → Shared → Prop} (S : ZipSep2 z TI TO i1 i2 fp1 fp2) (D1 : Draws prog w A.in1 i1 fp1 n1 P1 St1) (D2 : Draws prog w A.in1 i2 fp2 n2 P2 St2)
    (hz : ZipO s.heap z TI TO f0 f) (hl : LastP f0) (hTI : IsTupOf2 s.heap TI (.ref i1) (.ref i2)) (hTO : IsTupOf2 s.heap TO a1 a2) (st1 : St1 i s.heap) (st2 : St2 i s.heap) (d1 : EndsAt prog w A.in1 i1 n1 i St1) (d2 : EndsAt prog w A.in1 i2 n2 i St2) (hend : n1 ≤ i ∨ n2 ≤ i)
    (hQ : ∀ h' tk, (∀ c o, c ≠ z → c ≠ TO → c ≠ i1 → c ≠ i2 → s.heap.get? c = some o → h'.get? c = some o) → Q none { s with heap := h', toks := tk }) : wpAny (model prog w) A (pyNext (.ref z)) Q E s := by
  have hT : s.TypeIs (.ref z) "zip" := ⟨_, hz, rfl⟩
  unfold pyNext
  refine wpAny_bind (wpAny_attempt (wpAny_callSpecial?_slot (name := Str.ofString "__next__") hT F.slot_zip_next (wpAny_call_entry F.slot_zip_next hT F.entry_zip_next
    (zipN_end S D1 D2 hz hl hTI hTO st1 st2 d1 d2 hend fun h' tk e hk he => ?_) (F.args_zip_next_1 _))))
  obtain ⟨o, ho, hc⟩ := he
  exact wpAny_bind (wpAny_isInstance (T := "StopIteration") (b := true) ⟨o, ho, hc⟩ isSubtype_stop (wpAny_pure (hQ _ _ hk)))
theorem ends_sq (tup : Bool) (hh : A.handled = none) (it a : Addr) (its : Array Value) : EndsAt prog w A it its.size i (fun i h => HasIt tup it a i h ∧ HasSq tup a its h) := by
  intro s Q E st hn k
  have e : its[i]? = none := by simp; exact hn
  cases tup with
  | true => exact wpAny_nextOf_tuple_end hh st.1 st.2 e fun h' x e1 e2 => k h' x e1 e2
  | false => exact wpAny_nextOf_list_end hh st.1 st.2 e fun h' x e1 e2 => k h' x e1 e2
end
def ItzN (K : PySem.W.Frag) (t1 t2 : Bool) (a b : Addr) : It :=
  ⟨fun i H => ∃ (xs ys : List V) (x y : V), SqA K t1 H a xs ∧ SqA K t2 H b ys ∧ xs[i]? = some x ∧ ys[i]? = some y,
    fun i H v H' => ∃ T x y, v = .ref T ∧ H T = none ∧ H' = upd H T (.tup [x, y]) ∧ (∀ xs, SqA K t1 H a xs → xs[i]? = some x) ∧ ∀ ys, SqA K t2 H b ys → ys[i]? = some y,
    fun i H => ∃ xs ys : List V, SqA K t1 H a xs ∧ SqA K t2 H b ys ∧ (xs.length ≤ i ∨ ys.length ≤ i)⟩
theorem zip_apart (N : Nat) : N + 2 ≠ N + 4 ∧ N + 2 ≠ N + 3 ∧ N + 2 ≠ N ∧ N + 2 ≠ N + 1 := by omega
theorem zip_below (N c L : Nat) (h : c = N + 4 ∨ c = N + 2 ∨ c = N + 3 ∨ c = N ∨ c = N + 1) (l : N + 4 < L) : c ≠ L := by omega
def ZipSt (t1 t2 : Bool) (N a b : Addr) (i : Nat) (h : Heap) : Prop := (∃ f0 f, LastP f0 ∧ ZipO h (N + 4) (N + 2) (N + 3) f0 f) ∧ IsTupOf2 h (N + 2) (.ref N) (.ref (N + 1)) ∧ (∃ x y, IsTupOf2 h (N + 3) x y) ∧ HasIt t1 N a i h ∧ HasIt t2 (N + 1) b i h
theorem ZipSt.keep {t1 t2 : Bool} {N a b : Addr} {i : Nat} {h h' : Heap} (st : ZipSt t1 t2 N a b i h) (k : ∀ c, c = N + 4 ∨ c = N + 2 ∨ c = N + 3 ∨ c = N ∨ c = N + 1 → ∀ o, h.get? c = some o → h'.get? c = some o) : ZipSt t1 t2 N a b i h' := by
  obtain ⟨⟨f0, f, z1, z2⟩, z3, ⟨x, y, z4⟩, z5, z6⟩ := st
  exact ⟨⟨f0, f, z1, k _ (by simp) _ z2⟩, k _ (by simp) _ z3, ⟨x, y, k _ (by simp) _ z4⟩, z5.kept fun o q => k _ (by simp) o q, z6.kept fun o q => k _ (by simp) o q⟩
theorem turn_zipN {P : Program} {w : World} {K : PySem.W.Frag} {x : Str} {p : Pos} (t1 t2 : Bool) (N a b : Addr) (ha : a < N) (hb : b < N) :
    Turn P w K (.Name x p) (ItzN K t1 t2 a b) [N + 4, N + 2, N + 3, N, N + 1] (N + 4) (ZipSt t1 t2 N a b) where
  mem := by simp
  obj := fun i h st c hc => by
    obtain ⟨⟨f0, f, z1, z2⟩, z3, ⟨x, y, z4⟩, z5, z6⟩ := st
    have e' : c = N + 4 ∨ c = N + 2 ∨ c = N + 3 ∨ c = N ∨ c = N + 1 := by simpa using hc
    rcases e' with q | q | q | q | q
    · rw [q]; exact ⟨_, z2, fun v q => nomatch q⟩
    · rw [q]; exact ⟨_, z3, fun v q => nomatch q⟩
    · rw [q]; exact ⟨_, z4, fun v q => nomatch q⟩
    · rw [q]; exact z5.look
    · rw [q]; exact z6.look
  keep := fun i h h' st k => st.keep fun c hc => k c (by simpa using hc)
  item := by
    intro X hP hw hK hc i pins s σ H E I hf st hg
    subst hP hw hK
    obtain ⟨⟨f0, f, z1, z2⟩, z3, ⟨x0, y0, z4⟩, z5, z6⟩ := st
    obtain ⟨xs, ys, x, y, hqx, hqy, hx, hy⟩ := hg
    obtain ⟨its, rv, p1⟩ := Inv.sq I hqx
    obtain ⟨its2, rv2, p2⟩ := Inv.sq I hqy
    obtain ⟨u, hu, ru⟩ := rv.get hx
    obtain ⟨u2, hu2, ru2⟩ := rv2.get hy
    have hd := I.ok.hd hc
    have lz : N + 4 < s.heap.objs.size := Heap.lt_size z2
    have l1 : i < its.toArray.size := by
      have := (List.getElem?_eq_some_iff.mp hu).1
      simpa using this
    have l2 : i < its2.toArray.size := by
      have := (List.getElem?_eq_some_iff.mp hu2).1
      simpa using this
    refine next_zipN (zip_sep2 (fp1 := [a]) (fp2 := [b]) (by simpa using ha) (by simpa using hb)) (draws_sq (prog := X.prog) (w := X.w) (A := X.A.in1) t1 hd N a (Nat.ne_of_lt ha) its.toArray) (draws_sq (prog := X.prog) (w := X.w) (A := X.A.in1) t2 hd (N + 1) b (Nat.ne_of_lt (Nat.lt_succ_of_lt hb)) its2.toArray)
      z2 z1 z3 z4 ⟨z5, p1⟩ ⟨z6, p2⟩ l1 l2 fun x1 x2 h' tk f' b1 b2 y1 y2 u1 v d1 d2 q5 hk => ?_
    have e1 : x1 = u := by
      have hu' : its.toArray[i]? = some u := by simpa using hu
      rw [hu'] at y1
      cases y1; rfl
    have e2 : x2 = u2 := by
      have hu' : its2.toArray[i]? = some u2 := by simpa using hu2
      rw [hu'] at y2
      cases y2; rfl
    subst e1
    subst e2
    refine ⟨_, rfl, wpAny_pure ?_⟩
    have new : ObjOk X.prog X.w (upd H s.heap.objs.size (.tup [x, y])) h' s.heap.objs.size (.tup [x, y]) := ⟨by show 2 ≤ sizeLine; decide, [x1, x2], .cons ru (.cons ru2 .nil), ⟨_, q5, rfl, _, rfl⟩⟩
    have I1 : Inv X pins σ (upd H s.heap.objs.size (.tup [x, y])) { s with heap := h', toks := tk } :=
      I.turnedNew (ch := [N + 4, N + 2, N + 3, N, N + 1]) (fun c o hb q => hk c o (fun z => hb (by simp [z])) (fun z => hb (by simp [z])) (fun z => hb (by simp [z])) (fun z => hb (by simp [z])) q) hf (Nat.le_refl _) new
    refine ⟨.ref s.heap.objs.size, _, I1, rfl, ⟨_, x, y, rfl, I.hok.fresh (Nat.le_refl _), rfl, fun zs hz => by rw [Inv.sq_inj I hz hqx]; exact hx, fun zs hz => by rw [Inv.sq_inj I hz hqy]; exact hy⟩, ⟨?_, hk _ _ ?_ ?_ ?_ ?_ z3, ⟨b1, b2, v⟩, d1.1, d2.1⟩, fun c hcm => ?_⟩
    · obtain ⟨f1, w1, w2⟩ := u1
      exact ⟨f1, f', w1, w2⟩
    · exact (zip_apart N).1
    · exact (zip_apart N).2.1
    · exact (zip_apart N).2.2.1
    · exact (zip_apart N).2.2.2
    · have e' : c = N + 4 ∨ c = N + 2 ∨ c = N + 3 ∨ c = N ∨ c = N + 1 := by simpa using hcm
      rw [upd_ne (zip_below N c _ e' lz)]
      exact (hf c hcm).1
  done := by
    intro X hP hw hK hc i pins s σ H E I hf st hg
    subst hP hw hK
    obtain ⟨⟨f0, f, z1, z2⟩, z3, ⟨x0, y0, z4⟩, z5, z6⟩ := st
    obtain ⟨xs, ys, hqx, hqy, hend⟩ := hg
    obtain ⟨its, rv, p1⟩ := Inv.sq I hqx
    obtain ⟨its2, rv2, p2⟩ := Inv.sq I hqy
    have l1 := rv.length
    have l2 := rv2.length
    have hd := I.ok.hd hc
    refine done_zipN (zip_sep2 (fp1 := [a]) (fp2 := [b]) (by simpa using ha) (by simpa using hb)) (draws_sq (prog := X.prog) (w := X.w) (A := X.A.in1) t1 hd N a (Nat.ne_of_lt ha) its.toArray) (draws_sq (prog := X.prog) (w := X.w) (A := X.A.in1) t2 hd (N + 1) b (Nat.ne_of_lt (Nat.lt_succ_of_lt hb)) its2.toArray)
      z2 z1 z3 z4 ⟨z5, p1⟩ ⟨z6, p2⟩ (ends_sq (A := X.A.in1) t1 hd N a its.toArray) (ends_sq (A := X.A.in1) t2 hd (N + 1) b its2.toArray) ?_ fun h' tk hk => ⟨rfl, I.turnedL (ch := [N + 4, N + 2, N + 3, N, N + 1]) (fun c o hb q => hk c o (fun z => hb (by simp [z])) (fun z => hb (by simp [z])) (fun z => hb (by simp [z])) (fun z => hb (by simp [z])) q) hf⟩
    simp only [List.size_toArray]
    rcases hend with q | q
    · exact .inl (by omega)
    · exact .inr (by omega)
  self := fun A i s Q E st h => by
    obtain ⟨⟨f0, f, z1, z2⟩, _⟩ := st
    have hT : s.TypeIs (.ref (N + 4)) "zip" := ⟨_, z2, rfl⟩
    refine wpAny_pyIter_slot hT F.slot_zip_iter (wpAny_call_entry F.slot_zip_iter hT F.entry_zip_iter ?_ (F.args_zip_iter_1 _))
    show wpAny _ _ (ret (.ref (N + 4))) _ _ s
    exact wpAny_pure ⟨_, rfl, "zip", _, hT, F.slot_zip_next.lookup, h⟩
end VL
namespace VL
open PySem PySem.Spec PyProof.Rows L2
theorem SqA.mono {K : PySem.W.Frag} {tup : Bool} {H H' : Hp} {a : Addr} {xs : List V} (e : Same H H') (h : SqA K tup H a xs) : SqA K tup H' a xs := by
  cases tup with
  | true => exact Same.sqT e h
  | false =>
    rcases h with h | h
    · exact .inl (Same.rd e h)
    · exact .inr h
theorem zip_starts {prog : Program} {w : World} {A : Around} {E : Value → Shared → Prop} {s : Shared} {t1 t2 : Bool} {a b : Addr} {its its2 : Array Value} {Q : Value → Shared → Prop} (p1 : HasSq t1 a its s.heap) (p2 : HasSq t2 b its2 s.heap)
    (h : ∀ h', ZipSt t1 t2 s.heap.objs.size a b 0 h' → (∀ c o, s.heap.get? c = some o → h'.get? c = some o) → Q (.ref (s.heap.objs.size + 4)) { s with heap := h' }) : wpAny (model prog w) A (call (.type "zip") [.ref a, .ref b]) Q E s := by
  have fin : ∀ h', IsZip h' (s.heap.objs.size + 4) (s.heap.objs.size + 2) (s.heap.objs.size + 3) .none → IsTupOf2 h' (s.heap.objs.size + 2) (.ref s.heap.objs.size) (.ref (s.heap.objs.size + 1)) → IsTupOf2 h' (s.heap.objs.size + 3) .none .none → HasIt t1 s.heap.objs.size a 0 h' → HasIt t2 (s.heap.objs.size + 1) b 0 h' →
      (∀ c o, s.heap.get? c = some o → h'.get? c = some o) → Q (.ref (s.heap.objs.size + 4)) { s with heap := h' } := fun h' z1 z2 z3 z4 z5 k => h h' ⟨⟨.none, false, .inl rfl, z1⟩, z2, ⟨_, _, z3⟩, z4, z5⟩ k
  cases t1 with
  | true =>
    cases t2 with
    | true => exact zip_begins2 (begins_tuple a its) (begins_tuple b its2) p1 p2 fun h' z1 z2 z3 z4 z5 _ k => fin h' z1 z2 z3 ⟨_, z4, rfl, rfl⟩ ⟨_, z5, rfl, rfl⟩ k
    | false => exact zip_begins2 (begins_tuple a its) (begins_list b its2) p1 p2 fun h' z1 z2 z3 z4 z5 _ k => fin h' z1 z2 z3 ⟨_, z4, rfl, rfl⟩ ⟨_, z5, rfl, rfl⟩ k
  | false =>
    cases t2 with
    | true => exact zip_begins2 (begins_list a its) (begins_tuple b its2) p1 p2 fun h' z1 z2 z3 z4 z5 _ k => fin h' z1 z2 z3 ⟨_, z4, rfl, rfl⟩ ⟨_, z5, rfl, rfl⟩ k
    | false => exact zip_begins2 (begins_list a its) (begins_list b its2) p1 p2 fun h' z1 z2 z3 z4 z5 _ k => fin h' z1 z2 z3 ⟨_, z4, rfl, rfl⟩ ⟨_, z5, rfl, rfl⟩ k
theorem zip_cell (N c L : Nat) (h : c = N + 4 ∨ c = N + 2 ∨ c = N + 3 ∨ c = N ∨ c = N + 1) (e : L = N) : L ≤ c := by omega
def iZipN (K : PySem.W.Frag) (ta : TA) : TI := fun σ H R => ta σ H fun vs H1 => ∃ t1 t2 a b xs ys, vs = [.ref a, .ref b] ∧ SqA K t1 H1 a xs ∧ SqA K t2 H1 b ys ∧ R (ItzN K t1 t2 a b) H1
theorem pi_zipN {X : Cx} {e e2 : Expr} {ta : TA} {p pos np : Pos} {x : Str} (hg : Gl X "zip") (hm : X.mg "zip" = none) (ha : PA X [e, e2] ta) (hs : starEach [e, e2] X.env = (false, eval e X.env) :: starEach [e2] X.env := by rfl) (hpl : (backTo pos (starEach [e2] X.env)).any (·.1) = false := by rfl) :
    PI X (.Name x np) (.Call (.Name "zip" p) [e, e2] [] pos) (iZipN X.K ta) := by
  refine ⟨fun pins s σ H R I h => ?_⟩
  refine Call_ (ld_blt I hg hm PyProof.Rows.boot_zip (PyProof.Rows.callWith_type1 (thn (ha.run pos pins s σ H _ I h) fun us s1 ⟨vs, H1, I1, r1, q1⟩ => ?_) hs hpl))
  obtain ⟨t1, t2, a, b, xs, ys, ex, hq, hq2, q⟩ := q1
  subst ex
  obtain ⟨u, u2, rfl, r, r2⟩ := r1.two
  cases r
  cases r2
  obtain ⟨its, rv, p1⟩ := Inv.sq I1 hq
  obtain ⟨its2, rv2, p2⟩ := Inv.sq I1 hq2
  refine zip_starts p1 p2 fun h' st k => ?_
  have I2 : Inv X pins σ H1 { s1 with heap := h' } := I1.kept (t' := s1.toks) k
  have T := turn_zipN (P := X.prog) (w := X.w) (K := X.K) (x := x) (p := np) t1 t2 s1.heap.objs.size a b (hasSq_lt p1) (hasSq_lt p2)
  refine T.self X.A 0 { s1 with heap := h' } _ _ st ⟨_, _, _, _, H1, rfl, I2, T, st, fun c hc => ?_, q⟩
  have e' : c = s1.heap.objs.size + 4 ∨ c = s1.heap.objs.size + 2 ∨ c = s1.heap.objs.size + 3 ∨ c = s1.heap.objs.size ∨ c = s1.heap.objs.size + 1 := by simpa using hc
  have hle := zip_cell _ _ _ e' rfl
  exact I1.fpOk hle (I1.hok.fresh hle)
theorem SqA.at {K : PySem.W.Frag} {tup : Bool} {H H' : Hp} {a : Addr} {xs : List V} (e : H' a = H a) (h : SqA K tup H a xs) : SqA K tup H' a xs := by
  have rd : ∀ {u : HO}, Rd H a u → Rd H' a u := fun {u} z => by
    rcases z with z | ⟨o, z⟩
    · exact .inl (e.trans z)
    · exact .inr ⟨o, e.trans z⟩
  cases tup with
  | true =>
    rcases h with h | h
    · exact .inl (rd h)
    · exact .inr h
  | false =>
    rcases h with h | h
    · exact .inl (rd h)
    · exact .inr h
def ZipCells (N c : Nat) : Prop := c = N + 4 ∨ c = N + 2 ∨ c = N + 3 ∨ c = N ∨ c = N + 1
section
variable {X : Cx} {pins : List (Addr × Obj)} {σ : L2.St} {A : Around} {R : Result → Shared → Prop} {t1 t2 : Bool} {N a b S : Addr} {xs ys : List V} {M : Nat → List V → Hp → Prop}
end
def pairsL : List D → List D → List D
  | x :: l, y :: m => .tup [x, y] :: pairsL l m
  | _, _ => []
theorem pairsL_len : ∀ l m : List D, (pairsL l m).length = min l.length m.length
  | [], _ => by simp [pairsL]
  | _ :: _, [] => by simp [pairsL]
  | x :: l, y :: m => by simp [pairsL, pairsL_len l m]
theorem pairsL_get : ∀ {l m : List D} {i : Nat} {d : D}, (pairsL l m)[i]? = some d → ∃ x y, l[i]? = some x ∧ m[i]? = some y ∧ d = .tup [x, y]
  | [], m, i, d, h => by simp [pairsL] at h
  | _ :: _, [], i, d, h => by simp [pairsL] at h
  | x :: l, y :: m, 0, d, h => by
    simp only [pairsL, List.getElem?_cons_zero, Option.some.injEq] at h
    exact ⟨x, y, rfl, rfl, h.symm⟩
  | x :: l, y :: m, i + 1, d, h => by
    simp only [pairsL, List.getElem?_cons_succ] at h
    obtain ⟨a, b, e1, e2, e3⟩ := pairsL_get h
    exact ⟨a, b, by simpa using e1, by simpa using e2, e3⟩
def zipD (ds : List D) : Option (List D) := match ds with
  | [a, b] => (seqOf a).bind fun l => (seqOf b).map fun m => pairsL l m
  | _ => none
section
variable {c : Ctx} {W : Wd} {E : XK} {Γ : Gam} {e a b o : Expr} {f fa fb fo : Rho → M D} {pos : Pos} {Hf H : Hp}
theorem VAt.sq {v : V} {d : D} {l : List D} (x0 : Same Hf H) (h : VAt W Hf H v d) (e : seqOf d = some l) : ∃ t a xs, v = .ref a ∧ SqA W.K t H a xs ∧ AtAll W Hf xs l ∧ xs.length ≤ sizeLine ∧ (a ≠ W.P ∨ SqA W.K t Hf a xs) ∧ (SqA W.K t Hf a xs ∨ H a = some (.lst xs)) := by
  cases h with
  | fr h =>
    cases h with
    | tup h1 h2 h3 =>
      cases e
      exact ⟨true, _, _, rfl, Same.sqT x0 h1, h3, h2, .inr h1, .inl h1⟩
    | lst h1 h2 h3 =>
      cases e
      exact ⟨false, _, _, rfl, SqL.of (x0 _ _ h1), h3, h2, .inr (SqL.of h1), .inl (SqL.of h1)⟩
    | _ => cases e
  | lst h0 h1 h2 h3 =>
    cases e
    exact ⟨false, _, _, rfl, SqL.of h1, h3, h2, .inl h0, .inr h1⟩
  | dct _ _ _ _ => cases e
theorem sq_on {t : Bool} {p : Addr} {xs : List V} {s : Pot} {Hf' H' : Hp} (h1 : p ≠ W.P ∨ SqA W.K t Hf p xs) (h2 : SqA W.K t Hf p xs ∨ H p = some (.lst xs)) (h3 : SqA W.K t H p xs) (x : Ext W Hf H Hf' H' s) : SqA W.K t H' p xs := by
  rcases h2 with q | q
  · exact SqA.mono x.fh (SqA.mono x.ff q)
  · rcases h1 with z | z
    · cases t with
      | false => exact SqL.of (x.old _ _ z q)
      | true =>
        rcases h3 with w | w
        · rcases w with w | ⟨o, w⟩
          · rw [q] at w; cases w
          · rw [q] at w; cases w
        · exact .inr w
    · exact SqA.mono x.fh (SqA.mono x.ff z)
theorem jiv_zipN {fs : Rho → M (List D)} {p np : Pos} {x : Str} (ha : JAv c Γ [a, b] fs) (hg : c.sc.names.lookup ("zip" : Str) = some .globalImplicit) (hm : c.G.mg "zip" = none) (hs : ∀ env, starEach [a, b] env = (false, eval a env) :: starEach [b] env := by intro _; rfl) (hpl : ∀ env, (backTo pos (starEach [b] env)).any (·.1) = false := by intro _; rfl) :
    JIv c Γ (.Name x np) (.Call (.Name "zip" p) [a, b] [] pos) (rngF zipD fs) := by
  obtain ⟨t, h1, h2⟩ := ha
  refine ⟨iZipN c.W.K t, fun X hX => by have q := pi_zipN (X := X) (p := p) (pos := pos) (np := np) (x := x) (hX.gl hg) (by rw [hX.mg]; exact hm) (h1 X hX) (hs _) (hpl _); rw [hX.K] at q; exact q, fun B ρ s σ Hf H R V p => ?_⟩
  unfold rngF at p
  rw [post_bind] at p
  refine h2 B ρ s σ Hf H _ V (p.imp (fun ds s1 p1 v Hf1 H1 x1 r1 => ?_) fun _ _ _ z => z)
  rw [post_opt] at p1
  obtain ⟨l, hl, k⟩ := p1
  unfold zipD at hl
  split at hl
  · rename_i d d2
    obtain ⟨l1, e1, hl⟩ := Option.bind_eq_some_iff.mp hl
    obtain ⟨l2, e2, hl⟩ := Option.map_eq_some_iff.mp hl
    subst hl
    obtain ⟨y, y2, rfl, v1, v2⟩ := r1.two
    obtain ⟨t1, a1, xs, rfl, q1, q2, q3, q4, q5⟩ := v1.sq x1.fh e1
    obtain ⟨t2, a2, ys, rfl, w1, w2, w3, w4, w5⟩ := v2.sq x1.fh e2
    refine ⟨t1, t2, a1, a2, xs, ys, rfl, q1, w1, k _ _ _ x1 (by rw [pairsL_len, ← q2.len]; omega) fun i Hf2 H2 s2 x => ?_⟩
    have g1 := sq_on q4 q5 q1 x
    have g2 := sq_on w4 w5 w1 x
    refine ⟨fun hi => ⟨xs, ys, g1, g2, ?_⟩, fun d hd => ?_⟩
    · rw [pairsL_len] at hi
      rw [q2.len, w2.len]; omega
    · obtain ⟨d1, d3, z1, z2, rfl⟩ := pairsL_get hd
      obtain ⟨u1, b1, b2⟩ := q2.get' z1
      obtain ⟨u2, c1, c2⟩ := w2.get' z2
      refine ⟨⟨xs, ys, u1, u2, g1, g2, b1, c1⟩, fun v H3 hv => ?_⟩
      obtain ⟨T, x', y', rfl, nT, rfl, f1, f2⟩ := hv
      have f1 := f1 xs g1
      have f2 := f2 ys g2
      rw [b1] at f1
      rw [c1] at f2
      cases f1
      cases f2
      have y := x.refl.newF (o := .tup [u1, u2]) nT
      exact ⟨_, y, .tup (.inl (.inl upd_same)) (by show 2 ≤ sizeLine; decide) (.cons (b2.mono (x.ff.trans y.ff)) (.cons (c2.mono (x.ff.trans y.ff)) .nil))⟩
  · cases hl
end
end VL
namespace VL
open PySem PySem.Spec PyProof.Rows L2
def ZipS0 (t1 t2 : Bool) (N a b : Addr) (i : Nat) (h : Heap) : Prop := IsZip h (N + 4) (N + 2) (N + 3) .none ∧ IsTupOf2 h (N + 2) (.ref N) (.ref (N + 1)) ∧ (∃ x y, IsTupOf2 h (N + 3) x y) ∧ HasIt t1 N a i h ∧ HasIt t2 (N + 1) b i h
theorem ZipS0.keep {t1 t2 : Bool} {N a b : Addr} {i : Nat} {h h' : Heap} (st : ZipS0 t1 t2 N a b i h) (k : ∀ c, ZipCells N c → ∀ o, h.get? c = some o → h'.get? c = some o) : ZipS0 t1 t2 N a b i h' := by
  obtain ⟨z2, z3, ⟨x, y, z4⟩, z5, z6⟩ := st
  exact ⟨k _ (.inl rfl) _ z2, k _ (.inr (.inl rfl)) _ z3, ⟨x, y, k _ (.inr (.inr (.inl rfl))) _ z4⟩, z5.kept fun o q => k _ (.inr (.inr (.inr (.inl rfl)))) o q, z6.kept fun o q => k _ (.inr (.inr (.inr (.inr rfl)))) o q⟩
section
variable {c : Ctx} {W : Wd} {E : XK} {Γ : Gam} {e a b o : Expr} {f fa fb fo : Rho → M D} {pos : Pos} {Hf H : Hp}
theorem At.sq {v : V} {d : D} {l : List D} (h : At W Hf v d) (e : seqOf d = some l) : ∃ t a xs, v = .ref a ∧ SqA W.K t Hf a xs ∧ AtAll W Hf xs l ∧ xs.length ≤ sizeLine := by
  cases h with
  | tup h1 h2 h3 => cases e; exact ⟨true, _, _, rfl, h1, h3, h2⟩
  | lst h1 h2 h3 => cases e; exact ⟨false, _, _, rfl, SqL.of h1, h3, h2⟩
  | _ => cases e
end
end VL
namespace VL
open PySem PySem.Spec PyProof.Rows L2 TL
theorem pairs_steps : ∀ w : List Str, pairsL (sts w) (sts (w.drop 1)) = lanes (stepsOf w)
  | [] => rfl
  | [x] => rfl
  | x :: y :: r => by
    have ih := pairs_steps (y :: r)
    simp only [List.drop_succ_cons, List.drop_zero, stepsOf, sts, List.map_cons, pairsL, lanes] at ih ⊢
    rw [ih]
    rfl
end VL
namespace VL
open PySem PySem.Spec PyProof.Rows L2
theorem take_any_succ {xs : List Str} {i : Nat} {x : Str} (h : xs[i]? = some x) (k : Str) : ((xs.take (i + 1)).any (· == k)) = ((xs.take i).any (· == k) || decide (k = x)) := by
  have e : xs.take (i + 1) = xs.take i ++ [x] := by rw [List.take_add_one, h]; rfl
  rw [e, List.any_append]
  congr 1
  by_cases q : k = x
  · simp [q]
  · have : (x == k) = false := by simpa [beq_iff_eq] using fun z => q (Eq.symm z)
    simp [this, q]
def cntS (xs : List Str) : Nat → Nat
  | 0 => 0
  | i + 1 => match xs[i]? with
    | some x => if (xs.take i).any (· == x) then cntS xs i else cntS xs i + 1
    | none => cntS xs i
theorem cntS_le (xs : List Str) : ∀ i, cntS xs i ≤ i
  | 0 => Nat.le_refl _
  | i + 1 => by
    have := cntS_le xs i
    unfold cntS
    split
    · split <;> omega
    · omega
theorem strs_get : ∀ {xs : List Str} {us : List Value} {i : Nat} {v : Value}, Vals (xs.map V.str) us → us[i]? = some v → ∃ x t, xs[i]? = some x ∧ v = .str x t
  | [], _, i, v, .nil, e => by simp at e
  | x :: xs, _, 0, v, .cons r _, e => by
    obtain ⟨t, rfl⟩ := r
    simp only [List.getElem?_cons_zero, Option.some.injEq] at e
    exact ⟨x, t, rfl, e.symm⟩
  | x :: xs, _, i + 1, v, .cons _ r, e => by
    obtain ⟨y, t, e1, e2⟩ := strs_get r (by simpa using e)
    exact ⟨y, t, by simpa using e1, e2⟩
section
variable {prog : Program} {w : World} {A : Around} {R : Result → Shared → Prop} {I : Addr} {fp wr : List Addr} {G : Array GenState → Array GenState → Prop} {n : Nat} {P : Nat → Value → Prop} {St : Nat → Shared → Prop}
theorem set_loop_S (W : WalksS prog w A.in1 I fp wr G n P St) (S : Addr) (hSf : S ∉ fp) (xs : List Str) (hval : ∀ i v, P i v → ∃ x t, xs[i]? = some x ∧ v = .str x t) (hb : n + 1 < scanBound) :
    ∀ (k i : Nat) (s : Shared), n - i = k → i ≤ n → St i s → s.heap.SetOf (PySem.strKind prog w) S (fun y => (xs.take i).any (· == y)) (cntS xs i) →
      (∀ s', Moved (S :: wr) G s s' → s'.heap.SetOf (PySem.strKind prog w) S (fun y => (xs.take n).any (· == y)) (cntS xs n) → R (.ok (.ret .none)) s') → codeAny (model prog w) A (.builtin "set.update.loop" ⟨[.ref S, .ref I], []⟩) R s := by
  have nw : S ∉ wr := fun h => hSf (W.sub _ h)
  have up : ∀ b ∈ wr, b ∈ S :: wr := fun b hb => List.mem_cons_of_mem _ hb
  have stay : ∀ {s s' : Shared} {T : Str → Bool} {m : Nat}, Moved wr G s s' → s.heap.SetOf (PySem.strKind prog w) S T m → s'.heap.SetOf (PySem.strKind prog w) S T m := fun hm ⟨o, es, ep, t, ho, rest⟩ => ⟨o, es, ep, t, hm.heap S _ nw ho, rest⟩
  intro k
  induction k with
  | zero =>
    intro i s hk hi st hS hR
    obtain rfl : i = n := by omega
    refine codeAny_builtin PyProof.Rows.F.entry_set_update_loop ?_; rw [Around.under_plainId PyProof.Rows.F.plain_set_update_loop _]; show wpAny _ A.in1 (pyNext (.ref I) >>= _) _ _ s
    refine wpAny_bind (W.done s _ _ st fun s' hm => ?_); show wpAny _ A.in1 (ret Value.none) _ _ s'
    exact wpAny_pure (hR s' (hm.mono up) (stay hm hS))
  | succ k ih =>
    intro i s hk hi st hS hR
    have lt : i < n := by omega
    refine codeAny_builtin PyProof.Rows.F.entry_set_update_loop ?_; rw [Around.under_plainId PyProof.Rows.F.plain_set_update_loop _]; show wpAny _ A.in1 (pyNext (.ref I) >>= _) _ _ s
    refine wpAny_bind (W.item i s _ _ lt st fun v s' hP st' hm => ?_)
    obtain ⟨x, t, hx, rfl⟩ := hval i v hP
    have hS' := stay hm hS
    show wpAny _ A.in1 (holding [Value.str x t] (setAdd S (.str x t)) >>= _) _ _ s'
    refine wpAny_bind (wpAny_holding ?_); unfold setAdd
    refine wpAny_holding ?_; refine wpAny_bind ((PySem.strKind prog w).pyHash (k := x) (strKind_is _ _ _ _) ?_)
    have room : cntS xs i + 1 < scanBound := by have := cntS_le xs i; omega
    refine wpAny_setAddHashed_of (knd := PySem.strKind prog w) (s := { s' with toks := s'.toks + 1 }) (strKind_is _ _ _ _) rfl hS' room fun h' sb h2 => ?_
    have h3 : h'.SetOf (PySem.strKind prog w) S (fun y => (xs.take (i + 1)).any (· == y)) (cntS xs (i + 1)) := SetOf_congr h2 (fun y => (take_any_succ hx y).symm) (by show _ = cntS xs (i + 1); rw [cntS, hx])
    refine wpAny_pure ⟨plainId_quiet PyProof.Rows.F.plain_set_update_loop _, ih (i + 1) _ (by omega) lt (W.frame _ s' _ _ st' (Nat.le_succ _) fun b hb o e => ?_) h3 fun s2 hm2 hS2 => ?_⟩
    · rw [sb.2 b (fun h : b = S => hSf (by rw [← h]; exact hb))]; exact e
    · refine hR s2 (Moved.trans W.gtrans ((hm.mono up).then_heap (Nat.le_succ _) fun b o hb e => ?_) hm2) hS2
      rw [sb.2 b (fun h : b = S => hb (by rw [h]; exact List.mem_cons_self))]; exact e
end
section
variable {prog : Program} {w : World} {A : Around} {E : Value → Shared → Prop} {s : Shared}
def sqTy (tup : Bool) : String := if tup = true then "tuple" else "list"
def sqIter (tup : Bool) (l : Addr) : Obj := { cls := .type (if tup = true then "tuple_iterator" else "list_iterator"), data := .fields #[.ref l, .int 0 0] }
theorem sq_obj {tup : Bool} {l : Addr} {items : Array Value} {h : Heap} (x : HasSq tup l items h) : ∃ (od : Option Addr) (os : Array (Option Value)) (n : Nat), h.get? l = some { cls := .type (sqTy tup), dict := od, data := .seq items n, slots := os } := by
  cases tup with
  | true => obtain ⟨⟨c, d, dt, sl⟩, ho, hc, n, hd⟩ := x; simp only at hc hd; subst hc; subst hd; exact ⟨d, sl, n, ho⟩
  | false => obtain ⟨⟨c, d, dt, sl⟩, ho, hc, n, hd⟩ := x; simp only at hc hd; subst hc; subst hd; exact ⟨d, sl, n, ho⟩
theorem sq_push {tup : Bool} {l : Addr} {items : Array Value} {h : Heap} (x : HasSq tup l items h) (o : Obj) : HasSq tup l items (h.push o) := by
  cases tup with
  | true => obtain ⟨q, ho, r⟩ := x; exact ⟨q, Heap.get?_push_of_some _ ho, r⟩
  | false => obtain ⟨q, ho, r⟩ := x; exact ⟨q, Heap.get?_push_of_some _ ho, r⟩
theorem sqIter_at {tup : Bool} {l : Addr} {items : Array Value} {h : Heap} (x : HasSq tup l items h) : HasIt tup h.objs.size l 0 (h.push (sqIter tup l)) := by
  cases tup with
  | true => exact ⟨_, Heap.get?_push_size _ rfl, rfl, rfl⟩
  | false => exact ⟨_, Heap.get?_push_size _ rfl, rfl, rfl⟩
theorem sq_sub (tup : Bool) : isSubtype (.type (sqTy tup)) (.type "set") = pure false ∧ isSubtype (.type (sqTy tup)) (.type "frozenset") = pure false ∧ (Value.type (sqTy tup) == Value.type "dict") = false := by
  cases tup with
  | true => exact ⟨PySem.F.sub_tuple_set, PySem.F.sub_tuple_frozenset, by decide⟩
  | false => exact ⟨PySem.F.sub_list_set, PySem.F.sub_list_frozenset, by decide⟩
theorem pyIter_sq {tup : Bool} {l : Addr} {items : Array Value} {Q : Value → Shared → Prop} (x : HasSq tup l items s.heap) (hQ : Q (.ref s.heap.objs.size) { s with heap := s.heap.push (sqIter tup l) }) : wpAny (model prog w) A (pyIter (.ref l)) Q E s := by
  cases tup with
  | true => exact wpAny_pyIter_tuple x hQ
  | false => exact wpAny_pyIter_list x hQ
theorem walks_sq (tup : Bool) (hh : A.handled = none) (I a : Addr) (hne : a ≠ I) (items : Array Value) : Walks prog w A I [I, a] [I] items.size (fun i v => items[i]? = some v) (fun i h => HasIt tup I a i h ∧ HasSq tup a items h) := by
  cases tup with
  | true => exact Walks.tuple hh I a hne items
  | false => exact Walks.list hh I a hne items
set_option maxHeartbeats 8000000 in
theorem call_set_texts {tup : Bool} {l : Addr} {items : Array Value} {xs : List Str} {Q : Value → Shared → Prop} (hh : A.handled = none) (hl : HasSq tup l items s.heap) (hi : Vals (xs.map V.str) items.toList) (hb : items.size + 1 < scanBound)
    (h : ∀ (h' : Heap) (tk : Nat), h'.SetOf (PySem.strKind prog w) s.heap.objs.size (fun y => (xs.take items.size).any (· == y)) (cntS xs items.size) → (∀ b o, b < s.heap.objs.size → s.heap.get? b = some o → h'.get? b = some o) → Q (.ref s.heap.objs.size) { s with heap := h', toks := tk }) :
    wpAny (model prog w) A (call (.type "set") [.ref l]) Q E s := by
  have lz : l < s.heap.objs.size := hasSq_lt hl
  obtain ⟨c, tl, hmro⟩ := PySem.F.called_set.mro
  have hmade := PySem.F.called_set.made
  have hsub := PySem.F.called_set.sub
  refine wpAny_call (codeAny_of_tree ?_); show wpAny _ _ (callAny (.type "set") _) _ _ _
  refine wpAny_pure ⟨Code.quiet_builtin _ (by decide +kernel), codeAny_builtin PySem.F.entry_type_call ?_⟩
  rw [Around.under_plain (weight_type_call_type "set" [.ref l] []) rfl]
  have a1 := PySem.F.called_set.notType
  have a2 := PySem.F.called_set.canCreate
  have a3 := PySem.F.typeCall_set_1 (.ref l)
  repeat (any_goals (first | assumption | wp_step))
  refine codeAny_mono (code_set_new_1 (.ref l) (E := E) (Q₁ := fun obj s₁ => ∃ led : Bool, obj = .ref s.heap.objs.size ∧ s₁ = { s with heap := s.heap.push { cls := .type "set", dict := none, data := .set #[] 0 (.fresh 0 0 led) } }) fun led => ⟨led, rfl, rfl⟩) fun r s₁ hr => ?_
  match r, hr with
  | .error e, hr => exact hr
  | .ok (.ret obj), hr =>
    obtain ⟨led, rfl, rfl⟩ := hr
    have hS : (s.heap.push { cls := .type "set", dict := none, data := .set #[] 0 (.fresh 0 0 led) }).get? s.heap.objs.size = some { cls := .type "set", dict := none, data := .set #[] 0 (.fresh 0 0 led) } := Heap.get?_push_size _ rfl
    have hT : Shared.TypeIs { s with heap := s.heap.push { cls := .type "set", dict := none, data := .set #[] 0 (.fresh 0 0 led) } } (.ref s.heap.objs.size) "set" := ⟨_, hS, rfl⟩
    have b1 := PySem.F.called_set.init.lookup
    have b2 := PySem.F.called_set.init.bind (.ref s.heap.objs.size)
    repeat (any_goals (first | assumption | wp_step))
    refine codeAny_mono (codeAny_call_builtin (R := wants (fun r s₂ => r = .none ∧ ∃ h' tk, s₂ = { s with heap := h', toks := tk } ∧ h'.SetOf (PySem.strKind prog w) s.heap.objs.size (fun y => (xs.take items.size).any (· == y)) (cntS xs items.size) ∧ (∀ b o, b < s.heap.objs.size → s.heap.get? b = some o → h'.get? b = some o)) E) PySem.F.called_set.init.plain PySem.F.entry_set_init (check_set_init_1 hT ?_)) fun r₂ s₂ hr₂ => ?_
    · have hh3 : A.in1.in1.in1.handled = none := by simp [hh]
      have nI : l ≠ (s.heap.push { cls := .type "set", dict := none, data := .set #[] 0 (.fresh 0 0 led) }).objs.size := by rw [Heap.size_push]; exact Nat.ne_of_lt (Nat.lt_succ_of_lt lz)
      have nS : s.heap.objs.size ∉ [(s.heap.push { cls := .type "set", dict := none, data := .set #[] 0 (.fresh 0 0 led) }).objs.size, l] := by
        rw [Heap.size_push]
        simp only [List.mem_cons, List.mem_singleton, List.not_mem_nil, or_false, not_or]
        exact ⟨Nat.ne_of_lt (Nat.lt_succ_self _), Nat.ne_of_gt lz⟩
      have val : ∀ (i : Nat) (v : Value), items[i]? = some v → ∃ x t, xs[i]? = some x ∧ v = .str x t := fun i v hv => strs_get hi (by rw [Array.getElem?_toList]; exact hv)
      obtain ⟨odict, oslots, nl, hol⟩ := sq_obj hl
      have hol' : (s.heap.push { cls := .type "set", dict := none, data := .set #[] 0 (.fresh 0 0 led) }).get? l = some { cls := .type (sqTy tup), dict := odict, data := .seq items nl, slots := oslots } := Heap.get?_push_of_some _ hol
      have hl1 : HasSq tup l items (s.heap.push { cls := .type "set", dict := none, data := .set #[] 0 (.fresh 0 0 led) }) := sq_push hl _
      obtain ⟨s1, s2, s3⟩ := sq_sub tup
      generalize sqTy tup = T at hol' s1 s2 s3
      unfold Builtin.«set.__init__» noKeywords Builtin.Frozenset.updateFrom
      generalize hPI : pyIter = PI
      wp_walk
      subst hPI
      refine pyIter_sq hl1 ?_; refine wpAny_bind (wpAny_runValue ?_)
      refine set_loop_S ((walks_sq tup hh3 _ l nI items).toS) s.heap.objs.size nS xs val hb (items.size - 0) 0 _ (by omega) (Nat.zero_le _) ⟨sqIter_at hl1, sq_push hl1 _⟩ ?_ fun s' hm hS' => ?_
      · exact SetOf_congr ((setObjOf_fresh (knd := PySem.strKind prog w) led).setOf (Heap.get?_push_of_some _ hS) (by unfold scanBound; omega)) (fun _ => rfl) rfl
      · obtain ⟨h', g', d', tk', os'⟩ := s'
        obtain rfl : g' = s.gens := hm.gens
        obtain rfl : d' = s.drawn := hm.drawn
        obtain rfl : os' = s.os := hm.os
        show wpAny _ _ _ _ _ _
        refine wpAny_pure ?_; show wpAny _ _ (ret Value.none) _ _ _
        refine wpAny_pure ⟨rfl, h', tk', rfl, hS', fun b o hb e => ?_⟩
        have n2 : b ≠ (s.heap.push { cls := .type "set", dict := none, data := .set #[] 0 (.fresh 0 0 led) }).objs.size := by rw [Heap.size_push]; exact Nat.ne_of_lt (Nat.lt_succ_of_lt hb)
        exact hm.heap b o (by simp only [List.mem_cons, List.mem_singleton, List.not_mem_nil, or_false, not_or]; exact ⟨Nat.ne_of_lt hb, n2⟩) (Heap.get?_push_of_some _ (Heap.get?_push_of_some _ e))
    · match r₂, hr₂ with
      | .error e, hr₂ => exact hr₂
      | .ok (.ret r), hr₂ =>
        obtain ⟨rfl, h', tk, rfl, hS', hk'⟩ := hr₂
        repeat (any_goals (first | assumption | wp_step))
        exact h _ _ hS' hk'
end
def lenSetD (d : D) : Option D := (seqOf d).bind fun l => (strsOf l).bind fun xs => if xs.length + 1 < scanBound then some (.int (cntS xs xs.length)) else none
def tLenSetS (K : PySem.W.Frag) (ta : TE) : TE := fun σ H Q => ta σ H fun x H1 => ∃ t l, ∃ xs : List Str, x = .ref l ∧ SqA K t H1 l (xs.map V.str) ∧ xs.length + 1 < scanBound ∧ Q (.int (cntS xs xs.length)) H1
theorem pe_lenSetS {X : Cx} {a : Expr} {ta : TE} {p p2 q pos : Pos} (hc : X.calm = true) (hg : Gl X "len") (hm : X.mg "len" = none) (hg2 : Gl X "set") (hm2 : X.mg "set" = none) (ha : PE X a ta)
    (na : starEach [a] X.env = (false, eval a X.env) :: starEach [] X.env) (nb : starEach [.Call (.Name "set" p2) [a] [] q] X.env = (false, eval (.Call (.Name "set" p2) [a] [] q) X.env) :: starEach [] X.env) : PE X (.Call (.Name "len" p) [.Call (.Name "set" p2) [a] [] q] [] pos) (tLenSetS X.K ta) := by
  refine ⟨fun pins s σ H Q I h => Call_ (ld_blt I hg hm boot_len (PyProof.Rows.callWith_builtin1 (PyProof.Rows.args_cons ?_ nb) nb rfl))⟩
  refine Call_ (ld_blt I hg2 hm2 boot_set (PyProof.Rows.callWith_type1 (PyProof.Rows.args_cons (thn (ha.run pins s σ H _ I h) fun v s1 ⟨x, H1, I1, r1, q1⟩ => PyProof.Rows.args_nil ?_) na) na rfl))
  obtain ⟨t, l, xs, rfl, hq, h1, q1⟩ := q1
  cases r1
  obtain ⟨its, rv, p1⟩ := Inv.sq I1 hq
  have el : its.toArray.size = xs.length := by rw [List.size_toArray, ← rv.length, List.length_map]
  refine call_set_texts (tup := t) (xs := xs) (I1.ok.hd hc) p1 (by simpa using rv) (by rw [el]; exact h1) fun h' tk hS hk => PyProof.Rows.args_nil ?_
  rw [el] at hS
  obtain ⟨o, es, ep, tb, ho, hex, hd, _, _, _, hf, hn⟩ := hS
  have I2 : Inv X pins σ H1 { s1 with heap := h', toks := tk } := I1.kept fun b o e => hk b o (Heap.lt_size e) e
  have le := cntS_le xs xs.length
  exact call_len_set ho hex hd hf (by rw [hn]; unfold scanBound at h1; omega) ⟨.int (cntS xs xs.length), H1, I2.tok _, ⟨_, by rw [hn]⟩, q1⟩
section
variable {c : Ctx} {W : Wd} {E : XK} {Γ : Gam} {e a b o : Expr} {f fa fb fo : Rho → M D} {pos : Pos} {Hf H : Hp}
theorem je_lenSet {p p2 q : Pos} (ha : JV c Γ a fa) (hg : c.sc.names.lookup ("len" : Str) = some .globalImplicit) (hm : c.G.mg "len" = none) (hg2 : c.sc.names.lookup ("set" : Str) = some .globalImplicit) (hm2 : c.G.mg "set" = none)
    (na : ∀ env, starEach [a] env = (false, eval a env) :: starEach [] env := by intro _; rfl) (nb : ∀ env, starEach [.Call (.Name "set" p2) [a] [] q] env = (false, eval (.Call (.Name "set" p2) [a] [] q) env) :: starEach [] env := by intro _; rfl) :
    JE c Γ (.Call (.Name "len" p) [.Call (.Name "set" p2) [a] [] q] [] pos) (un lenSetD fa) := by
  obtain ⟨t, h1, h2⟩ := ha
  refine ⟨tLenSetS c.W.K t, fun X hX => by have q := pe_lenSetS (X := X) (p := p) (p2 := p2) (q := q) (pos := pos) hX.calm (hX.gl hg) (by rw [hX.mg]; exact hm) (hX.gl hg2) (by rw [hX.mg]; exact hm2) (h1 X hX) (na _) (nb _); rw [hX.K] at q; exact q, fun B ρ s σ Hf H Q V p => ?_⟩
  unfold un at p
  rw [post_bind] at p
  refine h2 B ρ s σ Hf H _ V (p.imp (fun d s1 p1 v Hf1 H1 x1 r1 => ?_) fun _ _ _ z => z)
  rw [post_opt] at p1
  obtain ⟨z, hz, k⟩ := p1
  unfold lenSetD at hz
  obtain ⟨l, e1, hz⟩ := Option.bind_eq_some_iff.mp hz
  obtain ⟨xs, e2, hz⟩ := Option.bind_eq_some_iff.mp hz
  split at hz
  · rename_i hb
    cases hz
    obtain ⟨t1, a1, us, rfl, q1, q2, q3, q4, q5⟩ := r1.sq x1.fh e1
    rw [strsOf_some e2] at q2
    rw [q2.strs] at q1
    exact ⟨t1, a1, xs, rfl, q1, hb, k _ _ _ x1 (.int _)⟩
  · cases hz
end
end VL
namespace VL
open PySem PySem.Spec PyProof.Rows L2 TL
theorem cntS_full {xs : List Str} : ∀ i, i ≤ xs.length → (cntS xs i = i ↔ (xs.take i).Nodup)
  | 0, _ => by simp [cntS]
  | i + 1, hi => by
    have hx : xs[i]? = some xs[i] := List.getElem?_eq_getElem (by omega)
    have e : xs.take (i + 1) = xs.take i ++ [xs[i]] := by rw [List.take_add_one, hx]; rfl
    have ih := cntS_full (xs := xs) i (Nat.le_of_succ_le hi)
    have le := cntS_le xs i
    rw [e, List.nodup_append]
    unfold cntS
    rw [hx]
    simp only
    by_cases c : (xs.take i).any (· == xs[i]) = true
    · rw [if_pos c]
      obtain ⟨y, hy, e2⟩ := List.any_eq_true.mp c
      rw [beq_iff_eq] at e2
      constructor
      · intro z; omega
      · rintro ⟨_, _, z⟩
        exact absurd e2 (z y hy _ (by simp))
    · rw [if_neg c]
      have nc : ∀ y ∈ xs.take i, y ≠ xs[i] := fun y hy z => c (List.any_eq_true.mpr ⟨y, hy, by simp [z]⟩)
      constructor
      · intro z
        refine ⟨ih.mp (by omega), by simp, fun a ha b hb => ?_⟩
        simp at hb
        rw [hb]; exact nc a ha
      · rintro ⟨z, _⟩
        rw [ih.mpr z]
theorem cntS_nodup (xs : List Str) : cntS xs xs.length = xs.length ↔ xs.Nodup := by
  have := cntS_full (xs := xs) xs.length (Nat.le_refl _)
  rwa [List.take_length] at this
theorem lenSet_T {xs : List Str} (h : xs.length + 1 < 4096) : lenSetD (.tup (sts xs)) = some (.int (cntS xs xs.length)) := by
  show (strsOf (sts xs)).bind _ = _
  rw [show sts xs = xs.map D.str from rfl, strsOf_map]
  show (if xs.length + 1 < scanBound then _ else _) = _
  rw [if_pos (by unfold scanBound; exact h)]
end VL
namespace VL
open PySem PySem.Spec PyProof.Rows L2
noncomputable def LB_check_two (t_Web_check_home : List D → M D) (t_Web_houses : List D → M D) (t_is_one_of : List D → M D) : Rho → M Fl := (seqS (dropS (methF 0 2 t_Web_check_home [] (slot 0) (consA (slot 1) nilA))) (ifS (orB (notB (tst (fnF 2 t_is_one_of [] (consA (slot 2) (consA (propF 0 t_Web_houses (slot 0)) nilA))))) (tst (bin eqD (slot 2) (slot 1)))) (fun _ => nope) skip))
noncomputable def LB_Web_way_without : Rho → M Fl := (seqS (parS3 3 4 5 (dispF (consP (slot 1) (fun _ => pure .non) nilP)) (lstF (consA (slot 1) nilA)) (fun _ => pure (.int 0))) (seqS (whileS (tst (bin ltD (slot 5) (callF lenD (consA (slot 4) nilA)))) (seqS (forS (seqF (fldF 0 3 (slot 0))) (tgT 2 (tgCons (tgN 6) (tgCons (tgN 7) tgNil))) (ifS (andB (tst (bin eqD (slot 6) (bin idxD (slot 4) (slot 5)))) (andB (tst (bin notInDct (slot 7) (slot 3))) (tst (bin notInD (slot 7) (slot 2))))) (seqS (dputS 3 (slot 7) (bin idxD (slot 4) (slot 5))) (appS 4 (slot 7))) skip)) (setS 5 (bin addD (slot 5) (fun _ => pure (.int 1)))))) (seqS (ifS (tst (bin notInDct (fldF 0 0 (slot 0)) (slot 3))) (retS (fun _ => pure .non)) skip) (seqS (setS 8 (lstF (consA (fldF 0 0 (slot 0)) nilA))) (seqS (whileS (tst (bin neD (bin idxD (slot 8) (un negD (fun _ => pure (.int 1)))) (slot 1))) (appS 8 (bin getD' (slot 3) (bin idxD (slot 8) (un negD (fun _ => pure (.int 1))))))) (retS (callF tupleD (consA (un revD (slot 8)) nilA))))))))
noncomputable def LB_reached (t_Web_lanes : List D → M D) : Rho → M Fl := (seqS (parS 3 4 (lstF (consA (slot 1) nilA)) (fun _ => pure (.int 0))) (seqS (whileS (tst (bin ltD (slot 4) (callF lenD (consA (slot 3) nilA)))) (seqS (forS (seqF (propF 0 t_Web_lanes (slot 0))) (tgT 2 (tgCons (tgN 5) (tgCons (tgN 6) tgNil))) (ifS (andB (tst (bin eqD (slot 5) (bin idxD (slot 3) (slot 4)))) (andB (tst (bin neD (slot 6) (slot 2))) (tst (bin notInD (slot 6) (slot 3))))) (appS 3 (slot 6)) skip)) (setS 4 (bin addD (slot 4) (fun _ => pure (.int 1)))))) (retS (slot 3))))
noncomputable def LB_around (t_Web_houses : List D → M D) (t_Web_way_without : List D → M D) (t_check_two : List D → M D) (t_reached : List D → M D) : Rho → M Fl := (seqS (dropS (fnF 3 t_check_two [] (consA (slot 0) (consA (slot 1) (consA (slot 2) nilA))))) (seqS (setS 3 (methF 0 3 t_Web_way_without [] (slot 0) (consA (slot 1) (consA (tupF (consA (slot 2) nilA)) nilA)))) (seqS (ifS (tst (bin notNoneD (slot 3) (fun _ => pure .non))) (retS (tupF (consA (fun _ => pure (.str "around")) (consA (slot 3) nilA)))) skip) (seqS (setS 4 (fnF 3 t_reached [] (consA (slot 0) (consA (slot 1) (consA (slot 2) nilA))))) (retS (tupF (consA (fun _ => pure (.str "must")) (consA (callF tupleD (consA (lcF [5] (seqF (propF 0 t_Web_houses (slot 0))) (tgN 5) (tst (bin inD (slot 5) (slot 4))) (slot 5)) nilA)) nilA))))))))
noncomputable def LB_l_is_way : Rho → M Fl := (seqS (ifS (orB (notB (tst (isiF (isTy [] "tuple") (slot 2)))) (orB (tst (bin ltD (callF lenD (consA (slot 2) nilA)) (fun _ => pure (.int 2)))) (notB (tst (callF allD (consA (lcF [3] (seqF (slot 2)) (tgN 3) (fun _ => pure true) (isiF (isTy [] "str") (slot 3))) nilA)))))) (retS (fun _ => pure (.bl false))) skip) (seqS (ifS (orB (tst (bin neD (bin idxD (slot 2) (fun _ => pure (.int 0))) (slot 1))) (orB (tst (bin neD (bin idxD (slot 2) (un negD (fun _ => pure (.int 1)))) (bin getD' (slot 0) (fun _ => pure (.str "gate"))))) (tst (bin neD (un lenSetD (slot 2)) (callF lenD (consA (slot 2) nilA)))))) (retS (fun _ => pure (.bl false))) skip) (retS (callF allD (consA (lcF [4] (rngF zipD (consA (slot 2) (consA (slcF slcT (slot 2) (partI (fun _ => pure (.int 1))) (fun _ => pure none)) nilA))) (tgN 4) (fun _ => pure true) (bin inD (slot 4) (bin getD' (slot 0) (fun _ => pure (.str "lanes"))))) nilA)))))
noncomputable def LB_l_is_lot : Rho → M Fl := (seqS (ifS (orB (notB (tst (isiF (isTy [] "tuple") (slot 3)))) (notB (tst (callF allD (consA (lcF [4] (seqF (slot 3)) (tgN 4) (fun _ => pure true) (isiF (isTy [] "str") (slot 4))) nilA))))) (retS (fun _ => pure (.bl false))) skip) (seqS (ifS (orB (tst (bin neD (callF listD (consA (slot 3) nilA)) (lcF [4] (seqF (bin getD' (slot 0) (fun _ => pure (.str "houses")))) (tgN 4) (tst (bin inD (slot 4) (slot 3))) (slot 4)))) (orB (tst (bin notInD (slot 1) (slot 3))) (tst (bin inD (slot 2) (slot 3))))) (retS (fun _ => pure (.bl false))) skip) (retS (callF allD (consA (lcF [5, 6] (seqF (bin getD' (slot 0) (fun _ => pure (.str "lanes")))) (tgT 2 (tgCons (tgN 5) (tgCons (tgN 6) tgNil))) (tst (bin inD (slot 5) (slot 3))) (orV (bin eqD (slot 6) (slot 2)) (bin inD (slot 6) (slot 3)))) nilA)))))
noncomputable def LB_L_due10 (t_l_is_lot : List D → M D) (t_l_is_way : List D → M D) : Rho → M Fl := (seqS (ifS (orB (notB (tst (isiF (isTy [] "tuple") (slot 3)))) (orB (tst (bin neD (callF lenD (consA (slot 3) nilA)) (fun _ => pure (.int 2)))) (notB (tst (isiF (isTy [] "str") (bin idxD (slot 3) (fun _ => pure (.int 0)))))))) (retS (fun _ => pure (.bl false))) skip) (seqS (ifS (tst (bin eqD (bin idxD (slot 3) (fun _ => pure (.int 0))) (fun _ => pure (.str "around")))) (retS (andV (fnF 3 t_l_is_way [] (consA (slot 0) (consA (slot 1) (consA (bin idxD (slot 3) (fun _ => pure (.int 1))) nilA)))) (bin notInD (slot 2) (bin idxD (slot 3) (fun _ => pure (.int 1)))))) skip) (retS (andV (bin eqD (bin idxD (slot 3) (fun _ => pure (.int 0))) (fun _ => pure (.str "must"))) (fnF 4 t_l_is_lot [] (consA (slot 0) (consA (slot 1) (consA (slot 2) (consA (bin idxD (slot 3) (fun _ => pure (.int 1))) nilA)))))))))
noncomputable def LB_Web_is_way (t_Web_check_house : List D → M D) (t_are_strings : List D → M D) : Rho → M Fl := (seqS (dropS (methF 0 2 t_Web_check_house [] (slot 0) (consA (slot 1) nilA))) (seqS (ifS (orB (notB (tst (fnF 1 t_are_strings [] (consA (slot 2) nilA)))) (orB (tst (bin ltD (callF lenD (consA (slot 2) nilA)) (fun _ => pure (.int 2)))) (tst (bin ltD (un lenSetD (slot 2)) (callF lenD (consA (slot 2) nilA)))))) (retS (fun _ => pure (.bl false))) skip) (seqS (ifS (orB (tst (bin neD (bin idxD (slot 2) (fun _ => pure (.int 0))) (slot 1))) (tst (bin neD (bin idxD (slot 2) (un negD (fun _ => pure (.int 1)))) (fldF 0 0 (slot 0))))) (retS (fun _ => pure (.bl false))) skip) (retS (callF allD (consA (lcF [3] (rngF zipD (consA (slot 2) (consA (slcF slcT (slot 2) (partI (fun _ => pure (.int 1))) (fun _ => pure none)) nilA))) (tgN 3) (fun _ => pure true) (bin inD (slot 3) (fldF 0 3 (slot 0)))) nilA))))))
noncomputable def LB_is_in_sequence : Rho → M Fl := (retS (andV (callF allD (consA (lcF [2] (seqF (slot 0)) (tgN 2) (fun _ => pure true) (bin inD (slot 2) (slot 1))) nilA)) (bin eqD (callF listD (consA (slot 0) nilA)) (lcF [2] (seqF (slot 1)) (tgN 2) (tst (bin inD (slot 2) (slot 0))) (slot 2)))))
noncomputable def LB_shows_around (t_Web_houses : List D → M D) (t_Web_is_way : List D → M D) (t_Web_lanes : List D → M D) (t_are_strings : List D → M D) (t_check_two : List D → M D) (t_is_in_sequence : List D → M D) (t_is_one_of : List D → M D) (t_is_tuple : List D → M D) : Rho → M Fl := (seqS (dropS (fnF 3 t_check_two [] (consA (slot 0) (consA (slot 1) (consA (slot 2) nilA))))) (seqS (ifS (orB (notB (tst (fnF 3 t_is_tuple [] (consA (slot 3) (consA (fun _ => pure (.int 2)) (consA (fun _ => pure (.int 2)) nilA)))))) (notB (tst (fnF 2 t_is_one_of [] (consA (bin idxD (slot 3) (fun _ => pure (.int 0))) (consA (tupF (consA (fun _ => pure (.str "around")) (consA (fun _ => pure (.str "must")) nilA))) nilA)))))) (retS (fun _ => pure (.bl false))) skip) (seqS (tgtS (tgT 2 (tgCons (tgN 4) (tgCons (tgN 5) tgNil))) (slot 3)) (seqS (ifS (tst (bin eqD (slot 4) (fun _ => pure (.str "around")))) (retS (andV (methF 0 3 t_Web_is_way [] (slot 0) (consA (slot 1) (consA (slot 5) nilA))) (bin notInD (slot 2) (slot 5)))) skip) (seqS (ifS (orB (notB (tst (fnF 1 t_are_strings [] (consA (slot 5) nilA)))) (orB (notB (tst (fnF 2 t_is_in_sequence [] (consA (slot 5) (consA (propF 0 t_Web_houses (slot 0)) nilA))))) (orB (tst (bin notInD (slot 1) (slot 5))) (tst (bin inD (slot 2) (slot 5)))))) (retS (fun _ => pure (.bl false))) skip) (retS (callF allD (consA (lcF [6, 7] (seqF (propF 0 t_Web_lanes (slot 0))) (tgT 2 (tgCons (tgN 6) (tgCons (tgN 7) tgNil))) (tst (bin inD (slot 6) (slot 5))) (orV (bin eqD (slot 7) (slot 2)) (bin inD (slot 7) (slot 5)))) nilA))))))))
end VL
namespace VL
section
variable {α : Type} [DecidableEq α] {ls : List (α × α)} {g h o : α}
structure Grow (ls : List (α × α)) (h o : α) (W : List α) (at_ : Nat) (done : List (α × α)) : Prop where
  nd : W.Nodup
  hd : ∃ r, W = h :: r
  no : o ∉ W
  fr : ∀ x ∈ W, x = h ∨ ∃ s, (s, x) ∈ ls
  cl : ∀ i x, i < at_ → W[i]? = some x → ∀ e, (x, e) ∈ ls → e ≠ o → e ∈ W
  cd : ∀ x, W[at_]? = some x → ∀ e, (x, e) ∈ done → e ≠ o → e ∈ W
  sd : ∀ g, ∀ x ∈ W, Comes ls g [o] x → Comes ls g [o] h
theorem Grow.start (n : o ≠ h) : Grow ls h o [h] 0 [] where
  nd := by simp
  hd := ⟨[], rfl⟩
  no := by simpa using n
  fr := fun x hx => .inl (by simpa using hx)
  cl := fun i x hi => by omega
  cd := fun x _ e he => by simp at he
  sd := fun g x hx c => by simp at hx; rw [hx] at c; exact c
def growOn (W : List α) (x o : α) (p : α × α) : List α := if p.1 = x ∧ p.2 ∉ W ∧ p.2 ≠ o then W ++ [p.2] else W
theorem get_grow {W : List α} {x o : α} {p : α × α} {i : Nat} {y : α} (h : W[i]? = some y) : (growOn W x o p)[i]? = some y := by
  unfold growOn
  split
  · rw [List.getElem?_append_left (List.getElem?_eq_some_iff.mp h).1]; exact h
  · exact h
theorem get_grow' {W : List α} {x o : α} {p : α × α} {i : Nat} {y : α} (h : (growOn W x o p)[i]? = some y) (hi : i < W.length) : W[i]? = some y := by
  unfold growOn at h
  split at h
  · rw [List.getElem?_append_left hi] at h; exact h
  · exact h
theorem sub_grow {W : List α} {x o : α} {p : α × α} {y : α} (h : y ∈ W) : y ∈ growOn W x o p := by
  unfold growOn
  split
  · simp [h]
  · exact h
theorem Grow.turn {W : List α} {at_ : Nat} {done : List (α × α)} {x : α} {p : α × α} (G : Grow ls h o W at_ done) (hx : W[at_]? = some x) (hp : p ∈ ls) : Grow ls h o (growOn W x o p) at_ (done ++ [p]) := by
  have hlt := (List.getElem?_eq_some_iff.mp hx).1
  refine ⟨?_, ?_, ?_, ?_, ?_, ?_, ?_⟩
  · unfold growOn
    split
    · rename_i c
      rw [List.nodup_append]
      exact ⟨G.nd, by simp, fun a ha b hb e => by simp at hb; subst hb; subst e; exact c.2.1 ha⟩
    · exact G.nd
  · obtain ⟨r, e⟩ := G.hd
    unfold growOn
    split
    · exact ⟨r ++ [p.2], by rw [e]; rfl⟩
    · exact ⟨r, e⟩
  · unfold growOn
    split
    · rename_i c
      simp only [List.mem_append, List.mem_singleton, not_or]
      exact ⟨G.no, Ne.symm c.2.2⟩
    · exact G.no
  · intro y hy
    unfold growOn at hy
    split at hy
    · rename_i c
      rcases List.mem_append.mp hy with hy | hy
      · exact G.fr y hy
      · simp at hy
        exact .inr ⟨p.1, by rw [hy]; exact hp⟩
    · exact G.fr y hy
  · intro i y hi hy e he ne
    exact sub_grow (G.cl i y hi (get_grow' hy (by omega)) e he ne)
  · intro y hy e he ne
    have hy' := get_grow' hy hlt
    rcases List.mem_append.mp he with he | he
    · exact sub_grow (G.cd y hy' e he ne)
    · simp at he
      subst he
      have : y = x := by rw [hx] at hy'; exact (Option.some.inj hy').symm
      subst this
      unfold growOn
      by_cases q : e ∈ W
      · rw [if_neg (by simp [q])]; exact q
      · rw [if_pos ⟨rfl, q, ne⟩]; simp
  · intro g y hy c
    unfold growOn at hy
    split at hy
    · rename_i q
      rcases List.mem_append.mp hy with hy | hy
      · exact G.sd g y hy c
      · simp at hy
        have xW := List.mem_of_getElem? hx
        refine G.sd g x xW (.step (show (x, y) ∈ ls by rw [hy, ← q.1]; exact hp) c ?_)
        simp only [List.mem_singleton]
        exact fun z => G.no (z ▸ xW)
    · exact G.sd g y hy c
theorem Grow.next {W : List α} {at_ : Nat} (G : Grow ls h o W at_ ls) : Grow ls h o W (at_ + 1) [] where
  nd := G.nd
  hd := G.hd
  no := G.no
  fr := G.fr
  cl := fun i x hi hx e he ne => by
    by_cases q : i = at_
    · subst q; exact G.cd x hx e he ne
    · exact G.cl i x (by omega) hx e he ne
  cd := fun x _ e he => by simp at he
  sd := G.sd
theorem Grow.closed {W : List α} {at_ : Nat} {done : List (α × α)} (G : Grow ls h o W at_ done) (hl : W.length ≤ at_) : ∀ x ∈ W, ∀ e, (x, e) ∈ ls → e ≠ o → e ∈ W := by
  intro x hx e he ne
  obtain ⟨i, hi, rfl⟩ := List.mem_iff_getElem.mp hx
  exact G.cl i _ (by omega) (List.getElem?_eq_getElem hi) e he ne
theorem closed_gate {W : List α} (c : ∀ x ∈ W, ∀ e, (x, e) ∈ ls → e ≠ o → e ∈ W) (og : o ≠ g) {x : α} (h : Comes ls g [o] x) : x ∈ W → g ∈ W := by
  induction h with
  | gate => exact id
  | step h1 h2 h3 ih =>
    rename_i x y
    intro hx
    refine ih (c x hx y h1 ?_)
    rcases comes_gone h2 with q | q
    · rw [q]; exact Ne.symm og
    · simpa using q
theorem Grow.len {W : List α} {at_ : Nat} {done : List (α × α)} {hs : List α} (G : Grow ls h o W at_ done) (hh : h ∈ hs) (hl : ∀ p ∈ ls, p.2 ∈ hs) : W.length ≤ hs.length ∧ ∀ x ∈ W, x ∈ hs := by
  have : ∀ x ∈ W, x ∈ hs := fun x hx => by
    rcases G.fr x hx with rfl | ⟨s, e⟩
    · exact hh
    · exact hl _ e
  exact ⟨length_le_of_nodup G.nd this, this⟩
def Parents (ls : List (α × α)) (h : α) (W : List α) (par : α → α) : Prop := ∀ (i : Nat) (x : α), W[i]? = some x → x ≠ h → ∃ j : Nat, j < i ∧ W[j]? = some (par x) ∧ (par x, x) ∈ ls
def parOn (par : α → α) (x e : α) : α → α := fun y => if y = e then x else par y
theorem Parents.put {W : List α} {par : α → α} {x e : α} {at_ : Nat} (P : Parents ls h W par) (hx : W[at_]? = some x) (he : e ∉ W) (hl : (x, e) ∈ ls) : Parents ls h (W ++ [e]) (parOn par x e) := by
  have hlt := (List.getElem?_eq_some_iff.mp hx).1
  intro i y hy ny
  by_cases hi : i < W.length
  · rw [List.getElem?_append_left hi] at hy
    have hyW := List.mem_of_getElem? hy
    have ye : y ≠ e := fun z => he (z ▸ hyW)
    obtain ⟨j, h1, h2, h3⟩ := P i y hy ny
    have e1 : parOn par x e y = par y := by unfold parOn; rw [if_neg ye]
    rw [e1]
    exact ⟨j, h1, by rw [List.getElem?_append_left (by omega)]; exact h2, h3⟩
  · rw [List.getElem?_append_right (by omega)] at hy
    have : y = e := by
      have := List.mem_of_getElem? hy
      simpa using this
    subst this
    have e1 : parOn par x y y = x := by unfold parOn; rw [if_pos rfl]
    rw [e1]
    exact ⟨at_, by omega, by rw [List.getElem?_append_left hlt]; exact hx, hl⟩
theorem nodup_ix {W : List α} (nd : W.Nodup) {i j : Nat} {y : α} (hi : W[i]? = some y) (hj : W[j]? = some y) : i = j := by
  obtain ⟨l1, e1⟩ := List.getElem?_eq_some_iff.mp hi
  obtain ⟨l2, e2⟩ := List.getElem?_eq_some_iff.mp hj
  have key := List.pairwise_iff_getElem.mp nd
  rcases Nat.lt_trichotomy i j with z | z | z
  · exact absurd (e1.trans e2.symm) (key i j l1 l2 z)
  · exact z
  · exact absurd (e2.trans e1.symm) (key j i l2 l1 z)
structure Back (ls : List (α × α)) (g h : α) (W : List α) (v : List α) (x : α) : Prop where
  last : v.getLast? = some x
  way : IsWay ls g v.reverse
  nd : v.Nodup
  sub : ∀ y ∈ v, y ∈ W
  idx : ∀ (i : Nat) (y : α), W[i]? = some y → y ∈ v → ∀ j : Nat, W[j]? = some x → j ≤ i
theorem Back.start {W : List α} (hg : g ∈ W) (nd : W.Nodup) : Back ls g h W [g] g where
  last := rfl
  way := rfl
  nd := by simp
  sub := fun y hy => by simp at hy; rw [hy]; exact hg
  idx := fun i y hi hy j hj => by
    simp at hy
    subst hy
    have := nodup_ix nd hi hj
    omega
theorem Back.on {W v : List α} {par : α → α} {x : α} (B : Back ls g h W v x) (P : Parents ls h W par) (nd : W.Nodup) (hx : x ≠ h) : Back ls g h W (v ++ [par x]) (par x) ∧ ∃ i j : Nat, W[i]? = some x ∧ W[j]? = some (par x) ∧ j < i := by
  have inj : ∀ {i j : Nat} {y : α}, W[i]? = some y → W[j]? = some y → i = j := fun hi hj => nodup_ix nd hi hj
  have xv : x ∈ v := List.mem_of_getLast? B.last
  obtain ⟨i, hi⟩ := List.mem_iff_getElem?.mp (B.sub x xv)
  obtain ⟨j, hj, hp, hl⟩ := P i x hi hx
  refine ⟨⟨by simp, ?_, ?_, ?_, ?_⟩, i, j, hi, hp, hj⟩
  · rw [List.reverse_append]
    have hb := B.last
    rcases List.eq_nil_or_concat v with z | ⟨r, y, z⟩
    · rw [z] at xv; cases xv
    · rw [List.concat_eq_append] at z
      subst z
      have : y = x := by simpa using hb
      subst this
      have w := B.way
      rw [List.reverse_append] at w ⊢
      exact ⟨hl, w⟩
  · rw [List.nodup_append]
    refine ⟨B.nd, by simp, fun a ha b hb e => ?_⟩
    simp at hb
    subst hb
    subst e
    have := B.idx j _ hp ha i hi
    omega
  · intro y hy
    rcases List.mem_append.mp hy with hy | hy
    · exact B.sub y hy
    · simp at hy
      rw [hy]; exact List.mem_of_getElem? hp
  · intro k y hk hy l hl'
    have el := inj hl' hp
    rcases List.mem_append.mp hy with hy | hy
    · have := B.idx k y hk hy i hi
      omega
    · simp at hy
      subst hy
      have := inj hk hp
      omega
end
end VL
namespace VL
open PySem PySem.Spec PyProof.Rows L2 TL
theorem parS3_pure {i j k : Nat} {fa fb fc : Rho → M D} {ρ : Rho} {a b c : D} (ha : fa ρ = pure a) (hb : fb ρ = pure b) (hc : fc ρ = pure c) : parS3 i j k fa fb fc ρ = pure (.nx (((ρ.set i (some a)).set j (some b)).set k (some c))) := by
  unfold parS3; rw [ha, m_pure_bind, hb, m_pure_bind, hc, m_pure_bind]
theorem get_sts {W : List Str} {i : Nat} {x : Str} (h : W[i]? = some x) : idxD (.lst (sts W)) (.int (i : Nat)) = some (.str x) := idx_nat (by simp [sts, h])
theorem lane_place {L : Lore} (hL : LoreOk L) : ∀ p ∈ L.ls, p.2 ∈ L.g :: L.hs := fun p hp => (hL.ends p hp).2.1
theorem growOn_if {W : List Str} {x o : Str} {p : Lane} : growOn W x o p = if (decide (p.1 = x) && (!decide (p.2 ∈ W) && !decide (p.2 = o))) = true then W ++ [p.2] else W := by
  unfold growOn
  by_cases c : p.1 = x ∧ p.2 ∉ W ∧ p.2 ≠ o
  · rw [if_pos c, if_pos (by simp [c.1, c.2.1, c.2.2])]
  · rw [if_neg c, if_neg]
    intro z
    simp only [Bool.and_eq_true, Bool.not_eq_true', decide_eq_true_eq, decide_eq_false_iff_not] at z
    exact c z
structure Reach (L : Lore) (h o : Str) (W : List Str) : Prop where
  nd : W.Nodup
  hd : h ∈ W
  no : o ∉ W
  sub : ∀ x ∈ W, x ∈ L.g :: L.hs
  cl : ∀ x ∈ W, ∀ e, (x, e) ∈ L.ls → e ≠ o → e ∈ W
  sd : ∀ x ∈ W, Comes L.ls L.g [o] x → Comes L.ls L.g [o] h
theorem Grow.reach {L : Lore} (hL : LoreOk L) {h o : Str} {W : List Str} {a : Nat} (hh : h ∈ L.hs) (G : Grow L.ls h o W a []) (hl : W.length ≤ a) : Reach L h o W where
  nd := G.nd
  hd := by obtain ⟨r, e⟩ := G.hd; rw [e]; simp
  no := G.no
  sub := (G.len (hs := L.g :: L.hs) (by simp [hh]) (lane_place hL)).2
  cl := G.closed hl
  sd := G.sd L.g
def ReachedOk (t : List D → M D) : Prop := ∀ L, LoreOk L → ∀ h ∈ L.hs, ∀ o, OkS o → o ≠ h → ∃ W, t [webD L, .str h, .str o] = pure (.lst (sts W)) ∧ Reach L h o W
theorem reached_ok {tl : List D → M D} (hl : ∀ L, tl [webD L] = pure (.tup (lanes L.ls))) : ReachedOk (runD 7 (LB_reached tl)) := by
  intro L hL h hh o oo no
  have le := hL.le
  have okp : ∀ x ∈ L.g :: L.hs, OkS x := hL.ok
  let R : List Str × Nat × Option D × Option D → Rho := fun st => [some (webD L), some (.str h), some (.str o), some (.lst (sts st.1)), some (.int (st.2.1 : Nat)), st.2.2.1, st.2.2.2]
  suffices hs : ∃ W a s5 s6, runD 7 (LB_reached tl) [webD L, .str h, .str o] = pure (.lst (sts W)) ∧ Grow L.ls h o W a [] ∧ W.length ≤ a ∧ R (W, a, s5, s6) = R (W, a, s5, s6) by
    obtain ⟨W, a, _, _, e, G, hl, _⟩ := hs
    exact ⟨W, e, G.reach hL hh hl⟩
  have step : ∀ st : List Str × Nat × Option D × Option D, (Grow L.ls h o st.1 st.2.1 [] ∧ st.2.1 ≤ st.1.length) → decide (st.2.1 < st.1.length) = true → ∃ st', seqS (forS (seqF (propF 0 tl (slot 0))) (tgT 2 (tgCons (tgN 5) (tgCons (tgN 6) tgNil))) (ifS (andB (tst (bin eqD (slot 5) (bin idxD (slot 3) (slot 4)))) (andB (tst (bin neD (slot 6) (slot 2))) (tst (bin notInD (slot 6) (slot 3))))) (appS 3 (slot 6)) skip)) (setS 4 (bin addD (slot 4) (fun _ => pure (.int 1)))) (R st) = pure (.nx (R st')) ∧ (Grow L.ls h o st'.1 st'.2.1 [] ∧ st'.2.1 ≤ st'.1.length) ∧ 12 - st'.2.1 < 12 - st.2.1 := by
    rintro ⟨W, a, s5, s6⟩ ⟨G, ha⟩ hc
    simp only [decide_eq_true_eq] at hc ha
    obtain ⟨lw, _⟩ := G.len (hs := L.g :: L.hs) (by simp [hh]) (lane_place hL)
    have hx : W[a]? = some W[a] := List.getElem?_eq_getElem hc
    obtain ⟨ρ', e1, W', t5, t6, rfl, G', hx'⟩ := nx_for (body := (ifS (andB (tst (bin eqD (slot 5) (bin idxD (slot 3) (slot 4)))) (andB (tst (bin neD (slot 6) (slot 2))) (tst (bin notInD (slot 6) (slot 3))))) (appS 3 (slot 6)) skip)) (tg := (tgT 2 (tgCons (tgN 5) (tgCons (tgN 6) tgNil)))) (fi := seqF (propF 0 tl (slot 0))) laneD (fun done ρ => ∃ W' t5 t6, ρ = R (W', a, t5, t6) ∧ Grow L.ls h o W' a done ∧ W'[a]? = some W[a]) L.ls (ρ := R (W, a, s5, s6)) (seqF_pure (propF_pure (l := webF L) (slot_at rfl) (hl L)) rfl) ⟨W, s5, s6, rfl, G, hx⟩ (by
      rintro done p rest ρ eh ⟨W', t5, t6, rfl, G', hx'⟩
      have hp : p ∈ L.ls := by rw [eh]; simp
      obtain ⟨o1, o2⟩ := hL.okL p hp
      obtain ⟨lw', sw'⟩ := G'.len (hs := L.g :: L.hs) (by simp [hh]) (lane_place hL)
      have okW : ∀ x ∈ W', OkS x := fun x hx => okp x (sw' x hx)
      have ox : OkS W[a] := okW _ (List.mem_of_getElem? hx')
      have T := G'.turn hx' hp
      have hg := get_grow (x := W[a]) (o := o) (p := p) hx'
      rw [growOn_if] at T hg
      refine ⟨[some (webD L), some (.str h), some (.str o), some (.lst (sts W')), some (.int (a : Nat)), some (.str p.1), some (.str p.2)], rfl, ?_⟩
      have ev : andB (tst (bin eqD (slot 5) (bin idxD (slot 3) (slot 4)))) (andB (tst (bin neD (slot 6) (slot 2))) (tst (bin notInD (slot 6) (slot 3)))) [some (webD L), some (.str h), some (.str o), some (.lst (sts W')), some (.int (a : Nat)), some (.str p.1), some (.str p.2)] = pure (decide (p.1 = W[a]) && (!decide (p.2 ∈ W') && !decide (p.2 = o))) := by
        refine (andB_pure (a := decide (p.1 = W[a])) (b := !decide (p.2 = o) && !decide (p.2 ∈ W')) (tst_pure (bin_pure (slot_at rfl) (bin_pure (slot_at rfl) (slot_at rfl) (get_sts hx')) (eq_str o1 ox))) fun _ => andB_pure (tst_pure (bin_pure (slot_at rfl) (slot_at rfl) (ne_str o2 oo))) fun _ => tst_pure (bin_pure (slot_at rfl) (slot_at rfl) (notIn_strsL o2 okW))).trans ?_
        rw [Bool.and_comm (!decide (p.2 = o))]
      by_cases c : (decide (p.1 = W[a]) && (!decide (p.2 ∈ W') && !decide (p.2 = o))) = true
      · rw [if_pos c] at T hg
        refine nx_ifT (ev.trans (by rw [c])) (nx_of (appS_pure (l := sts W') (d := .str p.2) (slot_at rfl) (slot_at rfl) (by simp [sts]; simp at lw'; omega)) ⟨W' ++ [p.2], some (.str p.1), some (.str p.2), ?_, T, hg⟩)
        simp [R, sts]
      · rw [if_neg c] at T hg
        exact nx_ifF (ev.trans (by rw [Bool.eq_false_iff.mpr c])) (nx_skip ⟨W', some (.str p.1), some (.str p.2), rfl, T, hg⟩))
    refine ⟨(W', a + 1, t5, t6), seqS_go e1 ((setS_pure (d := .int ((a + 1 : Nat) : Int)) (bin_pure (d := .int (a : Nat)) (e := .int 1) (slot_at rfl) rfl (by simp [addD]))).trans rfl), ⟨G'.next, (List.getElem?_eq_some_iff.mp hx').1⟩, ?_⟩
    simp at lw
    show 12 - (a + 1) < 12 - a
    omega
  obtain ⟨⟨W, a, s5, s6⟩, e, ⟨G, ha⟩, c⟩ := whileS_inv (g := (tst (bin ltD (slot 4) (callF lenD (consA (slot 3) nilA))))) R (fun st => Grow L.ls h o st.1 st.2.1 [] ∧ st.2.1 ≤ st.1.length) (fun st => 12 - st.2.1) (fun st => decide (st.2.1 < st.1.length))
    (fun st I => (tst_pure (bin_pure (d := .int (st.2.1 : Nat)) (e := .int (st.1.length : Nat)) (slot_at rfl) (callF_pure (ds := [.lst (sts st.1)]) (consA_pure (slot_at rfl) rfl) len_LS) (lt_int _ _))).trans (by congr 1; rw [decide_eq_decide]; exact Int.ofNat_lt)) step ([h], 0, none, none) ⟨Grow.start no, by simp⟩
  refine ⟨W, a, s5, s6, ?_, G, ?_, rfl⟩
  · refine runD_pure ?_
    unfold LB_reached
    exact seqS_go (parS_pure (a := .lst (sts [h])) (b := .int 0) (lstF_S (consA_S (slot_at rfl) nilA_S) (by simp)) rfl) (seqS_go e (retS_pure (slot_at rfl)))
  · simp only [decide_eq_false_iff_not] at c
    exact Nat.le_of_not_lt c
end VL
namespace VL
open PySem PySem.Spec PyProof.Rows L2 TL
theorem idxL_last {l : List D} {d : D} : idxD (.lst (l ++ [d])) (.int (-1)) = some d := by
  show L2.atI (l ++ [d]) (-1) = some d
  unfold L2.atI L2.ixN
  have h1 : ¬ (0 : Int) ≤ -1 := by decide
  rw [if_neg h1, if_pos (by simp; omega)]
  have : ((-1 : Int) + ((l ++ [d]).length : Nat)).toNat = l.length := by simp; omega
  show (l ++ [d])[((-1 : Int) + ((l ++ [d]).length : Nat)).toNat]? = some d
  rw [this]; simp
theorem idxL_getLast {v : List Str} {x : Str} (h : v.getLast? = some x) : idxD (.lst (sts v)) (.int (-1)) = some (.str x) := by
  rcases List.eq_nil_or_concat v with z | ⟨r, y, z⟩
  · rw [z] at h; cases h
  · rw [List.concat_eq_append] at z
    subst z
    have : y = x := by simpa using h
    subst this
    rw [← sts_app]
    exact idxL_last
def parD (h : Str) (par : Str → Str) : Str → D := fun x => if x = h then .non else .str (par x)
theorem parD_put {h e x : Str} {par : Str → Str} (ne : e ≠ h) : setK (parD h par) e (.str x) = parD h (parOn par x e) := by
  funext y
  unfold setK parD parOn
  by_cases a : y = e
  · subst a; rw [if_pos rfl, if_neg ne, if_pos rfl]
  · rw [if_neg a, if_neg a]
theorem dispF_one {h : Str} {par : Str → Str} {fk : Rho → M D} {ρ : Rho} (hk : fk ρ = pure (.str h)) : dispF (consP fk (fun _ => pure .non) nilP) ρ = pure (dctS [h] (parD h par)) := by
  unfold dispF consP nilP
  rw [hk]
  simp only [m_pure_bind, asKey, opt_some]
  show pure (D.dct (mergeD [] [(Sum.inr h, D.non)])) = _
  unfold dctS dS parD
  simp [mergeD, putD]
theorem Reach.gate {L : Lore} {h o : Str} {W : List Str} (R : Reach L h o W) (og : o ≠ L.g) (c : Comes L.ls L.g [o] h) : L.g ∈ W := closed_gate R.cl og c R.hd
structure GoodWay (L : Lore) (h o : Str) (w : List Str) : Prop where
  way : IsWay L.ls L.g w
  nd : w.Nodup
  hd : ∃ r, w = h :: r
  no : o ∉ w
theorem GoodWay.comes {L : Lore} {h o : Str} {w : List Str} (G : GoodWay L h o w) : Comes L.ls L.g [o] h := by
  obtain ⟨r, e⟩ := G.hd
  have w := G.way
  rw [e] at w
  exact w.comes fun y hy z => G.no (by rw [e, ← z]; exact hy)
theorem Back.good {L : Lore} {h o : Str} {W v : List Str} (R : Reach L h o W) (B : Back L.ls L.g h W v h) : GoodWay L h o v.reverse where
  way := B.way
  nd := by
    rw [List.Nodup, List.pairwise_reverse]
    exact List.Pairwise.imp (fun z => Ne.symm z) B.nd
  hd := by
    have h1 := B.last
    rcases List.eq_nil_or_concat v with z | ⟨r, y, z⟩
    · rw [z] at h1; cases h1
    · rw [List.concat_eq_append] at z
      subst z
      have : y = h := by simpa using h1
      exact ⟨r.reverse, by simp [this]⟩
  no := fun z => R.no (B.sub _ (List.mem_reverse.mp z))
def WayWOk (t : List D → M D) : Prop := ∀ L, LoreOk L → ∀ h ∈ L.hs, ∀ o, OkS o → o ≠ h → o ≠ L.g → (¬ Comes L.ls L.g [o] h → t [webD L, .str h, .tup [.str o]] = pure .non) ∧ (Comes L.ls L.g [o] h → ∃ w, t [webD L, .str h, .tup [.str o]] = pure (.tup (sts w)) ∧ GoodWay L h o w)
noncomputable abbrev WWbody : Rho → M Fl := (ifS (andB (tst (bin eqD (slot 6) (bin idxD (slot 4) (slot 5)))) (andB (tst (bin notInDct (slot 7) (slot 3))) (tst (bin notInD (slot 7) (slot 2))))) (seqS (dputS 3 (slot 7) (bin idxD (slot 4) (slot 5))) (appS 4 (slot 7))) skip)
noncomputable abbrev WWstep : Rho → M Fl := (seqS (forS (seqF (fldF 0 3 (slot 0))) (tgT 2 (tgCons (tgN 6) (tgCons (tgN 7) tgNil))) WWbody) (setS 5 (bin addD (slot 5) (fun _ => pure (.int 1)))))
noncomputable def wwR (L : Lore) (h o : Str) (st : (List Str × (Str → Str)) × Nat × Option D × Option D) : Rho := [some (webD L), some (.str h), some (.tup [.str o]), some (dctS st.1.1 (parD h st.1.2)), some (.lst (sts st.1.1)), some (.int (st.2.1 : Nat)), st.2.2.1, st.2.2.2, none]
theorem ww_for {L : Lore} (hL : LoreOk L) {h o : Str} (hh : h ∈ L.hs) (oo : OkS o) {W : List Str} {par : Str → Str} {a : Nat} {s6 s7 : Option D} (G : Grow L.ls h o W a []) (P : Parents L.ls h W par) (hx : W[a]? = some W[a]!) : Nx (forS (seqF (fldF 0 3 (slot 0))) (tgT 2 (tgCons (tgN 6) (tgCons (tgN 7) tgNil))) WWbody (wwR L h o ((W, par), a, s6, s7))) (fun ρ => ∃ W' par' t6 t7, ρ = wwR L h o ((W', par'), a, t6, t7) ∧ Grow L.ls h o W' a L.ls ∧ Parents L.ls h W' par' ∧ W'[a]? = some W[a]!) := by
  have okp : ∀ x ∈ L.g :: L.hs, OkS x := hL.ok
  have le := hL.le
  refine nx_for (body := WWbody) laneD (fun done ρ => ∃ W' par' t6 t7, ρ = wwR L h o ((W', par'), a, t6, t7) ∧ Grow L.ls h o W' a done ∧ Parents L.ls h W' par' ∧ W'[a]? = some W[a]!) L.ls (seqF_pure (d := .tup (lanes L.ls)) (fldF_pure (l := webF L) (slot_at rfl) rfl) rfl) ⟨W, par, s6, s7, rfl, G, P, hx⟩ ?_
  rintro done p rest ρ eh ⟨W', par', t6, t7, rfl, G', P', hx'⟩
  have hp : p ∈ L.ls := by rw [eh]; simp
  obtain ⟨o1, o2⟩ := hL.okL p hp
  obtain ⟨lw', sw'⟩ := G'.len (hs := L.g :: L.hs) (by simp [hh]) (lane_place hL)
  have okW : ∀ x ∈ W', OkS x := fun x hx => okp x (sw' x hx)
  have ox : OkS W[a]! := okW _ (List.mem_of_getElem? hx')
  have T := G'.turn hx' hp
  have hg := get_grow (x := W[a]!) (o := o) (p := p) hx'
  rw [growOn_if] at T hg
  refine ⟨[some (webD L), some (.str h), some (.tup [.str o]), some (dctS W' (parD h par')), some (.lst (sts W')), some (.int (a : Nat)), some (.str p.1), some (.str p.2), none], rfl, ?_⟩
  have ev : andB (tst (bin eqD (slot 6) (bin idxD (slot 4) (slot 5)))) (andB (tst (bin notInDct (slot 7) (slot 3))) (tst (bin notInD (slot 7) (slot 2)))) [some (webD L), some (.str h), some (.tup [.str o]), some (dctS W' (parD h par')), some (.lst (sts W')), some (.int (a : Nat)), some (.str p.1), some (.str p.2), none] = pure (decide (p.1 = W[a]!) && (!decide (p.2 ∈ W') && !decide (p.2 = o))) := by
    refine (andB_pure (a := decide (p.1 = W[a]!)) (b := !decide (p.2 ∈ W') && !decide (p.2 ∈ [o])) (tst_pure (bin_pure (slot_at rfl) (bin_pure (slot_at rfl) (slot_at rfl) (get_sts hx')) (eq_str o1 ox))) fun _ => andB_pure (tst_pure (bin_pure (slot_at rfl) (slot_at rfl) notInDct_dS)) fun _ => tst_pure (bin_pure (e := .tup (sts [o])) (slot_at rfl) (slot_at rfl) (notIn_strsT o2 (fun x hx => by simp at hx; rw [hx]; exact oo)))).trans ?_
    simp only [List.mem_singleton]
  by_cases c : (decide (p.1 = W[a]!) && (!decide (p.2 ∈ W') && !decide (p.2 = o))) = true
  · rw [if_pos c] at T hg
    have c' := c
    simp only [Bool.and_eq_true, Bool.not_eq_true', decide_eq_true_eq, decide_eq_false_iff_not] at c'
    obtain ⟨c1, c2, c3⟩ := c'
    have nh : p.2 ≠ h := fun z => c2 (by obtain ⟨r, e⟩ := G'.hd; rw [e, z]; simp)
    refine nx_ifT (ev.trans (by rw [c])) (nx_go (dputS_new (ks := W') (f := parD h par') (k := p.2) (d := .str W[a]!) rfl (bin_pure (slot_at rfl) (slot_at rfl) (get_sts hx')) (slot_at rfl) c2 (by simp at lw'; omega)) ?_)
    rw [parD_put nh]
    refine nx_of (appS_pure (l := sts W') (d := .str p.2) (slot_at rfl) (slot_at rfl) (by simp [sts]; simp at lw'; omega)) ⟨W' ++ [p.2], parOn par' W[a]! p.2, some (.str p.1), some (.str p.2), ?_, T, ?_, hg⟩
    · simp [wwR, sts]
    · exact P'.put hx' c2 (by rw [← c1]; exact hp)
  · rw [if_neg c] at T hg
    exact nx_ifF (ev.trans (by rw [Bool.eq_false_iff.mpr c])) (nx_skip ⟨W', par', some (.str p.1), some (.str p.2), rfl, T, P', hg⟩)
theorem ww_loop {L : Lore} (hL : LoreOk L) {h o : Str} (hh : h ∈ L.hs) (oo : OkS o) (no : o ≠ h) (par0 : Str → Str) : ∃ st', whileS (tst (bin ltD (slot 5) (callF lenD (consA (slot 4) nilA)))) WWstep (wwR L h o (([h], par0), 0, none, none)) = pure (.nx (wwR L h o st')) ∧ Reach L h o st'.1.1 ∧ Parents L.ls h st'.1.1 st'.1.2 := by
  have le := hL.le
  have step : ∀ st : (List Str × (Str → Str)) × Nat × Option D × Option D, (Grow L.ls h o st.1.1 st.2.1 [] ∧ Parents L.ls h st.1.1 st.1.2 ∧ st.2.1 ≤ st.1.1.length) → decide (st.2.1 < st.1.1.length) = true → ∃ st', WWstep (wwR L h o st) = pure (.nx (wwR L h o st')) ∧ (Grow L.ls h o st'.1.1 st'.2.1 [] ∧ Parents L.ls h st'.1.1 st'.1.2 ∧ st'.2.1 ≤ st'.1.1.length) ∧ 12 - st'.2.1 < 12 - st.2.1 := by
    rintro ⟨⟨W, par⟩, a, s6, s7⟩ ⟨G, P, ha⟩ hc
    simp only [decide_eq_true_eq] at hc ha
    obtain ⟨lw, _⟩ := G.len (hs := L.g :: L.hs) (by simp [hh]) (lane_place hL)
    have hx : W[a]? = some W[a]! := by rw [List.getElem?_eq_getElem hc, getElem!_pos W a hc]
    obtain ⟨ρ', e1, W', par', t6, t7, rfl, G', P', hx'⟩ := ww_for (s6 := s6) (s7 := s7) hL hh oo G P hx
    refine ⟨((W', par'), a + 1, t6, t7), seqS_go e1 ((setS_pure (d := .int ((a + 1 : Nat) : Int)) (bin_pure (d := .int (a : Nat)) (e := .int 1) (slot_at rfl) rfl (by simp [addD]))).trans rfl), ⟨G'.next, P', (List.getElem?_eq_some_iff.mp hx').1⟩, ?_⟩
    simp at lw
    show 12 - (a + 1) < 12 - a
    omega
  obtain ⟨st', e, ⟨G, P, ha⟩, c⟩ := whileS_inv (g := (tst (bin ltD (slot 5) (callF lenD (consA (slot 4) nilA))))) (wwR L h o) (fun st => Grow L.ls h o st.1.1 st.2.1 [] ∧ Parents L.ls h st.1.1 st.1.2 ∧ st.2.1 ≤ st.1.1.length) (fun st => 12 - st.2.1) (fun st => decide (st.2.1 < st.1.1.length))
    (fun st I => (tst_pure (bin_pure (d := .int (st.2.1 : Nat)) (e := .int (st.1.1.length : Nat)) (slot_at rfl) (callF_pure (ds := [.lst (sts st.1.1)]) (consA_pure (slot_at rfl) rfl) len_LS) (lt_int _ _))).trans (by congr 1; rw [decide_eq_decide]; exact Int.ofNat_lt)) step (([h], par0), 0, none, none) ⟨Grow.start no, fun i x hi nx => by
      have := List.mem_of_getElem? hi
      simp at this
      exact absurd this nx, by simp⟩
  refine ⟨st', e, G.reach hL hh ?_, P⟩
  simp only [decide_eq_false_iff_not] at c
  exact Nat.le_of_not_lt c
theorem ww_back {L : Lore} (hL : LoreOk L) {h o : Str} (hh : h ∈ L.hs) {W : List Str} {par : Str → Str} (R : Reach L h o W) (P : Parents L.ls h W par) {a : Nat} {s6 s7 : Option D} (hg : L.g ∈ W) : ∃ v, whileS (tst (bin neD (bin idxD (slot 8) (un negD (fun _ => pure (.int 1)))) (slot 1))) (appS 8 (bin getD' (slot 3) (bin idxD (slot 8) (un negD (fun _ => pure (.int 1)))))) ((wwR L h o ((W, par), a, s6, s7)).set 8 (some (.lst (sts [L.g])))) = pure (.nx ((wwR L h o ((W, par), a, s6, s7)).set 8 (some (.lst (sts v))))) ∧ Back L.ls L.g h W v h := by
  have okp : ∀ x ∈ L.g :: L.hs, OkS x := hL.ok
  have le := hL.le
  have last : ∀ (v : List Str) (x : Str), v.getLast? = some x → bin idxD (slot 8) (un negD (fun _ => pure (.int 1))) ((wwR L h o ((W, par), a, s6, s7)).set 8 (some (.lst (sts v)))) = pure (.str x) := fun v x e => bin_pure (d := .lst (sts v)) (e := .int (-1)) (slot_at rfl) (un_pure (d := .int 1) rfl rfl) (idxL_getLast e)
  obtain ⟨⟨v, x⟩, e, B, c⟩ := whileS_inv (g := (tst (bin neD (bin idxD (slot 8) (un negD (fun _ => pure (.int 1)))) (slot 1)))) (body := (appS 8 (bin getD' (slot 3) (bin idxD (slot 8) (un negD (fun _ => pure (.int 1))))))) (S := List Str × Str) (fun st => (wwR L h o ((W, par), a, s6, s7)).set 8 (some (.lst (sts st.1)))) (fun st => Back L.ls L.g h W st.1 st.2) (fun st => W.idxOf st.2) (fun st => !decide (st.2 = h))
    (fun st B => tst_pure (bin_pure (last _ _ B.last) (slot_at rfl) (ne_str (okp _ (R.sub _ (B.sub _ (List.mem_of_getLast? B.last)))) (okp h (by simp [hh]))))) (by
      rintro ⟨v, x⟩ B c
      have nx : x ≠ h := by simpa using c
      obtain ⟨B', i, j, hi, hj, hij⟩ := B.on P R.nd nx
      have xW : x ∈ W := B.sub _ (List.mem_of_getLast? B.last)
      have lv : v.length ≤ W.length := length_le_of_nodup B.nd B.sub
      have lW : W.length ≤ (L.g :: L.hs).length := length_le_of_nodup R.nd R.sub
      simp at lW
      refine ⟨(v ++ [par x], par x), ?_, B', ?_⟩
      · refine (appS_pure (l := sts v) (d := .str (par x)) (slot_at rfl) (bin_pure (slot_at rfl) (last v x B.last) ((getD'_dS xW).trans ?_)) (by simp [sts]; omega)).trans ?_
        · simp [parD, nx]
        · simp [wwR, sts]
      · show W.idxOf (par x) < W.idxOf x
        have e1 : W.idxOf x = i := nodup_ix R.nd (by rw [List.getElem?_eq_getElem (List.idxOf_lt_length_of_mem xW)]; simp) hi
        have e2 : W.idxOf (par x) = j := nodup_ix R.nd (by rw [List.getElem?_eq_getElem (List.idxOf_lt_length_of_mem (List.mem_of_getElem? hj))]; simp) hj
        omega) ([L.g], L.g) (Back.start hg R.nd)
  have : x = h := by simpa using c
  subst this
  exact ⟨v, e, B⟩
theorem way_without_ok : WayWOk (runD 9 LB_Web_way_without) := by
  intro L hL h hh o oo no og
  obtain ⟨⟨⟨W, par⟩, a, s6, s7⟩, e1, R, P⟩ := ww_loop hL hh oo no id
  have e0 : parS3 3 4 5 (dispF (consP (slot 1) (fun _ => pure .non) nilP)) (lstF (consA (slot 1) nilA)) (fun _ => pure (.int 0)) (rho0 9 [webD L, .str h, .tup [.str o]]) = pure (.nx (wwR L h o (([h], id), 0, none, none))) := parS3_pure (a := dctS [h] (parD h id)) (b := .lst (sts [h])) (c := .int 0) (dispF_one (slot_at rfl)) (lstF_S (consA_S (slot_at rfl) nilA_S) (by simp)) rfl
  have gf : fldF 0 0 (slot 0) (wwR L h o ((W, par), a, s6, s7)) = pure (.str L.g) := fldF_pure (l := webF L) (slot_at rfl) rfl
  have tg : tst (bin notInDct (fldF 0 0 (slot 0)) (slot 3)) (wwR L h o ((W, par), a, s6, s7)) = pure (!decide (L.g ∈ W)) := tst_pure (bin_pure gf (slot_at rfl) notInDct_dS)
  refine ⟨fun nc => ?_, fun hc => ?_⟩
  · have ng : L.g ∉ W := fun z => by
      obtain ⟨v, _, B⟩ := ww_back (a := a) (s6 := s6) (s7 := s7) hL hh R P z
      exact nc (B.good R).comes
    refine runD_pure ?_
    unfold LB_Web_way_without
    exact seqS_go e0 (seqS_go e1 (seqS_rt' (ifS_t tg (by simp [ng]) (retS_pure rfl))))
  · have hg : L.g ∈ W := R.gate og hc
    obtain ⟨v, e2, B⟩ := ww_back (a := a) (s6 := s6) (s7 := s7) hL hh R P hg
    refine ⟨v.reverse, runD_pure ?_, B.good R⟩
    unfold LB_Web_way_without
    refine seqS_go e0 (seqS_go e1 (seqS_go (ifS_f tg (by simp [hg]) skip_pure) (seqS_go (setS_pure (lstF_S (consA_S gf nilA_S) (by simp))) (seqS_go e2 (retS_pure (callF_pure (ds := [.lst (sts v).reverse]) (consA_pure (un_pure (d := .lst (sts v)) (slot_at rfl) rfl) rfl) ?_))))))
    show tupleD [.lst (sts v).reverse] = _
    rw [show (sts v).reverse = sts v.reverse from by simp [sts]]
    have lv : v.length ≤ W.length := length_le_of_nodup B.nd B.sub
    have lW : W.length ≤ (L.g :: L.hs).length := length_le_of_nodup R.nd R.sub
    have le := hL.le
    simp at lW
    first | rfl | exact tupleD_strs (by simp; omega)
end VL
namespace VL
open PySem PySem.Spec PyProof.Rows L2 TL
theorem ne_bl (a b : Bool) : neD (.bl a) (.bl b) = some (.bl (!decide (a = b))) := by
  rw [neD_ok rfl rfl]
  cases a <;> cases b <;> rfl
theorem ne_strs2 {a b : List Str} (ha : ∀ x ∈ a, OkS x) (hb : ∀ x ∈ b, OkS x) : neD (.lst (sts a)) (.lst (sts b)) = some (.bl (!decide (a = b))) := by
  rw [neD_ok (d := .lst (sts a)) (e := .lst (sts b)) (okD_strs (n := 63) ha) (okD_strs (n := 63) hb)]
  simp [eqB, eqBL_sts]
theorem eq_strsL {a b : List Str} (ha : ∀ x ∈ a, OkS x) (hb : ∀ x ∈ b, OkS x) : eqD (.lst (sts a)) (.lst (sts b)) = some (.bl (decide (a = b))) := by
  rw [eqD_ok (d := .lst (sts a)) (e := .lst (sts b)) (okD_strs (n := 63) ha) (okD_strs (n := 63) hb)]
  simp [eqB, eqBL_sts]
theorem idxT_getLast {v : List Str} {x : Str} (h : v.getLast? = some x) : idxD (.tup (sts v)) (.int (-1)) = some (.str x) := by
  rcases List.eq_nil_or_concat v with z | ⟨r, y, z⟩
  · rw [z] at h; cases h
  · rw [List.concat_eq_append] at z
    subst z
    have : y = x := by simpa using h
    subst this
    rw [← sts_app]
    exact idx_last
theorem zipR_ev {i : Nat} {ρ : Rho} {w : List Str} (h : ρ[i]? = some (some (.tup (sts w)))) : rngF zipD (consA (slot i) (consA (slcF slcT (slot i) (partI (fun _ => pure (.int 1))) (fun _ => pure none)) nilA)) ρ = pure (lanes (stepsOf w)) := by
  unfold rngF
  rw [consA_pure (slot_at h) (consA_pure (slcF_pure (d := .tup (sts w)) (lo := some 1) (hi := none) (slot_at h) rfl rfl (slT_dS (l := w) 1 (by decide))) rfl), m_pure_bind]
  show opt (zipD [.tup (sts w), .tup (sts (w.drop 1))]) = _
  have : zipD [.tup (sts w), .tup (sts (w.drop 1))] = some (pairsL (sts w) (sts (w.drop 1))) := rfl
  rw [this, pairs_steps]; rfl
theorem way_mem {ls : List Lane} {g : Str} : ∀ {p : List Str} {x : Str}, IsWay ls g (x :: p) → ∀ y ∈ p, ∃ s, (s, y) ∈ ls
  | [], _, _, y, hy => by cases hy
  | z :: p, x, h, y, hy => by
    rcases List.mem_cons.mp hy with e | hy
    · rw [e]; exact ⟨x, h.1⟩
    · exact way_mem (p := p) h.2 y hy
theorem GoodWay.sub {L : Lore} (hL : LoreOk L) {h o : Str} (hh : h ∈ L.hs) {w : List Str} (G : GoodWay L h o w) : ∀ x ∈ w, x ∈ L.g :: L.hs := by
  obtain ⟨r, rfl⟩ := G.hd
  intro x hx
  rcases List.mem_cons.mp hx with rfl | hx
  · simp [hh]
  · obtain ⟨s, e⟩ := way_mem G.way x hx
    exact lane_place hL _ e
theorem GoodWay.len {L : Lore} (hL : LoreOk L) {h o : Str} (hh : h ∈ L.hs) {w : List Str} (G : GoodWay L h o w) : w.length ≤ 11 := by
  have := length_le_of_nodup G.nd (G.sub hL hh)
  have le := hL.le
  simp at this
  omega
theorem GoodWay.two {L : Lore} (hL : LoreOk L) {h o : Str} (hh : h ∈ L.hs) {w : List Str} (G : GoodWay L h o w) : 2 ≤ w.length := by
  obtain ⟨r, rfl⟩ := G.hd
  cases r with
  | nil => exact absurd (show h = L.g from G.way) (hL.gate_ne h hh)
  | cons y r => simp
theorem GoodWay.last {L : Lore} {h o : Str} {w : List Str} (G : GoodWay L h o w) : w.getLast? = some L.g := by
  obtain ⟨r, rfl⟩ := G.hd
  exact IsWay.last G.way
theorem GoodWay.zero {L : Lore} {h o : Str} {w : List Str} (G : GoodWay L h o w) : idxD (.tup (sts w)) (.int 0) = some (.str h) := by
  obtain ⟨r, rfl⟩ := G.hd
  show L2.atI (sts (h :: r)) 0 = some (.str h)
  unfold L2.atI L2.ixN
  simp [sts]
def LwayOk (t : List D → M D) : Prop := ∀ L, LoreOk L → ∀ h ∈ L.hs, ∀ o w, GoodWay L h o w → t [loreD L, .str h, .tup (sts w)] = pure (.bl true)
def WwayOk (t : List D → M D) : Prop := ∀ L, LoreOk L → ∀ h ∈ L.hs, ∀ o w, GoodWay L h o w → t [webD L, .str h, .tup (sts w)] = pure (.bl true)
theorem l_is_way_ok : LwayOk (runD 5 LB_l_is_way) := by
  intro L hL h hh o w G
  have ok : ∀ x ∈ w, OkS x := fun x hx => hL.ok x (G.sub hL hh x hx)
  have og := hL.ok L.g (by simp)
  have oh := hL.ok h (by simp [hh])
  have lw := G.len hL hh
  have l2 := G.two hL hh
  have sl := steps_in G.way
  refine runD_pure ?_
  unfold LB_l_is_way
  refine seqS_go (ifS_f (b := false) ?_ rfl rfl) (seqS_go (ifS_f (b := false) ?_ rfl rfl) (retS_pure ?_))
  · refine (orB_pure (a := false) (b := false) (notB_pure (a := true) (tst_pure (isiF_pure (d := .tup (sts w)) rfl rfl))) fun _ => (orB_pure (a := decide (((w.length : Nat) : Int) < 2)) (b := false) (tst_pure (bin_pure (callF_pure (ds := [.tup (sts w)]) (consA_pure rfl rfl) len_TS) rfl (lt_int _ _))) fun _ => notB_pure (a := true) (tst_pure (callF_pure (ds := [.lst (w.map fun _ => .bl true)]) (consA_pure ?_ rfl) ?_))).trans ?_).trans rfl
    · refine lcF_ev0 (enc := D.str) (l := w) (out := fun _ => .bl true) (L := sts w) (seqF_pure (d := .tup (sts w)) rfl rfl) rfl fun x hx => ?_
      exact compAt_mk rfl rfl (fun _ => isiF_pure (d := .str x) rfl rfl) rfl rfl
    · exact (all_map w fun _ => true).trans (by simp)
    · rw [Bool.or_false]; congr 1; simp; omega
  · refine (orB_pure (a := !decide (h = h)) (b := false) (tst_pure (bin_pure (d := .str h) (bin_pure (d := .tup (sts w)) (e := .int 0) rfl rfl G.zero) rfl (ne_str oh oh))) fun _ => (orB_pure (a := !decide (L.g = L.g)) (b := false) (tst_pure (bin_pure (d := .str L.g) (bin_pure (d := .tup (sts w)) (e := .int (-1)) rfl (un_pure (d := .int 1) rfl rfl) (idxT_getLast G.last)) (bin_pure (d := loreD L) rfl rfl (get_gate L)) (ne_str og og))) fun _ => (tst_pure (bin_pure (un_pure (d := .tup (sts w)) rfl (lenSet_T (xs := w) (by omega))) (callF_pure (ds := [.tup (sts w)]) (consA_pure rfl rfl) len_TS) (ne_int _ _))).trans ?_).trans ?_).trans ?_
    · rw [(cntS_nodup w).mpr G.nd]; simp
    · simp
    · simp
  · refine callF_pure (ds := [.lst ((stepsOf w).map fun _ => .bl true)]) (consA_pure ?_ rfl) ((all_map (stepsOf w) fun _ => true).trans (by simp))
    refine lcF_ev0 (enc := laneD) (l := stepsOf w) (out := fun _ => .bl true) (L := lanes (stepsOf w)) (zipR_ev rfl) rfl fun p hp => ?_
    refine compAt_mk rfl rfl (fun _ => bin_pure (d := laneD p) (slot_at rfl) (bin_pure (d := loreD L) rfl rfl (get_lanes L)) ((in_lanesL (hL.okL p (sl p hp)) fun q hq => hL.okL q hq).trans ?_)) rfl rfl
    rw [decide_eq_true (sl p hp)]
theorem web_is_way_ok {tc ts : List D → M D} (hc : ∀ L, LoreOk L → ∀ h ∈ L.hs, tc [webD L, .str h] = pure .non) (hs : ∀ c : List Str, ts [.tup (sts c)] = pure (.bl true)) : WwayOk (runD 4 (LB_Web_is_way tc ts)) := by
  intro L hL h hh o w G
  have ok : ∀ x ∈ w, OkS x := fun x hx => hL.ok x (G.sub hL hh x hx)
  have og := hL.ok L.g (by simp)
  have oh := hL.ok h (by simp [hh])
  have lw := G.len hL hh
  have l2 := G.two hL hh
  have sl := steps_in G.way
  refine runD_pure ?_
  unfold LB_Web_is_way
  refine seqS_go (dropS_pure (methF_pure (l := webF L) (ds := [.str h]) (slot_at rfl) (consA_pure (slot_at rfl) rfl) rfl (hc L hL h hh))) (seqS_go (ifS_f (b := false) ?_ rfl rfl) (seqS_go (ifS_f (b := false) ?_ rfl rfl) (retS_pure ?_)))
  · refine (orB_pure (a := false) (b := false) (notB_pure (a := true) (tst_pure (fnF_pure0 (ds := [.tup (sts w)]) rfl rfl (hs w)))) fun _ => (orB_pure (a := decide (((w.length : Nat) : Int) < 2)) (b := false) (tst_pure (bin_pure (callF_pure (ds := [.tup (sts w)]) (consA_pure rfl rfl) len_TS) rfl (lt_int _ _))) fun _ => (tst_pure (bin_pure (un_pure (d := .tup (sts w)) rfl (lenSet_T (xs := w) (by omega))) (callF_pure (ds := [.tup (sts w)]) (consA_pure rfl rfl) len_TS) (lt_int _ _))).trans ?_).trans ?_).trans rfl
    · rw [(cntS_nodup w).mpr G.nd]; simp
    · rw [Bool.or_false]; congr 1; simp; omega
  · refine (orB_pure (a := !decide (h = h)) (b := !decide (L.g = L.g)) (tst_pure (bin_pure (d := .str h) (bin_pure (d := .tup (sts w)) (e := .int 0) rfl rfl G.zero) rfl (ne_str oh oh))) fun _ => (tst_pure (bin_pure (d := .str L.g) (bin_pure (d := .tup (sts w)) (e := .int (-1)) rfl (un_pure (d := .int 1) rfl rfl) (idxT_getLast G.last)) (fldF_pure (l := webF L) rfl rfl) (ne_str og og)))).trans ?_
    simp
  · refine callF_pure (ds := [.lst ((stepsOf w).map fun _ => .bl true)]) (consA_pure ?_ rfl) ((all_map (stepsOf w) fun _ => true).trans (by simp))
    refine lcF_ev0 (enc := laneD) (l := stepsOf w) (out := fun _ => .bl true) (L := lanes (stepsOf w)) (zipR_ev rfl) rfl fun p hp => ?_
    refine compAt_mk rfl rfl (fun _ => bin_pure (d := laneD p) (slot_at rfl) (fldF_pure (l := webF L) rfl rfl) ((in_lanesT (hL.okL p (sl p hp)) fun q hq => hL.okL q hq).trans ?_)) rfl rfl
    rw [decide_eq_true (sl p hp)]
structure GoodLot (L : Lore) (h o : Str) (B : List Str) : Prop where
  sub : L.hs.filter (fun x => decide (x ∈ B)) = B
  hd : h ∈ B
  no : o ∉ B
  cl : ∀ p ∈ L.ls, p.1 ∈ B → p.2 = o ∨ p.2 ∈ B
theorem GoodLot.mem {L : Lore} {h o : Str} {B : List Str} (G : GoodLot L h o B) : ∀ x ∈ B, x ∈ L.hs := fun x hx => by
  rw [← G.sub] at hx
  exact (List.mem_filter.mp hx).1
theorem Reach.lot {L : Lore} (hL : LoreOk L) {h o : Str} {W : List Str} (R : Reach L h o W) (hh : h ∈ L.hs) (nc : ¬ Comes L.ls L.g [o] h) : GoodLot L h o (L.hs.filter fun x => decide (x ∈ W)) where
  sub := List.filter_congr fun x hx => by
    rw [decide_eq_decide, List.mem_filter]
    simp [hx]
  hd := List.mem_filter.mpr ⟨hh, by simpa using R.hd⟩
  no := fun z => R.no (by simpa using (List.mem_filter.mp z).2)
  cl := fun p hp h1 => by
    have h1 : p.1 ∈ W := by simpa using (List.mem_filter.mp h1).2
    by_cases e : p.2 = o
    · exact .inl e
    · have h2 := R.cl p.1 h1 p.2 hp e
      refine .inr (List.mem_filter.mpr ⟨?_, by simpa using h2⟩)
      rcases List.mem_cons.mp (hL.ends p hp).2.1 with q | q
      · rw [q] at h2
        exact absurd (R.sd _ h2 .gate) nc
      · exact q
def LlotOk (t : List D → M D) : Prop := ∀ L, LoreOk L → ∀ h ∈ L.hs, ∀ o ∈ L.hs, ∀ B, GoodLot L h o B → t [loreD L, .str h, .str o, .tup (sts B)] = pure (.bl true)
theorem l_is_lot_ok : LlotOk (runD 7 LB_l_is_lot) := by
  intro L hL h hh o ho B G
  have ok : ∀ x ∈ B, OkS x := fun x hx => hL.ok x (by simp [G.mem x hx])
  have oh := hL.ok h (by simp [hh])
  have oo := hL.ok o (by simp [ho])
  refine runD_pure ?_
  unfold LB_l_is_lot
  refine seqS_go (ifS_f (b := false) ?_ rfl rfl) (seqS_go (ifS_f (b := false) ?_ rfl rfl) (retS_pure ?_))
  · refine (orB_pure (a := false) (b := false) (notB_pure (a := true) (tst_pure (isiF_pure (d := .tup (sts B)) rfl rfl))) fun _ => notB_pure (a := true) (tst_pure (callF_pure (ds := [.lst (B.map fun _ => .bl true)]) (consA_pure ?_ rfl) ?_))).trans rfl
    · refine lcF_ev0 (enc := D.str) (l := B) (out := fun _ => .bl true) (L := sts B) (seqF_pure (d := .tup (sts B)) rfl rfl) rfl fun x hx => ?_
      exact compAt_mk rfl rfl (fun _ => isiF_pure (d := .str x) rfl rfl) rfl rfl
    · exact (all_map B fun _ => true).trans (by simp)
  · refine (orB_pure (a := !decide (B = B)) (b := false) (tst_pure (bin_pure (d := .lst (sts B)) (e := .lst (sts B)) (callF_pure (ds := [.tup (sts B)]) (consA_pure rfl rfl) rfl) ?_ (ne_strs2 ok ok))) fun _ => (orB_pure (a := !decide (h ∈ B)) (b := decide (o ∈ B)) (tst_pure (bin_pure (d := .str h) (e := .tup (sts B)) rfl rfl (notIn_strsT oh ok))) fun _ => tst_pure (bin_pure (d := .str o) (e := .tup (sts B)) rfl rfl (in_strsT oo ok))).trans ?_).trans ?_
    · refine (lcF_evS (enc := D.str) (l := L.hs) (out := fun x => x) (p := fun x => decide (x ∈ B)) (L := sts L.hs) (seqF_pure (d := .lst (sts L.hs)) (bin_pure (d := loreD L) rfl rfl (get_houses L)) rfl) rfl fun x hx => ?_).trans (by rw [List.map_id', G.sub])
      exact compAt_mk (b := decide (x ∈ B)) rfl (tst_pure (bin_pure (d := .str x) (e := .tup (sts B)) (slot_at rfl) rfl (in_strsT (hL.ok x (by simp [hx])) ok))) (fun _ => slot_at rfl) rfl rfl
    · simp [G.hd, G.no]
    · simp
  · refine callF_pure (ds := [.lst ((L.ls.filter fun p => decide (p.1 ∈ B)).map fun _ => .bl true)]) (consA_pure ?_ rfl) ((all_map (L.ls.filter fun p => decide (p.1 ∈ B)) fun _ => true).trans (by simp))
    refine lcF_ev (enc := laneD) (l := L.ls) (out := fun _ => .bl true) (p := fun p => decide (p.1 ∈ B)) (L := lanes L.ls) (seqF_pure (d := .lst (lanes L.ls)) (bin_pure (d := loreD L) rfl rfl (get_lanes L)) rfl) rfl fun p hp => ?_
    obtain ⟨o1, o2⟩ := hL.okL p hp
    refine compAt_mk (b := decide (p.1 ∈ B)) (o' := .bl true) rfl (tst_pure (bin_pure (d := .str p.1) (e := .tup (sts B)) (slot_at rfl) rfl (in_strsT o1 ok))) (fun hb => ?_) rfl rfl
    refine (orV_pure (a := decide (p.2 = o)) (b := decide (p.2 ∈ B)) (bin_pure (d := .str p.2) (e := .str o) (slot_at rfl) rfl (eq_str o2 oo)) fun _ => bin_pure (d := .str p.2) (e := .tup (sts B)) (slot_at rfl) rfl (in_strsT o2 ok)).trans ?_
    rcases G.cl p hp (by simpa using hb) with q | q <;> simp [q]
def IsSeqOk (t : List D → M D) : Prop := ∀ L, LoreOk L → ∀ h o B, GoodLot L h o B → t [.tup (sts B), .tup (sts L.hs)] = pure (.bl true)
theorem is_seq_ok : IsSeqOk (runD 3 LB_is_in_sequence) := by
  intro L hL h o B G
  have ok : ∀ x ∈ B, OkS x := fun x hx => hL.ok x (by simp [G.mem x hx])
  have okh : ∀ x ∈ L.hs, OkS x := fun x hx => hL.ok x (by simp [hx])
  refine runD_pure ?_
  unfold LB_is_in_sequence
  refine retS_pure ((andV_pure (a := true) (b := decide (B = B)) (callF_pure (ds := [.lst (B.map fun _ => .bl true)]) (consA_pure ?_ rfl) ((all_map B fun _ => true).trans (by simp))) fun _ => bin_pure (d := .lst (sts B)) (e := .lst (sts B)) (callF_pure (ds := [.tup (sts B)]) (consA_pure rfl rfl) rfl) ?_ (eq_strsL ok ok)).trans (by simp))
  · refine lcF_ev0 (enc := D.str) (l := B) (out := fun _ => .bl true) (L := sts B) (seqF_pure (d := .tup (sts B)) rfl rfl) rfl fun x hx => ?_
    refine compAt_mk rfl rfl (fun _ => bin_pure (d := .str x) (e := .tup (sts L.hs)) (slot_at rfl) rfl ((in_strsT (ok x hx) okh).trans ?_)) rfl rfl
    rw [decide_eq_true (G.mem x hx)]
  · refine (lcF_evS (enc := D.str) (l := L.hs) (out := fun x => x) (p := fun x => decide (x ∈ B)) (L := sts L.hs) (seqF_pure (d := .tup (sts L.hs)) rfl rfl) rfl fun x hx => ?_).trans (by rw [List.map_id', G.sub])
    exact compAt_mk (b := decide (x ∈ B)) rfl (tst_pure (bin_pure (d := .str x) (e := .tup (sts B)) (slot_at rfl) rfl (in_strsT (okh x hx) ok))) (fun _ => slot_at rfl) rfl rfl
def TwoOk (t : List D → M D) : Prop := ∀ L, LoreOk L → ∀ h ∈ homeOf L, ∀ o ∈ L.hs, o ≠ h → t [webD L, .str h, .str o] = pure .non
def OneTOk (t : List D → M D) : Prop := ∀ (a : Str) (l : List Str), OkS a → (∀ x ∈ l, OkS x) → t [.str a, .tup (sts l)] = pure (.bl (decide (a ∈ l)))
theorem check_two_ok {tk th t1 : List D → M D} (hk : CheckOk tk) (hh : ∀ L, th [webD L] = pure (.tup (sts L.hs))) (h1 : OneTOk t1) : TwoOk (runD 3 (LB_check_two tk th t1)) := by
  intro L hL h hm o ho no
  have okh : ∀ x ∈ L.hs, OkS x := fun x hx => hL.ok x (by simp [hx])
  refine runD_pureN (ρ := [some (webD L), some (.str h), some (.str o)]) ?_
  unfold LB_check_two
  refine seqS_go (dropS_pure (methF_pure (l := webF L) (ds := [.str h]) (slot_at rfl) (consA_pure (slot_at rfl) rfl) rfl (hk L hL h hm))) (ifS_f (b := false) ?_ rfl rfl)
  refine (orB_pure (a := !decide (o ∈ L.hs)) (b := decide (o = h)) (notB_pure (tst_pure (fnF_pure0 (ds := [.str o, .tup (sts L.hs)]) (consA_pure (slot_at rfl) (consA_pure (propF_pure (l := webF L) (slot_at rfl) (hh L)) rfl)) rfl (h1 o L.hs (okh o ho) okh)))) fun _ => tst_pure (bin_pure (slot_at rfl) (slot_at rfl) (eq_str (okh o ho) (okh h (home_sub hm))))).trans ?_
  simp [ho, no]
abbrev aroundD (w : List Str) : D := .tup [.str "around", .tup (sts w)]
abbrev mustD (B : List Str) : D := .tup [.str "must", .tup (sts B)]
def AroundOk (t : List D → M D) : Prop := ∀ L, LoreOk L → ∀ h ∈ homeOf L, ∀ o ∈ L.hs, o ≠ h → (Comes L.ls L.g [o] h → ∃ w, t [webD L, .str h, .str o] = pure (aroundD w) ∧ GoodWay L h o w) ∧ (¬ Comes L.ls L.g [o] h → ∃ B, t [webD L, .str h, .str o] = pure (mustD B) ∧ GoodLot L h o B)
theorem around_ok {th tw t2 tr : List D → M D} (hh : ∀ L, th [webD L] = pure (.tup (sts L.hs))) (hw : WayWOk tw) (h2 : TwoOk t2) (hr : ReachedOk tr) : AroundOk (runD 6 (LB_around th tw t2 tr)) := by
  intro L hL h hm o ho no
  have okp : ∀ x ∈ L.g :: L.hs, OkS x := hL.ok
  have oo := okp o (by simp [ho])
  have og : o ≠ L.g := hL.gate_ne o ho
  obtain ⟨w1, w2⟩ := hw L hL h (home_sub hm) o oo no og
  have e2 : dropS (fnF 3 t2 [] (consA (slot 0) (consA (slot 1) (consA (slot 2) nilA)))) (rho0 6 [webD L, .str h, .str o]) = pure (.nx (rho0 6 [webD L, .str h, .str o])) := dropS_pure (fnF_pure0 (ds := [webD L, .str h, .str o]) rfl rfl (h2 L hL h hm o ho no))
  have a3 : ∀ d : D, tw [webD L, .str h, .tup [.str o]] = pure d → setS 3 (methF 0 3 tw [] (slot 0) (consA (slot 1) (consA (tupF (consA (slot 2) nilA)) nilA))) (rho0 6 [webD L, .str h, .str o]) = pure (.nx [some (webD L), some (.str h), some (.str o), some d, none, none]) := fun d e => setS_pure (methF_pure (l := webF L) (ds := [.str h, .tup [.str o]]) rfl (consA_pure rfl (consA_pure (tupF_S (l := [o]) (consA_S rfl nilA_S) (by simp)) rfl)) rfl e)
  constructor
  · intro c
    obtain ⟨w, e, G⟩ := w2 c
    refine ⟨w, runD_pure ?_, G⟩
    unfold LB_around
    refine seqS_go e2 (seqS_go (a3 _ e) (seqS_rt' (ifS_t (b := true) (tst_pure (bin_pure (d := .tup (sts w)) (e := .non) rfl rfl rfl)) rfl (retS_pure (tupF_pure (l := [.str "around", .tup (sts w)]) (consA_pure rfl (consA_pure rfl rfl)) (by simp))))))
  · intro nc
    obtain ⟨W, e, R⟩ := hr L hL h (home_sub hm) o oo no
    have okW : ∀ x ∈ W, OkS x := fun x hx => okp x (R.sub x hx)
    refine ⟨_, runD_pure ?_, R.lot hL (home_sub hm) nc⟩
    unfold LB_around
    refine seqS_go e2 (seqS_go (a3 _ (w1 nc)) (seqS_go (ifS_f (b := false) (tst_pure (bin_pure (d := .non) (e := .non) rfl rfl rfl)) rfl rfl) (seqS_go (setS_pure (d := .lst (sts W)) (fnF_pure0 (ds := [webD L, .str h, .str o]) rfl rfl e)) (retS_pure (tupF_pure (l := [.str "must", .tup (sts (L.hs.filter fun x => decide (x ∈ W)))]) (consA_pure rfl (consA_pure (callF_pure (ds := [.lst (sts (L.hs.filter fun x => decide (x ∈ W)))]) (consA_pure ?_ rfl) rfl) rfl)) (by simp))))))
    refine (lcF_evS (enc := D.str) (l := L.hs) (out := fun x => x) (p := fun x => decide (x ∈ W)) (L := sts L.hs) (seqF_pure (d := .tup (sts L.hs)) (propF_pure (l := webF L) rfl (hh L)) rfl) rfl fun x hx => ?_).trans (by rw [List.map_id'])
    exact compAt_mk (b := decide (x ∈ W)) rfl (tst_pure (bin_pure (d := .str x) (e := .lst (sts W)) (slot_at rfl) rfl (in_strsL (okp x (by simp [hx])) okW))) (fun _ => slot_at rfl) rfl rfl
end VL
namespace VL
open PySem PySem.Spec PyProof.Rows L2
noncomputable def LB_R10 (t_Web_init : List D → M (List D)) (t_around : List D → M D) (t_l_comers : List D → M D) (t_l_home : List D → M D) (t_l_is_due : List D → M D) (t_l_lore : List D → M D) (t_l_text : List D → M D) (t_musts : List D → M D) (t_shows_around : List D → M D) : Rho → M Fl := (seqS (setS 1 (fnF 3 t_l_lore [] (consA (slot 0) (consA (fun _ => pure (.int 1)) (consA (fun _ => pure (.int 10)) nilA))))) (seqS (setS 2 (makeF 0 1 t_Web_init [] (consA (fnF 1 t_l_text [] (consA (slot 1) nilA)) nilA))) (seqS (setS 3 (fnF 1 t_l_home [] (consA (slot 1) nilA))) (seqS (setS 4 (callF dictD (consA (lcF [7] (seqF (bin getD' (slot 1) (fun _ => pure (.str "houses")))) (tgN 7) (fun _ => pure true) (tupF (consA (slot 7) (consA (fnF 2 t_l_comers [] (consA (slot 1) (consA (lstF (consA (slot 7) nilA)) nilA))) nilA)))) nilA))) (seqS (forS (seqF (slot 3)) (tgN 5) (seqS (setS 6 (fnF 2 t_musts [] (consA (slot 2) (consA (slot 5) nilA)))) (forS (seqF (lcF [9] (seqF (bin getD' (slot 1) (fun _ => pure (.str "houses")))) (tgN 9) (tst (bin neD (slot 9) (slot 5))) (slot 9))) (tgN 7) (seqS (setS 8 (fnF 3 t_around [] (consA (slot 2) (consA (slot 5) (consA (slot 7) nilA))))) (seqS (ifS (orB (notB (tst (fnF 4 t_l_is_due [] (consA (slot 1) (consA (slot 5) (consA (slot 7) (consA (slot 8) nilA))))))) (tst (bin notBlD (fnF 4 t_shows_around [] (consA (slot 2) (consA (slot 5) (consA (slot 7) (consA (slot 8) nilA))))) (fun _ => pure (.bl true))))) (retS (fun _ => pure (.bl false))) skip) (ifS (orB (tst (bin neD (bin eqD (bin idxD (slot 8) (fun _ => pure (.int 0))) (fun _ => pure (.str "around"))) (bin inD (slot 5) (bin getD' (slot 4) (slot 7))))) (tst (bin neD (bin eqD (bin idxD (slot 8) (fun _ => pure (.int 0))) (fun _ => pure (.str "must"))) (bin inD (slot 7) (slot 6))))) (retS (fun _ => pure (.bl false))) skip)))))) (retS (fun _ => pure (.bl true))))))))
end VL
namespace VL
open PySem PySem.Spec PyProof.Rows L2 TL
structure DueOk (t : List D → M D) : Prop where
  a : ∀ L, LoreOk L → ∀ h ∈ L.hs, ∀ o ∈ L.hs, ∀ w, GoodWay L h o w → t [loreD L, .str h, .str o, aroundD w] = pure (.bl true)
  m : ∀ L, LoreOk L → ∀ h ∈ L.hs, ∀ o ∈ L.hs, ∀ B, GoodLot L h o B → t [loreD L, .str h, .str o, mustD B] = pure (.bl true)
theorem ok_around : OkS ("around" : Str) := by unfold OkS; decide +kernel
theorem ok_must : OkS ("must" : Str) := by unfold OkS; decide +kernel
theorem am_ne : (("around" : Str) = "must") = False ∧ (("must" : Str) = "around") = False := by
  refine ⟨?_, ?_⟩ <;> exact eq_false (by decide +kernel)
theorem idx_am (k : Str) (l : List Str) : idxD (.tup [.str k, .tup (sts l)]) (.int 0) = some (.str k) ∧ idxD (.tup [.str k, .tup (sts l)]) (.int 1) = some (.tup (sts l)) := ⟨rfl, rfl⟩
theorem due10_ok {tl tw : List D → M D} (hl : LlotOk tl) (hw : LwayOk tw) : DueOk (runD 4 (LB_L_due10 tl tw)) := by
  have first : ∀ (L : Lore) (h o k : Str) (l : List Str), ifS (orB (notB (tst (isiF (isTy [] "tuple") (slot 3)))) (orB (tst (bin neD (callF lenD (consA (slot 3) nilA)) (fun _ => pure (.int 2)))) (notB (tst (isiF (isTy [] "str") (bin idxD (slot 3) (fun _ => pure (.int 0)))))))) (retS (fun _ => pure (.bl false))) skip (rho0 4 [loreD L, .str h, .str o, .tup [.str k, .tup (sts l)]]) = pure (.nx (rho0 4 [loreD L, .str h, .str o, .tup [.str k, .tup (sts l)]])) := fun L h o k l =>
    ifS_f (b := false) ((orB_pure (a := false) (b := false) (notB_pure (a := true) (tst_pure (isiF_pure (d := .tup [.str k, .tup (sts l)]) rfl rfl))) fun _ => (orB_pure (a := !decide ((2 : Int) = 2)) (b := false) (tst_pure (bin_pure (d := .int 2) (e := .int 2) (callF_pure (ds := [.tup [.str k, .tup (sts l)]]) (consA_pure rfl rfl) rfl) rfl (ne_int 2 2))) fun _ => notB_pure (a := true) (tst_pure (isiF_pure (d := .str k) (bin_pure (d := .tup [.str k, .tup (sts l)]) (e := .int 0) rfl rfl (idx_am k l).1) rfl))).trans rfl).trans rfl) rfl rfl
  constructor
  · intro L hL h hh o ho w G
    have ok : ∀ x ∈ w, OkS x := fun x hx => hL.ok x (G.sub hL hh x hx)
    have oo := hL.ok o (by simp [ho])
    refine runD_pure ?_
    unfold LB_L_due10
    refine seqS_go (first L h o "around" w) (seqS_rt' (ifS_t (b := decide (("around" : Str) = "around")) (tst_pure (bin_pure (d := .str "around") (e := .str "around") (bin_pure (d := aroundD w) (e := .int 0) rfl rfl (idx_am _ w).1) rfl (eq_str ok_around ok_around))) (by simp) (retS_pure ?_)))
    refine (andV_pure (a := true) (b := !decide (o ∈ w)) (fnF_pure0 (ds := [loreD L, .str h, .tup (sts w)]) (consA_pure rfl (consA_pure rfl (consA_pure (bin_pure (d := aroundD w) (e := .int 1) rfl rfl (idx_am _ w).2) rfl))) rfl (hw L hL h hh o w G)) fun _ => bin_pure (d := .str o) (e := .tup (sts w)) rfl (bin_pure (d := aroundD w) (e := .int 1) rfl rfl (idx_am _ w).2) (notIn_strsT oo ok)).trans ?_
    simp [G.no]
  · intro L hL h hh o ho B G
    refine runD_pure ?_
    unfold LB_L_due10
    refine seqS_go (first L h o "must" B) (seqS_go (ifS_f (b := decide (("must" : Str) = "around")) (tst_pure (bin_pure (d := .str "must") (e := .str "around") (bin_pure (d := mustD B) (e := .int 0) rfl rfl (idx_am _ B).1) rfl (eq_str ok_must ok_around))) (by simp [am_ne]) rfl) (retS_pure ?_))
    refine (andV_pure (a := decide (("must" : Str) = "must")) (b := true) (bin_pure (d := .str "must") (e := .str "must") (bin_pure (d := mustD B) (e := .int 0) rfl rfl (idx_am _ B).1) rfl (eq_str ok_must ok_must)) fun _ => fnF_pure0 (ds := [loreD L, .str h, .str o, .tup (sts B)]) (consA_pure rfl (consA_pure rfl (consA_pure rfl (consA_pure (bin_pure (d := mustD B) (e := .int 1) rfl rfl (idx_am _ B).2) rfl)))) rfl (hl L hL h hh o ho B G)).trans ?_
    simp
structure ShowsAroundOk (t : List D → M D) : Prop where
  a : ∀ L, LoreOk L → ∀ h ∈ homeOf L, ∀ o ∈ L.hs, o ≠ h → ∀ w, GoodWay L h o w → t [webD L, .str h, .str o, aroundD w] = pure (.bl true)
  m : ∀ L, LoreOk L → ∀ h ∈ homeOf L, ∀ o ∈ L.hs, o ≠ h → ∀ B, GoodLot L h o B → t [webD L, .str h, .str o, mustD B] = pure (.bl true)
theorem shows_around_ok {th tw tl ts t2 tq t1 tt : List D → M D} (hh : ∀ L, th [webD L] = pure (.tup (sts L.hs))) (hw : WwayOk tw) (hl : ∀ L, tl [webD L] = pure (.tup (lanes L.ls))) (hs : ∀ c : List Str, ts [.tup (sts c)] = pure (.bl true)) (h2 : TwoOk t2) (hq : IsSeqOk tq) (h1 : OneTOk t1)
    (ht : ∀ (l : List D) (a b : Nat), l.length ≤ 100 → tt [.tup l, .int (a : Nat), .int (b : Nat)] = pure (.bl (decide (a ≤ l.length) && decide (l.length ≤ b)))) : ShowsAroundOk (runD 8 (LB_shows_around th tw tl ts t2 tq t1 tt)) := by
  have first : ∀ (L : Lore) (h o k : Str) (l : List Str), OkS k → k ∈ [("around" : Str), "must"] → ifS (orB (notB (tst (fnF 3 tt [] (consA (slot 3) (consA (fun _ => pure (.int 2)) (consA (fun _ => pure (.int 2)) nilA)))))) (notB (tst (fnF 2 t1 [] (consA (bin idxD (slot 3) (fun _ => pure (.int 0))) (consA (tupF (consA (fun _ => pure (.str "around")) (consA (fun _ => pure (.str "must")) nilA))) nilA)))))) (retS (fun _ => pure (.bl false))) skip (rho0 8 [webD L, .str h, .str o, .tup [.str k, .tup (sts l)]]) = pure (.nx (rho0 8 [webD L, .str h, .str o, .tup [.str k, .tup (sts l)]])) := fun L h o k l ok kin =>
    ifS_f (b := false) ((orB_pure (a := false) (b := !decide (k ∈ [("around" : Str), "must"])) (notB_pure (a := true) (tst_pure (fnF_pure0 (ds := [.tup [.str k, .tup (sts l)], .int 2, .int 2]) rfl rfl (ht [.str k, .tup (sts l)] 2 2 (by simp))))) fun _ => notB_pure (tst_pure (fnF_pure0 (ds := [.str k, .tup (sts ["around", "must"])]) (consA_pure (bin_pure (d := .tup [.str k, .tup (sts l)]) (e := .int 0) rfl rfl (idx_am k l).1) (consA_pure (tupF_S (l := ["around", "must"]) (consA_S rfl (consA_S rfl nilA_S)) (by simp)) rfl)) rfl (h1 k ["around", "must"] ok (by intro x hx; simp at hx; rcases hx with rfl | rfl; exact ok_around; exact ok_must))))).trans (by simp [kin])) rfl rfl
  have two : ∀ (L : Lore) (h o k : Str) (l : List Str), t2 [webD L, .str h, .str o] = pure .non → dropS (fnF 3 t2 [] (consA (slot 0) (consA (slot 1) (consA (slot 2) nilA)))) (rho0 8 [webD L, .str h, .str o, .tup [.str k, .tup (sts l)]]) = pure (.nx (rho0 8 [webD L, .str h, .str o, .tup [.str k, .tup (sts l)]])) := fun L h o k l e => dropS_pure (fnF_pure0 (ds := [webD L, .str h, .str o]) rfl rfl e)
  have unp : ∀ (L : Lore) (h o k : Str) (l : List Str), tgtS (tgT 2 (tgCons (tgN 4) (tgCons (tgN 5) tgNil))) (slot 3) (rho0 8 [webD L, .str h, .str o, .tup [.str k, .tup (sts l)]]) = pure (.nx [some (webD L), some (.str h), some (.str o), some (.tup [.str k, .tup (sts l)]), some (.str k), some (.tup (sts l)), none, none]) := fun L h o k l => tgtS_pure (d := .tup [.str k, .tup (sts l)]) rfl rfl
  constructor
  · intro L hL h hm o ho no w G
    have ok : ∀ x ∈ w, OkS x := fun x hx => hL.ok x (G.sub hL (home_sub hm) x hx)
    have oo := hL.ok o (by simp [ho])
    refine runD_pure ?_
    unfold LB_shows_around
    refine seqS_go (two L h o "around" w (h2 L hL h hm o ho no)) (seqS_go (first L h o "around" w ok_around (by simp)) (seqS_go (unp L h o "around" w) (seqS_rt' (ifS_t (b := decide (("around" : Str) = "around")) (tst_pure (bin_pure (d := .str "around") (e := .str "around") rfl rfl (eq_str ok_around ok_around))) (by simp) (retS_pure ?_)))))
    refine (andV_pure (a := true) (b := !decide (o ∈ w)) (methF_pure (l := webF L) (ds := [.str h, .tup (sts w)]) rfl rfl rfl (hw L hL h (home_sub hm) o w G)) fun _ => bin_pure (d := .str o) (e := .tup (sts w)) rfl rfl (notIn_strsT oo ok)).trans ?_
    simp [G.no]
  · intro L hL h hm o ho no B G
    have ok : ∀ x ∈ B, OkS x := fun x hx => hL.ok x (by simp [G.mem x hx])
    have oh := hL.ok h (by simp [home_sub hm])
    have oo := hL.ok o (by simp [ho])
    refine runD_pure ?_
    unfold LB_shows_around
    refine seqS_go (two L h o "must" B (h2 L hL h hm o ho no)) (seqS_go (first L h o "must" B ok_must (by simp)) (seqS_go (unp L h o "must" B) (seqS_go (ifS_f (b := decide (("must" : Str) = "around")) (tst_pure (bin_pure (d := .str "must") (e := .str "around") rfl rfl (eq_str ok_must ok_around))) (by simp [am_ne]) rfl) (seqS_go (ifS_f (b := false) ?_ rfl rfl) (retS_pure ?_)))))
    · refine (orB_pure (a := false) (b := false) (notB_pure (a := true) (tst_pure (fnF_pure0 (ds := [.tup (sts B)]) rfl rfl (hs B)))) fun _ => (orB_pure (a := false) (b := false) (notB_pure (a := true) (tst_pure (fnF_pure0 (ds := [.tup (sts B), .tup (sts L.hs)]) (consA_pure rfl (consA_pure (propF_pure (l := webF L) rfl (hh L)) rfl)) rfl (hq L hL h o B G)))) fun _ => (orB_pure (a := !decide (h ∈ B)) (b := decide (o ∈ B)) (tst_pure (bin_pure (d := .str h) (e := .tup (sts B)) rfl rfl (notIn_strsT oh ok))) fun _ => tst_pure (bin_pure (d := .str o) (e := .tup (sts B)) rfl rfl (in_strsT oo ok))).trans ?_).trans rfl).trans rfl
      simp [G.hd, G.no]
    · refine callF_pure (ds := [.lst ((L.ls.filter fun p => decide (p.1 ∈ B)).map fun _ => .bl true)]) (consA_pure ?_ rfl) ((all_map (L.ls.filter fun p => decide (p.1 ∈ B)) fun _ => true).trans (by simp))
      refine lcF_ev (enc := laneD) (l := L.ls) (out := fun _ => .bl true) (p := fun p => decide (p.1 ∈ B)) (L := lanes L.ls) (seqF_pure (d := .tup (lanes L.ls)) (propF_pure (l := webF L) rfl (hl L)) rfl) rfl fun p hp => ?_
      obtain ⟨o1, o2⟩ := hL.okL p hp
      refine compAt_mk (b := decide (p.1 ∈ B)) (o' := .bl true) rfl (tst_pure (bin_pure (d := .str p.1) (e := .tup (sts B)) (slot_at rfl) rfl (in_strsT o1 ok))) (fun hb => ?_) rfl rfl
      refine (orV_pure (a := decide (p.2 = o)) (b := decide (p.2 ∈ B)) (bin_pure (d := .str p.2) (e := .str o) (slot_at rfl) rfl (eq_str o2 oo)) fun _ => bin_pure (d := .str p.2) (e := .tup (sts B)) (slot_at rfl) rfl (in_strsT o2 ok)).trans ?_
      rcases G.cl p hp (by simpa using hb) with q | q <;> simp [q]
theorem must_home {L : Lore} {h o : Str} (ho : o ∈ L.hs) (hh : h ∈ homeOf L) (no : o ≠ h) (hL : LoreOk L) : o ∈ rowO L h ↔ ¬ Comes L.ls L.g [o] h := by
  rw [(towerO hL).mem_row _ rfl hh o]
  refine ⟨fun z => (mem_bdL.mp z).2.2, fun nc => mem_bdL.mpr ⟨⟨ho, ?_⟩, Ne.symm no, nc⟩⟩
  refine Classical.byContradiction fun no2 => nc ?_
  have key : ∀ x, Comes L.ls L.g [] x → Comes L.ls L.g [o] x := by
    intro x c
    induction c with
    | gate => exact .gate
    | step h1 h2 h3 ih =>
      refine .step h1 ih ?_
      simp only [List.mem_singleton]
      intro e
      subst e
      exact no2 (.step h1 h2 h3)
  exact key h (mem_homeL.mp hh).2
theorem k10_right {t_Web_init : List D → M (List D)} {t_around t_l_comers t_l_home t_l_is_due t_l_lore t_l_text t_musts t_shows_around : List D → M D} (hLo : LoreDrOk t_l_lore) (hX : TextOk t_l_text) (hI : WebOk t_Web_init) (hHo : LhomeOk t_l_home) (hC : LcomersOk t_l_comers) (hA : AroundOk t_around) (hD : DueOk t_l_is_due) (hS : ShowsAroundOk t_shows_around)
    (hM : ∀ L, LoreOk L → ∀ h ∈ homeOf L, t_musts [webD L, .str h] = pure (.tup (sts (rowO L h)))) : RightOk 400 (runD 10 (LB_R10 t_Web_init t_around t_l_comers t_l_home t_l_is_due t_l_lore t_l_text t_musts t_shows_around)) := by
  refine tk_run ?_
  unfold LB_R10
  refine Tk.mono (k := 201 + 0) ?_ (by omega) fun _ h => h
  refine tk_set (P := fun d => ∃ L, d = loreD L ∧ LoreOk L) ?_ ?_
  · exact tk_fn (ds := [.pot, .int 1, .int 10]) rfl rfl ((hLo 1 10 (by omega) (by omega)).imp fun d ⟨L, h1, h2, _⟩ => ⟨L, h1, h2⟩)
  rintro _ ⟨L, rfl, hL⟩
  have okh : ∀ x ∈ L.hs, OkS x := fun x hx => hL.ok x (by simp [hx])
  have le := hL.le
  have few := hL.few
  refine tk_go (setS_pure (d := webD L) (makeF_pure (consA_pure (fnF_pure0 (ds := [loreD L]) rfl rfl (hX L hL)) rfl) rfl (hI L hL))) ?_
  refine tk_go (setS_pure (d := .lst (sts (homeOf L))) (fnF_pure0 (ds := [loreD L]) rfl rfl (hHo L hL))) ?_
  refine tk_go (setS_pure (d := dctS L.hs fun o => .lst (sts (L.hs.filter fun x => comB L.ls L.g [o] x))) (callF_pure (ds := [.lst (L.hs.map fun o => .tup [.str o, .lst (sts (L.hs.filter fun x => comB L.ls L.g [o] x))])]) (consA_pure ?_ rfl) (dictD_dS hL.hnd))) ?_
  · refine lcF_ev0 (enc := D.str) (l := L.hs) (out := fun o => .tup [.str o, .lst (sts (L.hs.filter fun x => comB L.ls L.g [o] x))]) (L := sts L.hs) (seqF_pure (d := .lst (sts L.hs)) (bin_pure (d := loreD L) rfl rfl (get_houses L)) rfl) rfl fun o ho => ?_
    refine compAt_mk rfl rfl (fun _ => tupF_pure (l := [.str o, .lst (sts (L.hs.filter fun x => comB L.ls L.g [o] x))]) (consA_pure (slot_at rfl) (consA_pure (fnF_pure0 (ds := [loreD L, .lst (sts [o])]) (consA_pure rfl (consA_pure (lstF_S (l := [o]) (consA_S (slot_at rfl) nilA_S) (by simp)) rfl)) rfl (hC L [o] hL.ok hL.okL (by intro x hx; simp at hx; rw [hx]; exact okh o ho) (by omega) (by simp) (by omega))) rfl)) (by simp)) rfl rfl
  refine tk_nx (nx_for D.str (fun _ ρ => ∃ s5 s6 s7 s8, ρ = [some .pot, some (loreD L), some (webD L), some (.lst (sts (homeOf L))), some (dctS L.hs fun o => .lst (sts (L.hs.filter fun x => comB L.ls L.g [o] x))), s5, s6, s7, s8, none]) (homeOf L) (seqF_pure (d := .lst (sts (homeOf L))) rfl rfl) ⟨none, none, none, none, rfl⟩ ?_) ?_
  · rintro done h rest ρ eh ⟨s5, s6, s7, s8, rfl⟩
    have hh : h ∈ homeOf L := by rw [eh]; simp
    have hs := home_sub hh
    have oh := okh h hs
    refine ⟨_, rfl, nx_go (setS_pure (d := .tup (sts (rowO L h))) (fnF_pure0 (ds := [webD L, .str h]) rfl rfl (hM L hL h hh))) ?_⟩
    refine (nx_for D.str (fun _ ρ => ∃ s7 s8, ρ = [some .pot, some (loreD L), some (webD L), some (.lst (sts (homeOf L))), some (dctS L.hs fun o => .lst (sts (L.hs.filter fun x => comB L.ls L.g [o] x))), some (.str h), some (.tup (sts (rowO L h))), s7, s8, none]) (L.hs.filter fun x => !decide (x = h)) (seqF_pure (d := .lst (sts (L.hs.filter fun x => !decide (x = h)))) ?_ rfl) ⟨_, _, rfl⟩ ?_).imp ?_
    · refine (lcF_evS (enc := D.str) (l := L.hs) (out := fun x => x) (p := fun x => !decide (x = h)) (L := sts L.hs) (seqF_pure (d := .lst (sts L.hs)) (bin_pure (d := loreD L) rfl rfl (get_houses L)) rfl) rfl fun x hx => ?_).trans (by rw [List.map_id'])
      exact compAt_mk (b := !decide (x = h)) rfl (tst_pure (bin_pure (d := .str x) (e := .str h) (slot_at rfl) rfl (ne_str (okh x hx) oh))) (fun _ => slot_at rfl) rfl rfl
    · rintro done2 o rest2 ρ e2 ⟨s7, s8, rfl⟩
      have hof : o ∈ L.hs.filter fun x => !decide (x = h) := by rw [e2]; simp
      simp only [List.mem_filter, Bool.not_eq_true', decide_eq_false_iff_not] at hof
      obtain ⟨ho, no⟩ := hof
      have oo := okh o ho
      have okl : ∀ x ∈ L.hs.filter (fun x => comB L.ls L.g [o] x), OkS x := fun x hx => okh x (List.mem_filter.mp hx).1
      have okr : ∀ x ∈ rowO L h, OkS x := fun x hx => home_ok hL x (row_sub hL hh x hx)
      have mh := must_home ho hh no hL
      have inl : h ∈ L.hs.filter (fun x => comB L.ls L.g [o] x) ↔ Comes L.ls L.g [o] h := by
        rw [List.mem_filter, comB_eq]; exact ⟨fun z => z.2, fun z => ⟨hs, z⟩⟩
      obtain ⟨A1, A2⟩ := hA L hL h hh o ho no
      obtain ⟨k, l, ok, e1, e2, e3, k1, k2⟩ : ∃ (k : Str) (l : List Str), OkS k ∧ t_around [webD L, .str h, .str o] = pure (.tup [.str k, .tup (sts l)]) ∧ t_l_is_due [loreD L, .str h, .str o, .tup [.str k, .tup (sts l)]] = pure (.bl true) ∧ t_shows_around [webD L, .str h, .str o, .tup [.str k, .tup (sts l)]] = pure (.bl true) ∧ (k = "around" ↔ Comes L.ls L.g [o] h) ∧ (k = "must" ↔ ¬ Comes L.ls L.g [o] h) := by
        by_cases c : Comes L.ls L.g [o] h
        · obtain ⟨w, e, G⟩ := A1 c
          exact ⟨"around", w, ok_around, e, hD.a L hL h hs o ho w G, hS.a L hL h hh o ho no w G, by simp [c], by simp [c, am_ne]⟩
        · obtain ⟨B, e, G⟩ := A2 c
          exact ⟨"must", B, ok_must, e, hD.m L hL h hs o ho B G, hS.m L hL h hh o ho no B G, by simp [c, am_ne], by simp [c]⟩
      refine ⟨_, rfl, nx_go (setS_pure (d := .tup [.str k, .tup (sts l)]) (fnF_pure0 (ds := [webD L, .str h, .str o]) rfl rfl e1)) (nx_go (ifS_f (b := false) ?_ rfl rfl) (nx_ifF ?_ (nx_skip ⟨_, _, rfl⟩)))⟩
      · exact (orB_pure (a := false) (b := !decide (true = true)) (notB_pure (a := true) (tst_pure (fnF_pure0 (ds := [loreD L, .str h, .str o, .tup [.str k, .tup (sts l)]]) rfl rfl e2))) fun _ => tst_pure (bin_pure (d := .bl true) (e := .bl true) (fnF_pure0 (ds := [webD L, .str h, .str o, .tup [.str k, .tup (sts l)]]) rfl rfl e3) rfl rfl)).trans (by simp)
      · refine (orB_pure (a := !decide (decide (k = "around") = decide (h ∈ L.hs.filter (fun x => comB L.ls L.g [o] x)))) (b := !decide (decide (k = "must") = decide (o ∈ rowO L h))) (tst_pure (bin_pure (bin_pure (d := .str k) (e := .str "around") (bin_pure (d := .tup [.str k, .tup (sts l)]) (e := .int 0) rfl rfl (idx_am k l).1) rfl (eq_str ok ok_around)) (bin_pure (d := .str h) (e := .lst (sts (L.hs.filter (fun x => comB L.ls L.g [o] x)))) rfl (bin_pure (d := dctS L.hs fun o => .lst (sts (L.hs.filter fun x => comB L.ls L.g [o] x))) (e := .str o) rfl rfl (getD'_dS ho)) (in_strsL oh okl)) (ne_bl _ _))) fun _ => tst_pure (bin_pure (bin_pure (d := .str k) (e := .str "must") (bin_pure (d := .tup [.str k, .tup (sts l)]) (e := .int 0) rfl rfl (idx_am k l).1) rfl (eq_str ok ok_must)) (bin_pure (d := .str o) (e := .tup (sts (rowO L h))) rfl rfl (in_strsT oo okr)) (ne_bl _ _))).trans ?_
        have q1 : decide (k = "around") = decide (h ∈ L.hs.filter (fun x => comB L.ls L.g [o] x)) := decide_eq_decide.mpr (k1.trans inl.symm)
        have q2 : decide (k = "must") = decide (o ∈ rowO L h) := decide_eq_decide.mpr (k2.trans mh.symm)
        rw [q1, q2]
        simp only [decide_true, Bool.not_true, Bool.or_false]
    · rintro ρ' ⟨s7, s8, rfl⟩
      exact ⟨_, _, _, _, rfl⟩
  · rintro ρ' ⟨s5, s6, s7, s8, rfl⟩
    exact tk_ret (tk_pure rfl rfl)
end VL
namespace VL
open PySem PySem.Spec PyProof.Rows L2
noncomputable def B_l_take : Rho → M Fl := (LB_l_take 99941 61 107)
noncomputable def F_l_take : List D → M D := runD 5 B_l_take
noncomputable def t_l_take : List D → M D := F_l_take
noncomputable def B_l_some : Rho → M Fl := (LB_l_some t_l_take)
noncomputable def F_l_some : List D → M D := runD 6 B_l_some
noncomputable def t_l_some : List D → M D := F_l_some
noncomputable def B_l_names : Rho → M Fl := (LB_l_names t_l_some)
noncomputable def F_l_names : List D → M D := runD 3 B_l_names
noncomputable def t_l_names : List D → M D := F_l_names
noncomputable def B_l_of : Rho → M Fl := (LB_l_of t_l_take)
noncomputable def F_l_of : List D → M D := runD 2 B_l_of
noncomputable def t_l_of : List D → M D := F_l_of
noncomputable def B_l_drawn : Rho → M Fl := (LB_l_drawn t_l_names t_l_of t_l_some t_l_take)
noncomputable def F_l_drawn : List D → M D := runD 14 B_l_drawn
noncomputable def t_l_drawn : List D → M D := F_l_drawn
noncomputable def B_l_lore : Rho → M Fl := (LB_l_lore t_l_drawn t_l_take)
noncomputable def F_l_lore : List D → M D := runD 3 B_l_lore
noncomputable def t_l_lore : List D → M D := F_l_lore
noncomputable def B_is_name : Rho → M Fl := (LB_is_name)
noncomputable def F_is_name : List D → M D := runD 2 B_is_name
noncomputable def t_is_name : List D → M D := F_is_name
noncomputable def B_name_in : Rho → M Fl := (LB_name_in t_is_name)
noncomputable def F_name_in : List D → M D := runD 3 B_name_in
noncomputable def t_name_in : List D → M D := F_name_in
noncomputable def B_lane_in : Rho → M Fl := (LB_lane_in)
noncomputable def F_lane_in : List D → M D := runD 6 B_lane_in
noncomputable def t_lane_in : List D → M D := F_lane_in
noncomputable def B_taken : Rho → M Fl := (LB_taken t_lane_in t_name_in)
noncomputable def F_taken : List D → M D := runD 9 B_taken
noncomputable def t_taken : List D → M D := F_taken
noncomputable def B_comers : Rho → M Fl := (LB_comers)
noncomputable def F_comers : List D → M D := runD 7 B_comers
noncomputable def t_comers : List D → M D := F_comers
noncomputable def B_Web_init : Rho → List (Option D) → M (Rho × List (Option D)) := (LB_Web_init t_comers t_taken)
noncomputable def F_Web_init (a : Nat) : List D → M (List D) := runIni 7 B_Web_init a
noncomputable def t_Web_init : List D → M (List D) := webInit t_comers t_taken
noncomputable def B_l_lines : Rho → M Fl := (LB_l_lines)
noncomputable def F_l_lines : List D → M D := runD 5 B_l_lines
noncomputable def t_l_lines : List D → M D := F_l_lines
noncomputable def B_l_text : Rho → M Fl := (LB_l_text t_l_lines)
noncomputable def F_l_text : List D → M D := runD 1 B_l_text
noncomputable def t_l_text : List D → M D := F_l_text
noncomputable def B_l_comers : Rho → M Fl := (LB_l_comers)
noncomputable def F_l_comers : List D → M D := runD 8 B_l_comers
noncomputable def t_l_comers : List D → M D := F_l_comers
noncomputable def B_l_home : Rho → M Fl := (LB_l_home t_l_comers)
noncomputable def F_l_home : List D → M D := runD 1 B_l_home
noncomputable def t_l_home : List D → M D := F_l_home
noncomputable def B_is_one_of : Rho → M Fl := (LB_is_one_of)
noncomputable def F_is_one_of : List D → M D := runD 2 B_is_one_of
noncomputable def t_is_one_of : List D → M D := F_is_one_of
noncomputable def B_Web_check_house : Rho → M Fl := (LB_Web_check_house t_is_one_of)
noncomputable def F_Web_check_house : List D → M D := runD 2 B_Web_check_house
noncomputable def t_Web_check_house : List D → M D := F_Web_check_house
noncomputable def B_Web_check_home : Rho → M Fl := (LB_Web_check_home t_Web_check_house)
noncomputable def F_Web_check_home : List D → M D := runD 2 B_Web_check_home
noncomputable def t_Web_check_home : List D → M D := F_Web_check_home
noncomputable def B_houses_above : Rho → M Fl := (LB_houses_above)
noncomputable def F_houses_above : List D → M D := runD 3 B_houses_above
noncomputable def t_houses_above : List D → M D := F_houses_above
noncomputable def B_Web_home : Rho → M Fl := (LB_Web_home)
noncomputable def F_Web_home : List D → M D := runD 1 B_Web_home
noncomputable def t_Web_home : List D → M D := F_Web_home
noncomputable def B_Web_gate : Rho → M Fl := (LB_Web_gate)
noncomputable def F_Web_gate : List D → M D := runD 1 B_Web_gate
noncomputable def t_Web_gate : List D → M D := F_Web_gate
noncomputable def B_Web_lanes : Rho → M Fl := (LB_Web_lanes)
noncomputable def F_Web_lanes : List D → M D := runD 1 B_Web_lanes
noncomputable def t_Web_lanes : List D → M D := F_Web_lanes
noncomputable def B_musts_by_house : Rho → M Fl := (LB_musts_by_house t_Web_gate t_Web_home t_Web_lanes t_comers)
noncomputable def F_musts_by_house : List D → M D := runD 5 B_musts_by_house
noncomputable def t_musts_by_house : List D → M D := F_musts_by_house
noncomputable def B_tree_of : Rho → M Fl := (LB_tree_of t_Web_gate t_musts_by_house)
noncomputable def F_tree_of : List D → M D := runD 7 B_tree_of
noncomputable def t_tree_of : List D → M D := F_tree_of
noncomputable def B_musts : Rho → M Fl := (LB_musts t_Web_check_home t_houses_above t_tree_of)
noncomputable def F_musts : List D → M D := runD 2 B_musts
noncomputable def t_musts : List D → M D := F_musts
noncomputable def B_Web_houses : Rho → M Fl := (LB_Web_houses)
noncomputable def F_Web_houses : List D → M D := runD 1 B_Web_houses
noncomputable def t_Web_houses : List D → M D := F_Web_houses
noncomputable def B_check_two : Rho → M Fl := (LB_check_two t_Web_check_home t_Web_houses t_is_one_of)
noncomputable def F_check_two : List D → M D := runD 3 B_check_two
noncomputable def t_check_two : List D → M D := F_check_two
noncomputable def B_Web_way_without : Rho → M Fl := (LB_Web_way_without)
noncomputable def F_Web_way_without : List D → M D := runD 9 B_Web_way_without
noncomputable def t_Web_way_without : List D → M D := F_Web_way_without
noncomputable def B_reached : Rho → M Fl := (LB_reached t_Web_lanes)
noncomputable def F_reached : List D → M D := runD 7 B_reached
noncomputable def t_reached : List D → M D := F_reached
noncomputable def B_around : Rho → M Fl := (LB_around t_Web_houses t_Web_way_without t_check_two t_reached)
noncomputable def F_around : List D → M D := runD 6 B_around
noncomputable def t_around : List D → M D := F_around
noncomputable def B_l_is_way : Rho → M Fl := (LB_l_is_way)
noncomputable def F_l_is_way : List D → M D := runD 5 B_l_is_way
noncomputable def t_l_is_way : List D → M D := F_l_is_way
noncomputable def B_l_is_lot : Rho → M Fl := (LB_l_is_lot)
noncomputable def F_l_is_lot : List D → M D := runD 7 B_l_is_lot
noncomputable def t_l_is_lot : List D → M D := F_l_is_lot
noncomputable def B_l_is_due : Rho → M Fl := (LB_L_due10 t_l_is_lot t_l_is_way)
noncomputable def F_l_is_due : List D → M D := runD 4 B_l_is_due
noncomputable def t_l_is_due : List D → M D := F_l_is_due
noncomputable def B_is_tuple : Rho → M Fl := (LB_is_tuple)
noncomputable def F_is_tuple : List D → M D := runD 3 B_is_tuple
noncomputable def t_is_tuple : List D → M D := F_is_tuple
noncomputable def B_are_strings : Rho → M Fl := (LB_are_strings)
noncomputable def F_are_strings : List D → M D := runD 2 B_are_strings
noncomputable def t_are_strings : List D → M D := F_are_strings
noncomputable def B_Web_is_way : Rho → M Fl := (LB_Web_is_way t_Web_check_house t_are_strings)
noncomputable def F_Web_is_way : List D → M D := runD 4 B_Web_is_way
noncomputable def t_Web_is_way : List D → M D := F_Web_is_way
noncomputable def B_is_in_sequence : Rho → M Fl := (LB_is_in_sequence)
noncomputable def F_is_in_sequence : List D → M D := runD 3 B_is_in_sequence
noncomputable def t_is_in_sequence : List D → M D := F_is_in_sequence
noncomputable def B_shows_around : Rho → M Fl := (LB_shows_around t_Web_houses t_Web_is_way t_Web_lanes t_are_strings t_check_two t_is_in_sequence t_is_one_of t_is_tuple)
noncomputable def F_shows_around : List D → M D := runD 8 B_shows_around
noncomputable def t_shows_around : List D → M D := F_shows_around
noncomputable def B_l_right : Rho → M Fl := (LB_R10 t_Web_init t_around t_l_comers t_l_home t_l_is_due t_l_lore t_l_text t_musts t_shows_around)
noncomputable def F_l_right : List D → M D := runD 10 B_l_right
noncomputable def t_l_right : List D → M D := F_l_right
noncomputable def t_is_word : List D → M D := runD 2 (LB_is_word)
noncomputable def t_near : List D → M D := runD 2 (LB_near t_Web_check_home t_tree_of)
noncomputable def t_part_of : List D → M D := runD 4 (LB_part_of t_Web_home t_houses_above t_tree_of)
noncomputable def t_part : List D → M D := runD 2 (LB_part t_Web_check_home t_part_of)
noncomputable def B_law : Rho → M Fl := (ifS (orB (notB (tst (fnF 1 t_l_right [] (consA (slot 2) nilA)))) (notB (tst (fnF 1 t_l_right [] (consA (slot 2) nilA))))) (retS (fun _ => pure (.bl false))) skip)
end VL
namespace VL
open PySem PySem.Spec PyProof.Rows L2
def top (i : Nat) : Stmt := PySem.Challenge.pw_sparebooks_k10_ways_around_and_lots.main.body.getD i (.Pass ⟨0, 0, 0, 0⟩)
structure Tx (G : Glob) : Prop where
  g_MOST_HOUSES : ∃ t, G.mg "MOST_HOUSES" = some (.int 10 t)
  g_MOST_LANES : ∃ t, G.mg "MOST_LANES" = some (.int 40 t)
  g_MOST_LETTERS : ∃ t, G.mg "MOST_LETTERS" = some (.int 8 t)
  g_PAIR : ∃ t, G.mg "PAIR" = some (.int 2 t)
  g_TRIPLE : ∃ t, G.mg "TRIPLE" = some (.int 3 t)
  b_all : G.mg "all" = none
  b_dict : G.mg "dict" = none
  b_enumerate : G.mg "enumerate" = none
  b_int : G.mg "int" = none
  b_isinstance : G.mg "isinstance" = none
  b_len : G.mg "len" = none
  b_list : G.mg "list" = none
  b_min : G.mg "min" = none
  b_range : G.mg "range" = none
  b_set : G.mg "set" = none
  b_str : G.mg "str" = none
  b_tuple : G.mg "tuple" = none
  b_zip : G.mg "zip" = none
  sl_Web_own_gate : SlotE G 0 "own_gate" 0
  sl_Web_own_home : SlotE G 0 "own_home" 1
  sl_Web_own_houses : SlotE G 0 "own_houses" 2
  sl_Web_own_lanes : SlotE G 0 "own_lanes" 3
  sl_Web_own_text : SlotE G 0 "own_text" 4
  g_AROUND : ∃ t, G.mg "AROUND" = some (.str "around" t)
  g_BLANK : ∃ t, G.mg "BLANK" = some (.str " " t)
  g_FEED : ∃ t, G.mg "FEED" = some (.str "\n" t)
  g_GATE : ∃ t, G.mg "GATE" = some (.str "gate" t)
  g_HOUSE : ∃ t, G.mg "HOUSE" = some (.str "house" t)
  g_LANE : ∃ t, G.mg "LANE" = some (.str "lane" t)
  g_LETTERS : ∃ t, G.mg "LETTERS" = some (.str "abcdefghijklmnopqrstuvwxyz" t)
  g_MUST : ∃ t, G.mg "MUST" = some (.str "must" t)
  cls_Web : SlX.SCls G.K (G.cls 0)
abbrev s_l_take : Stmt := top 47
theorem sc_l_take : FnScope ["_law_pot_here", "_law_upto", "_law_digit", "_law_prime", "_law_blend"] ["_law_pot_here", "_law_upto"] (defScope s_l_take) := ⟨rfl, rfl, rfl, by decide +kernel, rfl, by decide +kernel, by decide +kernel⟩
theorem d_l_take {G : Glob} (T : Tx G) : ∀ P E, JSs (ctxOf G ["_law_pot_here", "_law_upto", "_law_digit", "_law_prime", "_law_blend"] (defScope s_l_take) 0 P E) (gam0 5) (gam0 5) (gam0 5) (defBody s_l_take) B_l_take := fun P E =>
  (jss_cons (js_if (jt_gt (JX.v (je_potGet (je_var 0 rfl (vis_of rfl) rfl) je_int)) (JX.v je_int)) (jss_cons (js_set 2 (fun _ => fits_sh) (je_mod (JX.v (je_int' (jav_cons (JX.v (je_potGet (je_var 0 rfl (vis_of rfl) rfl) je_int)) jav_nil) rfl T.b_int)) (JX.v (je_var 1 rfl (vis_of rfl) rfl))) rfl (loc_of rfl)) (jss_cons (js_potSet (je_fdiv (JX.v (je_potGet (je_var 0 rfl (vis_of rfl) rfl) je_int)) (JX.v (je_var 1 rfl (vis_of rfl) rfl))) (je_var 0 rfl (vis_of rfl) rfl) je_int (hw := by kernel_rfl)) (jss_one (js_ret (je_var 2 rfl (vis_of rfl) rfl))))) jss_nil) (jss_cons (js_potSet (je_add (JX.v (je_potGet (je_var 0 rfl (vis_of rfl) rfl) je_int)) (JX.v je_int)) (je_var 0 rfl (vis_of rfl) rfl) je_int (hw := by kernel_rfl)) (jss_cons (js_set 3 (fun _ => fits_sh) (je_idx (JX.fv (jf_lst (ja_cons je_int (ja_cons je_int (ja_cons je_int (ja_cons je_int (ja_cons je_int ja_nil))))))) (JX.v (je_mod (JX.v (je_int' (jav_cons (JX.v (je_potGet (je_var 0 rfl (vis_of rfl) rfl) je_int)) jav_nil) rfl T.b_int)) (JX.v je_int)))) rfl (loc_of rfl)) (jss_cons (js_set 4 (fun _ => fits_sh) (je_mod (JX.v (je_int' (jav_cons (JX.v (je_pow (JX.v (je_int' (jav_cons (JX.v (je_add (JX.v (je_add (JX.v (je_potGet (je_var 0 rfl (vis_of rfl) rfl) je_int)) (JX.v (je_mul (JX.v (je_mul (JX.v je_int) (JX.v (je_potGet (je_var 0 rfl (vis_of rfl) rfl) je_int)))) (JX.v (je_potGet (je_var 0 rfl (vis_of rfl) rfl) je_int)))))) (JX.v je_int))) jav_nil) rfl T.b_int)) (JX.v je_int))) jav_nil) rfl T.b_int)) (JX.v (je_var 3 rfl (vis_of rfl) rfl))) rfl (loc_of rfl)) (jss_cons (js_set 4 (fun _ => fits_sh) (je_mod (JX.v (je_int' (jav_cons (JX.v (je_mul (JX.v (je_var 4 rfl (vis_of rfl) rfl)) (JX.v (je_add (JX.v (je_mod (JX.v (je_int' (jav_cons (JX.v (je_var 4 rfl (vis_of rfl) rfl)) jav_nil) rfl T.b_int)) (JX.v je_int))) (JX.v (je_mul (JX.v je_int) (JX.v (je_potGet (je_var 0 rfl (vis_of rfl) rfl) je_int)))))))) jav_nil) rfl T.b_int)) (JX.v je_int)) rfl (loc_of rfl)) (jss_one (js_ret (je_mod (JX.v (je_int' (jav_cons (JX.v (je_fdiv (JX.v (je_var 4 rfl (vis_of rfl) rfl)) (JX.v je_int))) jav_nil) rfl T.b_int)) (JX.v (je_var 1 rfl (vis_of rfl) rfl))))))))))
abbrev s_l_some : Stmt := top 49
theorem sc_l_some : FnScope ["_law_pot_here", "_law_pool", "_law_many", "_law_rest", "_law_found", "_law_turn"] ["_law_pot_here", "_law_pool", "_law_many"] (defScope s_l_some) := ⟨rfl, rfl, rfl, by decide +kernel, rfl, by decide +kernel, by decide +kernel⟩
theorem d_l_some {G : Glob} (T : Tx G) (c_l_take_2 : FnI G "_law_take" 1 2 [] t_l_take) : ∀ P E, JSs (ctxOf G ["_law_pot_here", "_law_pool", "_law_many", "_law_rest", "_law_found", "_law_turn"] (defScope s_l_some) 1 P E) (gam0 6) (gam0 6) (gam0 6) (defBody s_l_some) B_l_some := fun P E =>
  (jss_cons (js_par 3 4 (jf_list (jav_cons (JX.v (je_var 1 rfl (vis_of rfl) rfl)) jav_nil) rfl T.b_list) (jf_lst ja_nil) (fun _ => fits_ol) (fun _ => fits_ol) rfl rfl (hw := by kernel_rfl) (hx := rfl) (hy := rfl)) (jss_cons (js_for (ji_range1 (jav_cons (JX.v (je_var 2 rfl (vis_of rfl) rfl)) jav_nil) rfl T.b_range) (jg_name 5 rfl (loc_of rfl) rfl) (jss_one (js_appPop 3 4 (JX.v (je_call c_l_take_2 (Nat.le_of_ble_eq_true rfl) (ja_cons (je_var 0 rfl (vis_of rfl) rfl) (ja_cons (je_len (jav_cons (jv_var 3 rfl (vis_of rfl) (by decide)) jav_nil) rfl T.b_len) ja_nil)) rfl)) rfl rfl (vis_of rfl) (vis_of rfl) rfl rfl (by decide)))) (jss_freeze 4 (jss_one (js_ret (je_var 4 rfl (vis_of rfl) rfl))))))
abbrev s_l_names : Stmt := top 51
theorem sc_l_names : FnScope ["_law_pot_here", "_law_many", "_law_pool"] ["_law_pot_here", "_law_many"] (defScope s_l_names) := ⟨rfl, rfl, rfl, by decide +kernel, rfl, by decide +kernel, by decide +kernel⟩
theorem d_l_names {G : Glob} (T : Tx G) (c_l_some_3 : FnI G "_law_some" 2 3 [] t_l_some) : ∀ P E, JSs (ctxOf G ["_law_pot_here", "_law_many", "_law_pool"] (defScope s_l_names) 2 P E) (gam0 3) (gam0 3) (gam0 3) (defBody s_l_names) B_l_names := fun P E =>
  (jss_cons (js_set 2 (fun _ => fits_sh) (JX.fe (jf_lst (ja_cons je_str (ja_cons je_str (ja_cons je_str (ja_cons je_str (ja_cons je_str (ja_cons je_str (ja_cons je_str (ja_cons je_str (ja_cons je_str (ja_cons je_str ja_nil)))))))))))) rfl (loc_of rfl)) (jss_one (js_ret (je_call c_l_some_3 (Nat.le_of_ble_eq_true rfl) (ja_cons (je_var 0 rfl (vis_of rfl) rfl) (ja_cons (JX.fe (jf_cat (JX.v (je_var 2 rfl (vis_of rfl) rfl)) (JX.fv (jf_lst (ja_cons je_str (ja_cons je_str (ja_cons je_str (ja_cons je_str (ja_cons je_str (ja_cons je_str ja_nil)))))))))) (ja_cons (je_var 1 rfl (vis_of rfl) rfl) ja_nil))) rfl))))
abbrev s_l_of : Stmt := top 48
theorem sc_l_of : FnScope ["_law_pot_here", "_law_some_here"] ["_law_pot_here", "_law_some_here"] (defScope s_l_of) := ⟨rfl, rfl, rfl, by decide +kernel, rfl, by decide +kernel, by decide +kernel⟩
theorem d_l_of {G : Glob} (T : Tx G) (c_l_take_2 : FnI G "_law_take" 1 2 [] t_l_take) : ∀ P E, JSs (ctxOf G ["_law_pot_here", "_law_some_here"] (defScope s_l_of) 1 P E) (gam0 2) (gam0 2) (gam0 2) (defBody s_l_of) B_l_of := fun P E =>
  (jss_one (js_ret (je_idx (JX.v (je_var 1 rfl (vis_of rfl) rfl)) (JX.v (je_call c_l_take_2 (Nat.le_of_ble_eq_true rfl) (ja_cons (je_var 0 rfl (vis_of rfl) rfl) (ja_cons (je_len (jav_cons (JX.v (je_var 1 rfl (vis_of rfl) rfl)) jav_nil) rfl T.b_len) ja_nil)) rfl)))))
abbrev s_l_drawn : Stmt := top 52
theorem sc_l_drawn : FnScope ["_law_pot_here", "_law_many", "_law_names_here", "_law_gate", "_law_houses", "_law_lore_here", "_law_lanes", "_law_rest", "_law_start", "_law_at", "_law_house", "_law_more", "_law_end", "_law_lane"] ["_law_pot_here", "_law_many"] (defScope s_l_drawn) := ⟨rfl, rfl, rfl, by decide +kernel, rfl, by decide +kernel, by decide +kernel⟩
theorem d_l_drawn {G : Glob} (T : Tx G) (c_l_names_2 : FnI G "_law_names" 3 2 [] t_l_names) (c_l_some_3 : FnI G "_law_some" 2 3 [] t_l_some) (c_l_take_2 : FnI G "_law_take" 1 2 [] t_l_take) (c_l_of_2 : FnI G "_law_of" 2 2 [] t_l_of) : ∀ P E, JSs (ctxOf G ["_law_pot_here", "_law_many", "_law_names_here", "_law_gate", "_law_houses", "_law_lore_here", "_law_lanes", "_law_rest", "_law_start", "_law_at", "_law_house", "_law_more", "_law_end", "_law_lane"] (defScope s_l_drawn) 3 P E) (gam0 14) (gam0 14) (gam0 14) (defBody s_l_drawn) B_l_drawn := fun P E =>
  (jss_cons (js_set 2 (fun _ => fits_sh) (je_call c_l_names_2 (Nat.le_of_ble_eq_true rfl) (ja_cons (je_var 0 rfl (vis_of rfl) rfl) (ja_cons (je_add (JX.v (je_var 1 rfl (vis_of rfl) rfl)) (JX.v je_int)) ja_nil)) rfl) rfl (loc_of rfl)) (jss_cons (js_par 3 4 (je_idx (JX.v (je_var 2 rfl (vis_of rfl) rfl)) (JX.v je_int)) (JX.fe (jf_slice (JX.v (je_var 2 rfl (vis_of rfl) rfl)) (jo_some (JX.v je_int)) jo_none)) (fun _ => fits_sh) (fun _ => fits_sh) rfl rfl (hw := by kernel_rfl) (hx := rfl) (hy := rfl)) (jss_cons (js_set 5 (fun _ => fits_od) (jfd_disp (jp_cons je_str (je_var 3 rfl (vis_of rfl) rfl) (jp_cons je_str (je_call c_l_some_3 (Nat.le_of_ble_eq_true rfl) (ja_cons (je_var 0 rfl (vis_of rfl) rfl) (ja_cons (je_var 4 rfl (vis_of rfl) rfl) (ja_cons (je_var 1 rfl (vis_of rfl) rfl) ja_nil))) rfl) (jp_cons je_str (JX.fe (jf_lst ja_nil)) jp_nil)))) rfl (loc_of rfl)) (jss_cons (js_parT 6 7 (jf_lst ja_nil) (jf_lst ja_nil) (fun _ => fits_ol) (fun _ => fits_ol) rfl rfl (loc_of rfl) (loc_of rfl) (by kernel_rfl)) (jss_cons (js_for (ji_seq (je_var 4 rfl (vis_of rfl) rfl)) (jg_name 8 rfl (loc_of rfl) rfl) (jss_one (js_extend 7 (JX.fv (jf_lc (own := [("_law_end", 12)]) (jiv_seq (JX.fv (jf_cat (JX.fv (jf_lst (ja_cons (je_var 3 rfl (vis_of rfl) rfl) ja_nil))) (JX.v (je_var 4 rfl (vis_of rfl) rfl))))) (blk_of (by kernel_rfl)) (jg_name 12 rfl (loc_of rfl) rfl) (jts_one (jt_ne (JX.v (je_var 8 rfl (vis_of rfl) rfl)) (JX.v (je_var 12 rfl (vis_of rfl) rfl)))) (je_tup (ja_cons (je_var 8 rfl (vis_of rfl) rfl) (ja_cons (je_var 12 rfl (vis_of rfl) rfl) ja_nil))))) rfl (vis_of rfl) rfl))) (jss_cons (js_for (ji_enum1 (ja_cons (je_var 4 rfl (vis_of rfl) rfl) ja_nil) rfl T.b_enumerate) (jg_tup (n := 2) (jgs_cons (jg_name 9 rfl (loc_of rfl) rfl) (jgs_cons (jg_name 10 rfl (loc_of rfl) rfl) jgs_nil))) (jss_one (js_if (jt_gt (JX.v (je_call c_l_take_2 (Nat.le_of_ble_eq_true rfl) (ja_cons (je_var 0 rfl (vis_of rfl) rfl) (ja_cons je_int ja_nil)) rfl)) (JX.v je_int)) (jss_one (js_append 6 (je_tup (ja_cons (je_var 10 rfl (vis_of rfl) rfl) (ja_cons (je_call c_l_of_2 (Nat.le_of_ble_eq_true rfl) (ja_cons (je_var 0 rfl (vis_of rfl) rfl) (ja_cons (JX.fe (jf_cat (JX.fv (jf_lst (ja_cons (je_var 3 rfl (vis_of rfl) rfl) ja_nil))) (JX.fv (jf_slice (JX.v (je_var 4 rfl (vis_of rfl) rfl)) jo_none (jo_some (JX.v (je_var 9 rfl (vis_of rfl) rfl))))))) ja_nil)) rfl) ja_nil))) rfl (vis_of rfl) rfl)) jss_nil))) (jss_cons (js_setLc (own := [("_law_lane", 13)]) 7 (jiv_seq (jv_var 7 rfl (vis_of rfl) (by decide))) (blk_of (by kernel_rfl)) (jg_name 13 rfl (loc_of rfl) rfl) (jts_one (jt_notIn (JX.v (je_var 13 rfl (vis_of rfl) rfl)) (jv_var 6 rfl (vis_of rfl) (by decide)))) (je_var 13 rfl (vis_of rfl) rfl) rfl rfl (fun _ h => h.swp (by kernel_rfl))) (jss_cons (js_set 11 (fun _ => fits_sh) (je_minL (jav_cons (JX.fv (jf_lst (ja_cons (je_int' (jav_cons (JX.v (je_len (jav_cons (jv_var 7 rfl (vis_of rfl) (by decide)) jav_nil) rfl T.b_len)) jav_nil) rfl T.b_int) (ja_cons (je_int' (jav_cons (JX.v (je_call c_l_take_2 (Nat.le_of_ble_eq_true rfl) (ja_cons (je_var 0 rfl (vis_of rfl) rfl) (ja_cons (je_add (JX.v (je_mul (JX.v je_int) (JX.v (je_var 1 rfl (vis_of rfl) rfl)))) (JX.v je_int)) ja_nil)) rfl)) jav_nil) rfl T.b_int) (ja_cons (je_int' (jav_cons (JX.v (je_sub (JX.v je_int) (JX.v (je_len (jav_cons (jv_var 6 rfl (vis_of rfl) (by decide)) jav_nil) rfl T.b_len)))) jav_nil) rfl T.b_int) ja_nil))))) jav_nil) rfl T.b_min) rfl (loc_of rfl)) (jss_freeze 7 (jss_cons (js_set 6 (fun _ => fits_ol) (jf_cat (jv_var 6 rfl (vis_of rfl) (by decide)) (JX.v (je_call c_l_some_3 (Nat.le_of_ble_eq_true rfl) (ja_cons (je_var 0 rfl (vis_of rfl) rfl) (ja_cons (je_var 7 rfl (vis_of rfl) rfl) (ja_cons (je_var 11 rfl (vis_of rfl) rfl) ja_nil))) rfl))) rfl (loc_of rfl)) (jss_freeze 6 (jss_cons (js_dput 5 (je_call c_l_some_3 (Nat.le_of_ble_eq_true rfl) (ja_cons (je_var 0 rfl (vis_of rfl) rfl) (ja_cons (je_var 6 rfl (vis_of rfl) rfl) (ja_cons (je_len (jav_cons (JX.v (je_var 6 rfl (vis_of rfl) rfl)) jav_nil) rfl T.b_len) ja_nil))) rfl) (JX.v je_str) rfl (vis_of rfl) rfl) (jss_freeze 5 (jss_one (js_ret (je_var 5 rfl (vis_of rfl) rfl))))))))))))))))
abbrev s_l_lore : Stmt := top 53
theorem sc_l_lore : FnScope ["_law_pot_here", "_law_fewest", "_law_most"] ["_law_pot_here", "_law_fewest", "_law_most"] (defScope s_l_lore) := ⟨rfl, rfl, rfl, by decide +kernel, rfl, by decide +kernel, by decide +kernel⟩
theorem d_l_lore {G : Glob} (T : Tx G) (c_l_drawn_2 : FnI G "_law_drawn" 4 2 [] t_l_drawn) (c_l_take_2 : FnI G "_law_take" 1 2 [] t_l_take) : ∀ P E, JSs (ctxOf G ["_law_pot_here", "_law_fewest", "_law_most"] (defScope s_l_lore) 4 P E) (gam0 3) (gam0 3) (gam0 3) (defBody s_l_lore) B_l_lore := fun P E =>
  (jss_one (js_ret (je_call c_l_drawn_2 (Nat.le_of_ble_eq_true rfl) (ja_cons (je_var 0 rfl (vis_of rfl) rfl) (ja_cons (je_add (JX.v (je_var 1 rfl (vis_of rfl) rfl)) (JX.v (je_call c_l_take_2 (Nat.le_of_ble_eq_true rfl) (ja_cons (je_var 0 rfl (vis_of rfl) rfl) (ja_cons (je_add (JX.v (je_sub (JX.v (je_var 2 rfl (vis_of rfl) rfl)) (JX.v (je_var 1 rfl (vis_of rfl) rfl)))) (JX.v je_int)) ja_nil)) rfl))) ja_nil)) rfl)))
abbrev s_is_name : Stmt := top 18
theorem sc_is_name : FnScope ["value", "sign"] ["value"] (defScope s_is_name) := ⟨rfl, rfl, rfl, by decide +kernel, rfl, by decide +kernel, by decide +kernel⟩
theorem d_is_name {G : Glob} (T : Tx G) : ∀ P E, JSs (ctxOf G ["value", "sign"] (defScope s_is_name) 0 P E) (gam0 2) (gam0 2) (gam0 2) (defBody s_is_name) B_is_name := fun P E =>
  (jss_cons (js_if (JW.jt (jw_or (jt_not (jt_val (JX.v (je_isT (cs := []) kit_str (by decide) (by intro i hi; cases hi) rfl T.b_str btn_str (JX.v (je_var 0 rfl (vis_of rfl) rfl)) rfl T.b_isinstance)))) (jw_or1 (jt_not (jt_chain ch_le ch_le cd_le cd_le (JX.v je_int) (JX.v (je_len (jav_cons (JX.v (je_var 0 rfl (vis_of rfl) rfl)) jav_nil) rfl T.b_len)) (JX.v (je_gint (z := 8) rfl T.g_MOST_LETTERS)) (by kernel_rfl)))))) (jss_one (js_ret je_bl)) jss_nil) (jss_one (js_ret (je_all (jav_cons (JX.fv (jf_lc (own := [("sign", 1)]) (JI.v (ji_str (je_var 0 rfl (vis_of rfl) rfl))) (blk_of (by kernel_rfl)) (jg_name 1 rfl (loc_of rfl) rfl) jts_nil (je_in (JX.v (je_var 1 rfl (vis_of rfl) rfl)) (JX.v (je_gstr (z := "abcdefghijklmnopqrstuvwxyz") rfl T.g_LETTERS))))) jav_nil) rfl T.b_all))))
abbrev s_name_in : Stmt := top 29
theorem sc_name_in : FnScope ["line", "word", "words"] ["line", "word"] (defScope s_name_in) := ⟨rfl, rfl, rfl, by decide +kernel, rfl, by decide +kernel, by decide +kernel⟩
theorem d_name_in {G : Glob} (T : Tx G) (c_is_name_1 : FnI G "is_name" 1 1 [] t_is_name) : ∀ P E, JSs (ctxOf G ["line", "word", "words"] (defScope s_name_in) 1 P E) (gam0 3) (gam0 3) (gam0 3) (defBody s_name_in) B_name_in := fun P E =>
  (jss_cons (js_set 2 (fun _ => fits_sh) (JX.fe (jf_split (JX.v (je_var 0 rfl (vis_of rfl) rfl)) (JX.v (je_gstr (z := " ") rfl T.g_BLANK)))) rfl (loc_of rfl)) (jss_one (js_ret (jx_if (fun _ => elder_at) (JW.jt (jw_and (jt_eq (JX.v (je_len (jav_cons (JX.v (je_var 2 rfl (vis_of rfl) rfl)) jav_nil) rfl T.b_len)) (JX.v (je_gint (z := 2) rfl T.g_PAIR))) (jw_and (jt_eq (JX.v (je_idx (JX.v (je_var 2 rfl (vis_of rfl) rfl)) (JX.v je_int))) (JX.v (je_var 1 rfl (vis_of rfl) rfl))) (jw_and1 (jt_val (JX.v (je_call c_is_name_1 (Nat.le_of_ble_eq_true rfl) (ja_cons (je_idx (JX.v (je_var 2 rfl (vis_of rfl) rfl)) (JX.v je_int)) ja_nil) rfl))))))) (je_idx (JX.v (je_var 2 rfl (vis_of rfl) rfl)) (JX.v je_int)) je_non))))
abbrev s_lane_in : Stmt := top 30
theorem sc_lane_in : FnScope ["line", "gate", "houses", "words", "start", "end"] ["line", "gate", "houses"] (defScope s_lane_in) := ⟨rfl, rfl, rfl, by decide +kernel, rfl, by decide +kernel, by decide +kernel⟩
theorem d_lane_in {G : Glob} (T : Tx G) : ∀ P E, JSs (ctxOf G ["line", "gate", "houses", "words", "start", "end"] (defScope s_lane_in) 0 P E) (gam0 6) (gam0 6) (gam0 6) (defBody s_lane_in) B_lane_in := fun P E =>
  (jss_cons (js_set 3 (fun _ => fits_sh) (JX.fe (jf_split (JX.v (je_var 0 rfl (vis_of rfl) rfl)) (JX.v (je_gstr (z := " ") rfl T.g_BLANK)))) rfl (loc_of rfl)) (jss_cons (js_if (JW.jt (jw_or (jt_ne (JX.v (je_len (jav_cons (JX.v (je_var 3 rfl (vis_of rfl) rfl)) jav_nil) rfl T.b_len)) (JX.v (je_gint (z := 3) rfl T.g_TRIPLE))) (jw_or1 (jt_ne (JX.v (je_idx (JX.v (je_var 3 rfl (vis_of rfl) rfl)) (JX.v je_int))) (JX.v (je_gstr (z := "lane") rfl T.g_LANE)))))) (jss_one (js_ret je_non)) jss_nil) (jss_cons (js_tgtL (JX.fv (jf_slice (JX.v (je_var 3 rfl (vis_of rfl) rfl)) (jo_some (JX.v je_int)) jo_none)) (jg_unl (n := 2) (jgs_cons (jg_name 4 rfl (loc_of rfl) rfl) (jgs_cons (jg_name 5 rfl (loc_of rfl) rfl) jgs_nil))) (hw := by kernel_rfl)) (jss_one (js_ret (jx_if (fun _ => elder_at) (JW.jt (jw_and (jt_in (JX.v (je_var 4 rfl (vis_of rfl) rfl)) (JX.v (je_var 2 rfl (vis_of rfl) rfl))) (jw_and (jt_in (JX.v (je_var 5 rfl (vis_of rfl) rfl)) (JX.fv (jf_lst (ja_cons (je_var 1 rfl (vis_of rfl) rfl) (ja_star (JX.v (je_var 2 rfl (vis_of rfl) rfl)) ja_nil))))) (jw_and1 (jt_ne (JX.v (je_var 4 rfl (vis_of rfl) rfl)) (JX.v (je_var 5 rfl (vis_of rfl) rfl))))))) (je_tup (ja_cons (je_var 4 rfl (vis_of rfl) rfl) (ja_cons (je_var 5 rfl (vis_of rfl) rfl) ja_nil))) je_non))))))
abbrev s_taken : Stmt := top 31
theorem sc_taken : FnScope ["text", "lines", "gate", "houses", "lanes", "number", "line", "name", "lane"] ["text"] (defScope s_taken) := ⟨rfl, rfl, rfl, by decide +kernel, rfl, by decide +kernel, by decide +kernel⟩
theorem d_taken {G : Glob} (T : Tx G) (c_name_in_2 : FnI G "name_in" 2 2 [] t_name_in) (c_lane_in_3 : FnI G "lane_in" 1 3 [] t_lane_in) : ∀ P E, JSs (ctxOf G ["text", "lines", "gate", "houses", "lanes", "number", "line", "name", "lane"] (defScope s_taken) 2 P E) (gam0 9) (gam0 9) (gam0 9) (defBody s_taken) B_taken := fun P E =>
  (jss_cons (js_if (jt_not (jt_val (JX.v (je_isT (cs := []) kit_str (by decide) (by intro i hi; cases hi) rfl T.b_str btn_str (JX.v (je_var 0 rfl (vis_of rfl) rfl)) rfl T.b_isinstance)))) (jss_one js_never) jss_nil) (jss_cons (js_set 1 (fun _ => fits_sh) (JX.fe (jf_split (JX.v (je_var 0 rfl (vis_of rfl) rfl)) (JX.v (je_gstr (z := "\n") rfl T.g_FEED)))) rfl (loc_of rfl)) (jss_cons (js_par3 2 3 4 (je_call c_name_in_2 (Nat.le_of_ble_eq_true rfl) (ja_cons (je_idx (JX.v (je_var 1 rfl (vis_of rfl) rfl)) (JX.v je_int)) (ja_cons (je_gstr (z := "gate") rfl T.g_GATE) ja_nil)) rfl) (je_tup ja_nil) (je_tup ja_nil) (fun _ => fits_sh) (fun _ => fits_sh) (fun _ => fits_sh) rfl rfl rfl (hw := by kernel_rfl) (hx := rfl) (hy := rfl) (hz := rfl)) (jss_cons (js_if (jt_isN (JX.v (je_var 2 rfl (vis_of rfl) rfl)) (JX.v je_non)) (jss_one js_never) jss_nil) (jss_cons (js_for (ji_enum2 (ja_cons (JX.fe (jf_slice (JX.v (je_var 1 rfl (vis_of rfl) rfl)) (jo_some (JX.v je_int)) jo_none)) (ja_cons je_int ja_nil)) rfl T.b_enumerate) (jg_tup (n := 2) (jgs_cons (jg_name 5 rfl (loc_of rfl) rfl) (jgs_cons (jg_name 6 rfl (loc_of rfl) rfl) jgs_nil))) (jss_cons (js_par 7 8 (je_call c_name_in_2 (Nat.le_of_ble_eq_true rfl) (ja_cons (je_var 6 rfl (vis_of rfl) rfl) (ja_cons (je_gstr (z := "house") rfl T.g_HOUSE) ja_nil)) rfl) (je_call c_lane_in_3 (Nat.le_of_ble_eq_true rfl) (ja_cons (je_var 6 rfl (vis_of rfl) rfl) (ja_cons (je_var 2 rfl (vis_of rfl) rfl) (ja_cons (je_var 3 rfl (vis_of rfl) rfl) ja_nil))) rfl) (fun _ => fits_sh) (fun _ => fits_sh) rfl rfl (hw := by kernel_rfl) (hx := rfl) (hy := rfl)) (jss_one (js_if (JW.jt (jw_and (jt_notN (JX.v (je_var 7 rfl (vis_of rfl) rfl)) (JX.v je_non)) (jw_and (jt_eq (JX.v (je_var 4 rfl (vis_of rfl) rfl)) (JX.v (je_tup ja_nil))) (jw_and (jt_lt (JX.v (je_len (jav_cons (JX.v (je_var 3 rfl (vis_of rfl) rfl)) jav_nil) rfl T.b_len)) (JX.v (je_gint (z := 10) rfl T.g_MOST_HOUSES))) (jw_and1 (jt_notIn (JX.v (je_var 7 rfl (vis_of rfl) rfl)) (JX.fv (jf_lst (ja_cons (je_var 2 rfl (vis_of rfl) rfl) (ja_star (JX.v (je_var 3 rfl (vis_of rfl) rfl)) ja_nil)))))))))) (jss_one (js_set 3 (fun _ => fits_sh) (je_tup (ja_star (JX.v (je_var 3 rfl (vis_of rfl) rfl)) (ja_cons (je_var 7 rfl (vis_of rfl) rfl) ja_nil))) rfl (loc_of rfl))) (jss_one (js_if (JW.jt (jw_and (jt_notN (JX.v (je_var 8 rfl (vis_of rfl) rfl)) (JX.v je_non)) (jw_and (jt_lt (JX.v (je_len (jav_cons (JX.v (je_var 4 rfl (vis_of rfl) rfl)) jav_nil) rfl T.b_len)) (JX.v (je_gint (z := 40) rfl T.g_MOST_LANES))) (jw_and1 (jt_notIn (JX.v (je_var 8 rfl (vis_of rfl) rfl)) (JX.v (je_var 4 rfl (vis_of rfl) rfl))))))) (jss_one (js_set 4 (fun _ => fits_sh) (je_tup (ja_star (JX.v (je_var 4 rfl (vis_of rfl) rfl)) (ja_cons (je_var 8 rfl (vis_of rfl) rfl) ja_nil))) rfl (loc_of rfl))) (jss_one js_never))))))) (jss_one (js_ret (je_tup (ja_cons (je_var 2 rfl (vis_of rfl) rfl) (ja_cons (je_var 3 rfl (vis_of rfl) rfl) (ja_cons (je_var 4 rfl (vis_of rfl) rfl) ja_nil)))))))))))
abbrev s_comers : Stmt := top 32
theorem sc_comers : FnScope ["lanes", "gate", "gone", "found", "more", "start", "end"] ["lanes", "gate", "gone"] (defScope s_comers) := ⟨rfl, rfl, rfl, by decide +kernel, rfl, by decide +kernel, by decide +kernel⟩
theorem d_comers {G : Glob} (T : Tx G) : ∀ P E, JSs (ctxOf G ["lanes", "gate", "gone", "found", "more", "start", "end"] (defScope s_comers) 0 P E) (gam0 7) (gam0 7) (gam0 7) (defBody s_comers) B_comers := fun P E =>
  (jss_cons (js_parT 3 4 (JX.fe (jf_lst ja_nil)) (JX.fe (jf_lst (ja_cons (je_var 1 rfl (vis_of rfl) rfl) ja_nil))) (fun _ => fits_sh) (fun _ => fits_sh) rfl rfl (loc_of rfl) (loc_of rfl) (by kernel_rfl)) (jss_cons (js_while (jt_ne (JX.v (je_var 4 rfl (vis_of rfl) rfl)) (JX.fv (jf_lst ja_nil))) (jss_cons (js_set 3 (fun _ => fits_sh) (JX.fe (jf_lst (ja_star (JX.v (je_var 3 rfl (vis_of rfl) rfl)) (ja_star (JX.v (je_var 4 rfl (vis_of rfl) rfl)) ja_nil)))) rfl (loc_of rfl)) (jss_one (js_set 4 (fun _ => fits_sh) (JX.fe (jf_keys (jav_cons (JX.fdv (jfd_dc (own := [("start", 5), ("end", 6)]) (jiv_seq (JX.v (je_var 0 rfl (vis_of rfl) rfl))) (blk_of (by kernel_rfl)) (jg_tup (n := 2) (jgs_cons (jg_name 5 rfl (loc_of rfl) rfl) (jgs_cons (jg_name 6 rfl (loc_of rfl) rfl) jgs_nil))) (jts_one (JW.jt (jw_and (jt_in (JX.v (je_var 6 rfl (vis_of rfl) rfl)) (JX.v (je_var 4 rfl (vis_of rfl) rfl))) (jw_and1 (jt_notIn (JX.v (je_var 5 rfl (vis_of rfl) rfl)) (JX.fv (jf_lst (ja_star (JX.v (je_var 3 rfl (vis_of rfl) rfl)) (ja_star (JX.v (je_var 2 rfl (vis_of rfl) rfl)) ja_nil))))))))) (je_var 5 rfl (vis_of rfl) rfl) je_bl)) jav_nil) rfl T.b_list)) rfl (loc_of rfl))))) (jss_one (js_ret (JX.fe (jf_slice (JX.v (je_var 3 rfl (vis_of rfl) rfl)) (jo_some (JX.v je_int)) jo_none))))))
abbrev s_Web_init : Stmt := inClass (top 33) 1
theorem sc_Web_init : FnScope ["self", "text", "gate", "houses", "lanes", "some", "house"] ["self", "text"] (defScope s_Web_init) := ⟨rfl, rfl, rfl, by decide +kernel, rfl, by decide +kernel, by decide +kernel⟩
theorem d_Web_init {G : Glob} (T : Tx G) (c_taken_1 : FnI G "taken" 3 1 [] t_taken) (c_comers_2 : FnI G "comers" 1 3 [.tup []] t_comers) : ∀ P E, JInis (ctxOf G ["self", "text", "gate", "houses", "lanes", "some", "house"] (defScope s_Web_init) 3 P E) 0 7 (defBody s_Web_init) B_Web_init := fun P E =>
  (jini_cons (jini_plain (js_tgt (je_call c_taken_1 (Nat.le_of_ble_eq_true rfl) (ja_cons (je_var 1 rfl (vis_of rfl) rfl) ja_nil) rfl) (jg_tup (n := 3) (jgs_cons (jg_name 2 rfl (loc_of rfl) rfl) (jgs_cons (jg_name 3 rfl (loc_of rfl) rfl) (jgs_cons (jg_name 4 rfl (loc_of rfl) rfl) jgs_nil)))) (hw := by kernel_rfl))) (jini_cons (jini_setE T.cls_Web T.sl_Web_own_text (je_var 1 rfl (vis_of rfl) rfl) rfl (vis_of rfl) (hw := by kernel_rfl)) (jini_cons (jini_setE T.cls_Web T.sl_Web_own_gate (je_var 2 rfl (vis_of rfl) rfl) rfl (vis_of rfl) (hw := by kernel_rfl)) (jini_cons (jini_setE T.cls_Web T.sl_Web_own_houses (je_var 3 rfl (vis_of rfl) rfl) rfl (vis_of rfl) (hw := by kernel_rfl)) (jini_cons (jini_setE T.cls_Web T.sl_Web_own_lanes (je_var 4 rfl (vis_of rfl) rfl) rfl (vis_of rfl) (hw := by kernel_rfl)) (jini_cons (jini_plain (js_set 5 (fun _ => fits_sh) (je_call c_comers_2 (Nat.le_of_ble_eq_true rfl) (ja_cons (je_var 4 rfl (vis_of rfl) rfl) (ja_cons (je_var 2 rfl (vis_of rfl) rfl) ja_nil)) rfl) rfl (loc_of rfl))) (jini_cons (jini_setE T.cls_Web T.sl_Web_own_home (je_tuple (jav_cons (JX.fv (jf_lc (own := [("house", 6)]) (jiv_seq (JX.v (je_var 3 rfl (vis_of rfl) rfl))) (blk_of (by kernel_rfl)) (jg_name 6 rfl (loc_of rfl) rfl) (jts_one (jt_in (JX.v (je_var 6 rfl (vis_of rfl) rfl)) (JX.v (je_var 5 rfl (vis_of rfl) rfl)))) (je_var 6 rfl (vis_of rfl) rfl))) jav_nil) rfl T.b_tuple) rfl (vis_of rfl) (hw := by kernel_rfl)) jini_nil)))))))
abbrev s_l_lines : Stmt := top 54
theorem sc_l_lines : FnScope ["_law_lore_here", "_law_found", "_law_house", "_law_start", "_law_end"] ["_law_lore_here"] (defScope s_l_lines) := ⟨rfl, rfl, rfl, by decide +kernel, rfl, by decide +kernel, by decide +kernel⟩
theorem d_l_lines {G : Glob} (T : Tx G) : ∀ P E, JSs (ctxOf G ["_law_lore_here", "_law_found", "_law_house", "_law_start", "_law_end"] (defScope s_l_lines) 0 P E) (gam0 5) (gam0 5) (gam0 5) (defBody s_l_lines) B_l_lines := fun P E =>
  (jss_cons (js_set 1 (fun _ => fits_sh) (JX.fe (jf_cat (JX.fv (jf_lst (ja_cons (je_add (JX.v je_str) (JX.v (je_dget (JX.v (je_var 0 rfl (vis_of rfl) rfl)) (JX.v je_str)))) ja_nil))) (JX.fv (jf_lc (own := [("_law_house", 2)]) (jiv_seq (JX.v (je_dget (JX.v (je_var 0 rfl (vis_of rfl) rfl)) (JX.v je_str)))) (blk_of (by kernel_rfl)) (jg_name 2 rfl (loc_of rfl) rfl) jts_nil (je_add (JX.v je_str) (JX.v (je_var 2 rfl (vis_of rfl) rfl))))))) rfl (loc_of rfl)) (jss_one (js_ret (JX.fe (jf_cat (JX.v (je_var 1 rfl (vis_of rfl) rfl)) (JX.fv (jf_lc (own := [("_law_start", 3), ("_law_end", 4)]) (jiv_seq (JX.v (je_dget (JX.v (je_var 0 rfl (vis_of rfl) rfl)) (JX.v je_str)))) (blk_of (by kernel_rfl)) (jg_tup (n := 2) (jgs_cons (jg_name 3 rfl (loc_of rfl) rfl) (jgs_cons (jg_name 4 rfl (loc_of rfl) rfl) jgs_nil))) jts_nil (je_join (JX.v je_str) (JX.fv (jf_lst (ja_cons je_str (ja_cons (je_var 3 rfl (vis_of rfl) rfl) (ja_cons (je_var 4 rfl (vis_of rfl) rfl) ja_nil)))))))))))))
abbrev s_l_text : Stmt := top 55
theorem sc_l_text : FnScope ["_law_lore_here"] ["_law_lore_here"] (defScope s_l_text) := ⟨rfl, rfl, rfl, by decide +kernel, rfl, by decide +kernel, by decide +kernel⟩
theorem d_l_text {G : Glob} (T : Tx G) (c_l_lines_1 : FnI G "_law_lines" 1 1 [] t_l_lines) : ∀ P E, JSs (ctxOf G ["_law_lore_here"] (defScope s_l_text) 1 P E) (gam0 1) (gam0 1) (gam0 1) (defBody s_l_text) B_l_text := fun P E =>
  (jss_one (js_ret (je_join (JX.v je_str) (JX.v (je_call c_l_lines_1 (Nat.le_of_ble_eq_true rfl) (ja_cons (je_var 0 rfl (vis_of rfl) rfl) ja_nil) rfl)))))
abbrev s_l_comers : Stmt := top 56
theorem sc_l_comers : FnScope ["_law_lore_here", "_law_gone", "_law_here", "_law_is_more", "_law_more", "_law_start", "_law_end", "_law_house"] ["_law_lore_here", "_law_gone"] (defScope s_l_comers) := ⟨rfl, rfl, rfl, by decide +kernel, rfl, by decide +kernel, by decide +kernel⟩
theorem d_l_comers {G : Glob} (T : Tx G) : ∀ P E, JSs (ctxOf G ["_law_lore_here", "_law_gone", "_law_here", "_law_is_more", "_law_more", "_law_start", "_law_end", "_law_house"] (defScope s_l_comers) 0 P E) (gam0 8) (gam0 8) (gam0 8) (defBody s_l_comers) B_l_comers := fun P E =>
  (jss_cons (js_parT 2 3 (JX.fe (jf_lst (ja_cons (je_dget (JX.v (je_var 0 rfl (vis_of rfl) rfl)) (JX.v je_str)) ja_nil))) je_bl (fun _ => fits_sh) (fun _ => fits_sh) rfl rfl (loc_of rfl) (loc_of rfl) (by kernel_rfl)) (jss_cons (js_while (jt_val (JX.v (je_var 3 rfl (vis_of rfl) rfl))) (jss_cons (js_setLc (own := [("_law_start", 5), ("_law_end", 6)]) 4 (jiv_seq (JX.v (je_dget (JX.v (je_var 0 rfl (vis_of rfl) rfl)) (JX.v je_str)))) (blk_of (by kernel_rfl)) (jg_tup (n := 2) (jgs_cons (jg_name 5 rfl (loc_of rfl) rfl) (jgs_cons (jg_name 6 rfl (loc_of rfl) rfl) jgs_nil))) (jts_one (JW.jt (jw_and (jt_in (JX.v (je_var 6 rfl (vis_of rfl) rfl)) (JX.v (je_var 2 rfl (vis_of rfl) rfl))) (jw_and (jt_notIn (JX.v (je_var 5 rfl (vis_of rfl) rfl)) (JX.v (je_var 2 rfl (vis_of rfl) rfl))) (jw_and1 (jt_notIn (JX.v (je_var 5 rfl (vis_of rfl) rfl)) (JX.v (je_var 1 rfl (vis_of rfl) rfl)))))))) (je_var 5 rfl (vis_of rfl) rfl) rfl rfl (fun _ h => h.swp (by kernel_rfl))) (jss_cons (js_set 2 (fun _ => fits_sh) (JX.fe (jf_cat (JX.v (je_var 2 rfl (vis_of rfl) rfl)) (JX.fv (jf_slice (jv_var 4 rfl (vis_of rfl) (by decide)) jo_none (jo_some (JX.v je_int)))))) rfl (loc_of rfl)) (jss_thaw 4 (jss_one (js_set 3 (fun _ => fits_sh) (je_ne (jv_var 4 rfl (vis_of rfl) (by decide)) (JX.fv (jf_lst ja_nil))) rfl (loc_of rfl))))))) (jss_one (js_ret (JX.fe (jf_lc (own := [("_law_house", 7)]) (jiv_seq (JX.v (je_dget (JX.v (je_var 0 rfl (vis_of rfl) rfl)) (JX.v je_str)))) (blk_of (by kernel_rfl)) (jg_name 7 rfl (loc_of rfl) rfl) (jts_one (jt_in (JX.v (je_var 7 rfl (vis_of rfl) rfl)) (JX.v (je_var 2 rfl (vis_of rfl) rfl)))) (je_var 7 rfl (vis_of rfl) rfl)))))))
abbrev s_l_home : Stmt := top 57
theorem sc_l_home : FnScope ["_law_lore_here"] ["_law_lore_here"] (defScope s_l_home) := ⟨rfl, rfl, rfl, by decide +kernel, rfl, by decide +kernel, by decide +kernel⟩
theorem d_l_home {G : Glob} (T : Tx G) (c_l_comers_2 : FnI G "_law_comers" 1 2 [] t_l_comers) : ∀ P E, JSs (ctxOf G ["_law_lore_here"] (defScope s_l_home) 1 P E) (gam0 1) (gam0 1) (gam0 1) (defBody s_l_home) B_l_home := fun P E =>
  (jss_one (js_ret (je_call c_l_comers_2 (Nat.le_of_ble_eq_true rfl) (ja_cons (je_var 0 rfl (vis_of rfl) rfl) (ja_cons (JX.fe (jf_lst ja_nil)) ja_nil)) rfl)))
abbrev s_is_one_of : Stmt := top 19
theorem sc_is_one_of : FnScope ["value", "some"] ["value", "some"] (defScope s_is_one_of) := ⟨rfl, rfl, rfl, by decide +kernel, rfl, by decide +kernel, by decide +kernel⟩
theorem d_is_one_of {G : Glob} (T : Tx G) : ∀ P E, JSs (ctxOf G ["value", "some"] (defScope s_is_one_of) 0 P E) (gam0 2) (gam0 2) (gam0 2) (defBody s_is_one_of) B_is_one_of := fun P E =>
  (jss_one (js_ret (je_and (je_isT (cs := []) kit_str (by decide) (by intro i hi; cases hi) rfl T.b_str btn_str (JX.v (je_var 0 rfl (vis_of rfl) rfl)) rfl T.b_isinstance) (je_one (je_in (JX.v (je_var 0 rfl (vis_of rfl) rfl)) (JX.v (je_var 1 rfl (vis_of rfl) rfl)))))))
abbrev s_Web_check_house : Stmt := inClass (top 33) 8
theorem sc_Web_check_house : FnScope ["self", "value"] ["self", "value"] (defScope s_Web_check_house) := ⟨rfl, rfl, rfl, by decide +kernel, rfl, by decide +kernel, by decide +kernel⟩
theorem d_Web_check_house {G : Glob} (T : Tx G) (c_is_one_of_2 : FnI G "is_one_of" 1 2 [] t_is_one_of) : ∀ P E, JSs (ctxOf G ["self", "value"] (defScope s_Web_check_house) 1 P E) (gam0 2) (gam0 2) (gam0 2) (defBody s_Web_check_house) B_Web_check_house := fun P E =>
  (jss_one (js_if (jt_not (jt_val (JX.v (je_call c_is_one_of_2 (Nat.le_of_ble_eq_true rfl) (ja_cons (je_var 1 rfl (vis_of rfl) rfl) (ja_cons (je_fldE (je_var 0 rfl (vis_of rfl) rfl) T.cls_Web T.sl_Web_own_houses) ja_nil)) rfl)))) (jss_one js_never) jss_nil))
abbrev s_Web_check_home : Stmt := inClass (top 33) 9
theorem sc_Web_check_home : FnScope ["self", "value"] ["self", "value"] (defScope s_Web_check_home) := ⟨rfl, rfl, rfl, by decide +kernel, rfl, by decide +kernel, by decide +kernel⟩
theorem d_Web_check_home {G : Glob} (T : Tx G) (m_Web_check_house_1 : MethI G 0 "check_house" 2 2 [] t_Web_check_house) : ∀ P E, JSs (ctxOf G ["self", "value"] (defScope s_Web_check_home) 2 P E) (gam0 2) (gam0 2) (gam0 2) (defBody s_Web_check_home) B_Web_check_home := fun P E =>
  (jss_cons (js_expr (je_meth _ m_Web_check_house_1 (Nat.le_of_ble_eq_true rfl) (je_var 0 rfl (vis_of rfl) rfl) (ja_cons (je_var 1 rfl (vis_of rfl) rfl) ja_nil) (by intro _; rfl))) (jss_one (js_if (jt_notIn (JX.v (je_var 1 rfl (vis_of rfl) rfl)) (JX.v (je_fldE (je_var 0 rfl (vis_of rfl) rfl) T.cls_Web T.sl_Web_own_home))) (jss_one js_never) jss_nil)))
abbrev s_houses_above : Stmt := top 39
theorem sc_houses_above : FnScope ["tree", "place", "found"] ["tree", "place"] (defScope s_houses_above) := ⟨rfl, rfl, rfl, by decide +kernel, rfl, by decide +kernel, by decide +kernel⟩
theorem d_houses_above {G : Glob} (T : Tx G) : ∀ P E, JSs (ctxOf G ["tree", "place", "found"] (defScope s_houses_above) 0 P E) (gam0 3) (gam0 3) (gam0 3) (defBody s_houses_above) B_houses_above := fun P E =>
  (jss_cons (js_set 2 (fun _ => fits_ol) (jf_lst ja_nil) rfl (loc_of rfl)) (jss_cons (js_while (jt_din (JX.v (je_get2 (je_var 0 rfl (vis_of rfl) rfl) (je_var 1 rfl (vis_of rfl) rfl) je_str)) (JX.v (je_var 0 rfl (vis_of rfl) rfl))) (jss_cons (js_set 1 (fun _ => fits_sh) (je_dget (JX.v (je_var 0 rfl (vis_of rfl) rfl)) (JX.v (je_var 1 rfl (vis_of rfl) rfl))) rfl (loc_of rfl)) (jss_one (js_append 2 (je_var 1 rfl (vis_of rfl) rfl) rfl (vis_of rfl) rfl)))) (jss_freeze 2 (jss_one (js_ret (je_var 2 rfl (vis_of rfl) rfl))))))
abbrev s_Web_home : Stmt := inClass (top 33) 6
theorem sc_Web_home : FnScope ["self"] ["self"] (defScope s_Web_home) := ⟨rfl, rfl, rfl, by decide +kernel, rfl, by decide +kernel, by decide +kernel⟩
theorem d_Web_home {G : Glob} (T : Tx G) : ∀ P E, JSs (ctxOf G ["self"] (defScope s_Web_home) 0 P E) (gam0 1) (gam0 1) (gam0 1) (defBody s_Web_home) B_Web_home := fun P E =>
  (jss_one (js_ret (je_fldE (je_var 0 rfl (vis_of rfl) rfl) T.cls_Web T.sl_Web_own_home)))
abbrev s_Web_gate : Stmt := inClass (top 33) 3
theorem sc_Web_gate : FnScope ["self"] ["self"] (defScope s_Web_gate) := ⟨rfl, rfl, rfl, by decide +kernel, rfl, by decide +kernel, by decide +kernel⟩
theorem d_Web_gate {G : Glob} (T : Tx G) : ∀ P E, JSs (ctxOf G ["self"] (defScope s_Web_gate) 0 P E) (gam0 1) (gam0 1) (gam0 1) (defBody s_Web_gate) B_Web_gate := fun P E =>
  (jss_one (js_ret (je_fldE (je_var 0 rfl (vis_of rfl) rfl) T.cls_Web T.sl_Web_own_gate)))
abbrev s_Web_lanes : Stmt := inClass (top 33) 5
theorem sc_Web_lanes : FnScope ["self"] ["self"] (defScope s_Web_lanes) := ⟨rfl, rfl, rfl, by decide +kernel, rfl, by decide +kernel, by decide +kernel⟩
theorem d_Web_lanes {G : Glob} (T : Tx G) : ∀ P E, JSs (ctxOf G ["self"] (defScope s_Web_lanes) 0 P E) (gam0 1) (gam0 1) (gam0 1) (defBody s_Web_lanes) B_Web_lanes := fun P E =>
  (jss_one (js_ret (je_fldE (je_var 0 rfl (vis_of rfl) rfl) T.cls_Web T.sl_Web_own_lanes)))
abbrev s_musts_by_house : Stmt := top 37
theorem sc_musts_by_house : FnScope ["web", "found", "gone", "some", "house"] ["web"] (defScope s_musts_by_house) := ⟨rfl, rfl, rfl, by decide +kernel, rfl, by decide +kernel, by decide +kernel⟩
theorem d_musts_by_house {G : Glob} (T : Tx G) (p_Web_home : PropI G 0 "home" 1 t_Web_home) (c_comers_3 : FnI G "comers" 1 3 [] t_comers) (p_Web_gate : PropI G 0 "gate" 1 t_Web_gate) (p_Web_lanes : PropI G 0 "lanes" 1 t_Web_lanes) : ∀ P E, JSs (ctxOf G ["web", "found", "gone", "some", "house"] (defScope s_musts_by_house) 2 P E) (gam0 5) (gam0 5) (gam0 5) (defBody s_musts_by_house) B_musts_by_house := fun P E =>
  (jss_cons (js_setDc 1 (fun _ => fits_odl) (jfdl_dcS (own := [("house", 4)]) (jiv_seq (JX.v (je_prop p_Web_home (Nat.le_of_ble_eq_true rfl) (je_var 0 rfl (vis_of rfl) rfl)))) (blk_of (by kernel_rfl)) (jg_name 4 rfl (loc_of rfl) rfl) jts_nil (je_var 4 rfl (vis_of rfl) rfl) (jf_lst ja_nil)) rfl rfl (fun _ h => h.swp (by kernel_rfl))) (jss_cons (js_for (ji_seq (je_prop p_Web_home (Nat.le_of_ble_eq_true rfl) (je_var 0 rfl (vis_of rfl) rfl))) (jg_name 2 rfl (loc_of rfl) rfl) (jss_cons (js_set 3 (fun _ => fits_sh) (je_call c_comers_3 (Nat.le_of_ble_eq_true rfl) (ja_cons (je_prop p_Web_lanes (Nat.le_of_ble_eq_true rfl) (je_var 0 rfl (vis_of rfl) rfl)) (ja_cons (je_prop p_Web_gate (Nat.le_of_ble_eq_true rfl) (je_var 0 rfl (vis_of rfl) rfl)) (ja_cons (je_tup (ja_cons (je_var 2 rfl (vis_of rfl) rfl) ja_nil)) ja_nil))) rfl) rfl (loc_of rfl)) (jss_one (js_for (ji_seq (je_prop p_Web_home (Nat.le_of_ble_eq_true rfl) (je_var 0 rfl (vis_of rfl) rfl))) (jg_name 4 rfl (loc_of rfl) rfl) (jss_one (js_if (JW.jt (jw_and (jt_ne (JX.v (je_var 4 rfl (vis_of rfl) rfl)) (JX.v (je_var 2 rfl (vis_of rfl) rfl))) (jw_and1 (jt_notIn (JX.v (je_var 4 rfl (vis_of rfl) rfl)) (JX.v (je_var 3 rfl (vis_of rfl) rfl)))))) (jss_one (js_dapp 1 (je_var 2 rfl (vis_of rfl) rfl) (JX.v (je_var 4 rfl (vis_of rfl) rfl)) rfl (vis_of rfl) rfl)) jss_nil)))))) (jss_freeze 1 (jss_one (js_ret (je_var 1 rfl (vis_of rfl) rfl))))))
abbrev s_tree_of : Stmt := top 38
theorem sc_tree_of : FnScope ["web", "rows", "found", "house", "some", "nearest", "must"] ["web"] (defScope s_tree_of) := ⟨rfl, rfl, rfl, by decide +kernel, rfl, by decide +kernel, by decide +kernel⟩
theorem d_tree_of {G : Glob} (T : Tx G) (c_musts_by_house_1 : FnI G "musts_by_house" 3 1 [] t_musts_by_house) (p_Web_gate : PropI G 0 "gate" 1 t_Web_gate) : ∀ P E, JSs (ctxOf G ["web", "rows", "found", "house", "some", "nearest", "must"] (defScope s_tree_of) 3 P E) (gam0 7) (gam0 7) (gam0 7) (defBody s_tree_of) B_tree_of := fun P E =>
  (jss_cons (js_parT 1 2 (je_call c_musts_by_house_1 (Nat.le_of_ble_eq_true rfl) (ja_cons (je_var 0 rfl (vis_of rfl) rfl) ja_nil) rfl) jfd_empty (fun _ => fits_sh) (fun _ => fits_od) rfl rfl (loc_of rfl) (loc_of rfl) (by kernel_rfl)) (jss_cons (js_lock (Γ' := [.sh, .sh, .od, .sh, .sh, .sh, .sh]) 1 (js_for (ji_itemsL 1 rfl (vis_of rfl) rfl) (jg_tup (n := 2) (jgs_cons (jg_name 3 rfl (loc_of rfl) rfl) (jgs_cons (jg_name 4 rfl (loc_of rfl) rfl) jgs_nil))) (jss_cons (js_setLc (own := [("must", 6)]) 5 (jiv_seq (JX.v (je_var 4 rfl (vis_of rfl) rfl))) (blk_of (by kernel_rfl)) (jg_name 6 rfl (loc_of rfl) rfl) (jts_one (jt_eq (JX.v (je_len (jav_cons (JX.v (je_dget (JX.v (je_varL 1 rfl (vis_of rfl) rfl)) (JX.v (je_var 6 rfl (vis_of rfl) rfl)))) jav_nil) rfl T.b_len)) (JX.v (je_sub (JX.v (je_len (jav_cons (JX.v (je_var 4 rfl (vis_of rfl) rfl)) jav_nil) rfl T.b_len)) (JX.v je_int))))) (je_var 6 rfl (vis_of rfl) rfl) rfl rfl (fun _ h => h.swp (by kernel_rfl))) (jss_thaw 5 (jss_one (js_dput 2 (jx_if (fun _ => elder_at) (jt_ne (JX.v (je_var 4 rfl (vis_of rfl) rfl)) (JX.fv (jf_lst ja_nil))) (je_idx (jv_var 5 rfl (vis_of rfl) (by decide)) (JX.v je_int)) (je_prop p_Web_gate (Nat.le_of_ble_eq_true rfl) (je_var 0 rfl (vis_of rfl) rfl))) (JX.v (je_var 3 rfl (vis_of rfl) rfl)) rfl (vis_of rfl) rfl))))) rfl rfl rfl rfl rfl (by decide)) (jss_freeze 2 (jss_one (js_ret (je_var 2 rfl (vis_of rfl) rfl))))))
abbrev s_musts : Stmt := top 40
theorem sc_musts : FnScope ["web", "house"] ["web", "house"] (defScope s_musts) := ⟨rfl, rfl, rfl, by decide +kernel, rfl, by decide +kernel, by decide +kernel⟩
theorem d_musts {G : Glob} (T : Tx G) (m_Web_check_home_1 : MethI G 0 "check_home" 3 2 [] t_Web_check_home) (c_houses_above_2 : FnI G "houses_above" 1 2 [] t_houses_above) (c_tree_of_1 : FnI G "tree_of" 4 1 [] t_tree_of) : ∀ P E, JSs (ctxOf G ["web", "house"] (defScope s_musts) 4 P E) (gam0 2) (gam0 2) (gam0 2) (defBody s_musts) B_musts := fun P E =>
  (jss_cons (js_expr (je_meth _ m_Web_check_home_1 (Nat.le_of_ble_eq_true rfl) (je_var 0 rfl (vis_of rfl) rfl) (ja_cons (je_var 1 rfl (vis_of rfl) rfl) ja_nil) (by intro _; rfl))) (jss_one (js_ret (je_tuple (jav_cons (JX.v (je_call c_houses_above_2 (Nat.le_of_ble_eq_true rfl) (ja_cons (je_call c_tree_of_1 (Nat.le_of_ble_eq_true rfl) (ja_cons (je_var 0 rfl (vis_of rfl) rfl) ja_nil) rfl) (ja_cons (je_var 1 rfl (vis_of rfl) rfl) ja_nil)) rfl)) jav_nil) rfl T.b_tuple))))
abbrev s_Web_houses : Stmt := inClass (top 33) 4
theorem sc_Web_houses : FnScope ["self"] ["self"] (defScope s_Web_houses) := ⟨rfl, rfl, rfl, by decide +kernel, rfl, by decide +kernel, by decide +kernel⟩
theorem d_Web_houses {G : Glob} (T : Tx G) : ∀ P E, JSs (ctxOf G ["self"] (defScope s_Web_houses) 0 P E) (gam0 1) (gam0 1) (gam0 1) (defBody s_Web_houses) B_Web_houses := fun P E =>
  (jss_one (js_ret (je_fldE (je_var 0 rfl (vis_of rfl) rfl) T.cls_Web T.sl_Web_own_houses)))
abbrev s_check_two : Stmt := top 41
theorem sc_check_two : FnScope ["web", "house", "other"] ["web", "house", "other"] (defScope s_check_two) := ⟨rfl, rfl, rfl, by decide +kernel, rfl, by decide +kernel, by decide +kernel⟩
theorem d_check_two {G : Glob} (T : Tx G) (m_Web_check_home_1 : MethI G 0 "check_home" 3 2 [] t_Web_check_home) (c_is_one_of_2 : FnI G "is_one_of" 1 2 [] t_is_one_of) (p_Web_houses : PropI G 0 "houses" 1 t_Web_houses) : ∀ P E, JSs (ctxOf G ["web", "house", "other"] (defScope s_check_two) 3 P E) (gam0 3) (gam0 3) (gam0 3) (defBody s_check_two) B_check_two := fun P E =>
  (jss_cons (js_expr (je_meth _ m_Web_check_home_1 (Nat.le_of_ble_eq_true rfl) (je_var 0 rfl (vis_of rfl) rfl) (ja_cons (je_var 1 rfl (vis_of rfl) rfl) ja_nil) (by intro _; rfl))) (jss_one (js_if (JW.jt (jw_or (jt_not (jt_val (JX.v (je_call c_is_one_of_2 (Nat.le_of_ble_eq_true rfl) (ja_cons (je_var 2 rfl (vis_of rfl) rfl) (ja_cons (je_prop p_Web_houses (Nat.le_of_ble_eq_true rfl) (je_var 0 rfl (vis_of rfl) rfl)) ja_nil)) rfl)))) (jw_or1 (jt_eq (JX.v (je_var 2 rfl (vis_of rfl) rfl)) (JX.v (je_var 1 rfl (vis_of rfl) rfl)))))) (jss_one js_never) jss_nil)))
abbrev s_Web_way_without : Stmt := inClass (top 33) 26
theorem sc_Web_way_without : FnScope ["self", "house", "gone", "found", "waiting", "at", "start", "end", "way"] ["self", "house", "gone"] (defScope s_Web_way_without) := ⟨rfl, rfl, rfl, by decide +kernel, rfl, by decide +kernel, by decide +kernel⟩
theorem d_Web_way_without {G : Glob} (T : Tx G) : ∀ P E, JSs (ctxOf G ["self", "house", "gone", "found", "waiting", "at", "start", "end", "way"] (defScope s_Web_way_without) 0 P E) (gam0 9) (gam0 9) (gam0 9) (defBody s_Web_way_without) B_Web_way_without := fun P E =>
  (jss_cons (js_par3 3 4 5 (jfd_disp (jp_cons (je_var 1 rfl (vis_of rfl) rfl) je_non jp_nil)) (jf_lst (ja_cons (je_var 1 rfl (vis_of rfl) rfl) ja_nil)) je_int (fun _ => fits_od) (fun _ => fits_ol) (fun _ => fits_sh) rfl rfl rfl (hw := by kernel_rfl) (hx := rfl) (hy := rfl) (hz := rfl)) (jss_cons (js_while (jt_lt (JX.v (je_var 5 rfl (vis_of rfl) rfl)) (JX.v (je_len (jav_cons (jv_var 4 rfl (vis_of rfl) (by decide)) jav_nil) rfl T.b_len))) (jss_cons (js_for (ji_seq (je_fldE (je_var 0 rfl (vis_of rfl) rfl) T.cls_Web T.sl_Web_own_lanes)) (jg_tup (n := 2) (jgs_cons (jg_name 6 rfl (loc_of rfl) rfl) (jgs_cons (jg_name 7 rfl (loc_of rfl) rfl) jgs_nil))) (jss_one (js_if (JW.jt (jw_and (jt_eq (JX.v (je_var 6 rfl (vis_of rfl) rfl)) (JX.v (je_idx (jv_var 4 rfl (vis_of rfl) (by decide)) (JX.v (je_var 5 rfl (vis_of rfl) rfl))))) (jw_and (jt_dnotIn (JX.v (je_var 7 rfl (vis_of rfl) rfl)) (jv_var 3 rfl (vis_of rfl) (by decide))) (jw_and1 (jt_notIn (JX.v (je_var 7 rfl (vis_of rfl) rfl)) (JX.v (je_var 2 rfl (vis_of rfl) rfl))))))) (jss_cons (js_dput 3 (je_idx (jv_var 4 rfl (vis_of rfl) (by decide)) (JX.v (je_var 5 rfl (vis_of rfl) rfl))) (JX.v (je_var 7 rfl (vis_of rfl) rfl)) rfl (vis_of rfl) rfl) (jss_one (js_append 4 (je_var 7 rfl (vis_of rfl) rfl) rfl (vis_of rfl) rfl))) jss_nil))) (jss_one (js_set 5 (fun _ => fits_sh) (je_add (JX.v (je_var 5 rfl (vis_of rfl) rfl)) (JX.v je_int)) rfl (loc_of rfl))))) (jss_cons (js_if (jt_dnotIn (JX.v (je_fldE (je_var 0 rfl (vis_of rfl) rfl) T.cls_Web T.sl_Web_own_gate)) (jv_var 3 rfl (vis_of rfl) (by decide))) (jss_one (js_ret je_non)) jss_nil) (jss_cons (js_set 8 (fun _ => fits_ol) (jf_lst (ja_cons (je_fldE (je_var 0 rfl (vis_of rfl) rfl) T.cls_Web T.sl_Web_own_gate) ja_nil)) rfl (loc_of rfl)) (jss_cons (js_while (jt_ne (JX.v (je_idx (jv_var 8 rfl (vis_of rfl) (by decide)) (JX.v (je_neg (JX.v je_int))))) (JX.v (je_var 1 rfl (vis_of rfl) rfl))) (jss_one (js_append 8 (je_dget (jv_var 3 rfl (vis_of rfl) (by decide)) (JX.v (je_idx (jv_var 8 rfl (vis_of rfl) (by decide)) (JX.v (je_neg (JX.v je_int)))))) rfl (vis_of rfl) rfl))) (jss_one (js_ret (je_tuple (jav_cons (JX.fv (jf_rev (jv_var 8 rfl (vis_of rfl) (by decide)))) jav_nil) rfl T.b_tuple))))))))
abbrev s_reached : Stmt := top 42
theorem sc_reached : FnScope ["web", "house", "gone", "found", "at", "start", "end"] ["web", "house", "gone"] (defScope s_reached) := ⟨rfl, rfl, rfl, by decide +kernel, rfl, by decide +kernel, by decide +kernel⟩
theorem d_reached {G : Glob} (T : Tx G) (p_Web_lanes : PropI G 0 "lanes" 1 t_Web_lanes) : ∀ P E, JSs (ctxOf G ["web", "house", "gone", "found", "at", "start", "end"] (defScope s_reached) 2 P E) (gam0 7) (gam0 7) (gam0 7) (defBody s_reached) B_reached := fun P E =>
  (jss_cons (js_par 3 4 (jf_lst (ja_cons (je_var 1 rfl (vis_of rfl) rfl) ja_nil)) je_int (fun _ => fits_ol) (fun _ => fits_sh) rfl rfl (hw := by kernel_rfl) (hx := rfl) (hy := rfl)) (jss_cons (js_while (jt_lt (JX.v (je_var 4 rfl (vis_of rfl) rfl)) (JX.v (je_len (jav_cons (jv_var 3 rfl (vis_of rfl) (by decide)) jav_nil) rfl T.b_len))) (jss_cons (js_for (ji_seq (je_prop p_Web_lanes (Nat.le_of_ble_eq_true rfl) (je_var 0 rfl (vis_of rfl) rfl))) (jg_tup (n := 2) (jgs_cons (jg_name 5 rfl (loc_of rfl) rfl) (jgs_cons (jg_name 6 rfl (loc_of rfl) rfl) jgs_nil))) (jss_one (js_if (JW.jt (jw_and (jt_eq (JX.v (je_var 5 rfl (vis_of rfl) rfl)) (JX.v (je_idx (jv_var 3 rfl (vis_of rfl) (by decide)) (JX.v (je_var 4 rfl (vis_of rfl) rfl))))) (jw_and (jt_ne (JX.v (je_var 6 rfl (vis_of rfl) rfl)) (JX.v (je_var 2 rfl (vis_of rfl) rfl))) (jw_and1 (jt_notIn (JX.v (je_var 6 rfl (vis_of rfl) rfl)) (jv_var 3 rfl (vis_of rfl) (by decide))))))) (jss_one (js_append 3 (je_var 6 rfl (vis_of rfl) rfl) rfl (vis_of rfl) rfl)) jss_nil))) (jss_one (js_set 4 (fun _ => fits_sh) (je_add (JX.v (je_var 4 rfl (vis_of rfl) rfl)) (JX.v je_int)) rfl (loc_of rfl))))) (jss_freeze 3 (jss_one (js_ret (je_var 3 rfl (vis_of rfl) rfl))))))
abbrev s_around : Stmt := top 43
theorem sc_around : FnScope ["web", "house", "other", "way", "some", "one"] ["web", "house", "other"] (defScope s_around) := ⟨rfl, rfl, rfl, by decide +kernel, rfl, by decide +kernel, by decide +kernel⟩
theorem d_around {G : Glob} (T : Tx G) (c_check_two_3 : FnI G "check_two" 4 3 [] t_check_two) (m_Web_way_without_2 : MethI G 0 "way_without" 1 3 [] t_Web_way_without) (c_reached_3 : FnI G "reached" 3 3 [] t_reached) (p_Web_houses : PropI G 0 "houses" 1 t_Web_houses) : ∀ P E, JSs (ctxOf G ["web", "house", "other", "way", "some", "one"] (defScope s_around) 4 P E) (gam0 6) (gam0 6) (gam0 6) (defBody s_around) B_around := fun P E =>
  (jss_cons (js_expr (je_call c_check_two_3 (Nat.le_of_ble_eq_true rfl) (ja_cons (je_var 0 rfl (vis_of rfl) rfl) (ja_cons (je_var 1 rfl (vis_of rfl) rfl) (ja_cons (je_var 2 rfl (vis_of rfl) rfl) ja_nil))) rfl)) (jss_cons (js_set 3 (fun _ => fits_sh) (je_meth _ m_Web_way_without_2 (Nat.le_of_ble_eq_true rfl) (je_var 0 rfl (vis_of rfl) rfl) (ja_cons (je_var 1 rfl (vis_of rfl) rfl) (ja_cons (je_tup (ja_cons (je_var 2 rfl (vis_of rfl) rfl) ja_nil)) ja_nil)) (by intro _; rfl)) rfl (loc_of rfl)) (jss_cons (js_if (jt_notN (JX.v (je_var 3 rfl (vis_of rfl) rfl)) (JX.v je_non)) (jss_one (js_ret (je_tup (ja_cons (je_gstr (z := "around") rfl T.g_AROUND) (ja_cons (je_var 3 rfl (vis_of rfl) rfl) ja_nil))))) jss_nil) (jss_cons (js_set 4 (fun _ => fits_sh) (je_call c_reached_3 (Nat.le_of_ble_eq_true rfl) (ja_cons (je_var 0 rfl (vis_of rfl) rfl) (ja_cons (je_var 1 rfl (vis_of rfl) rfl) (ja_cons (je_var 2 rfl (vis_of rfl) rfl) ja_nil))) rfl) rfl (loc_of rfl)) (jss_one (js_ret (je_tup (ja_cons (je_gstr (z := "must") rfl T.g_MUST) (ja_cons (je_tuple (jav_cons (JX.fv (jf_lc (own := [("one", 5)]) (jiv_seq (JX.v (je_prop p_Web_houses (Nat.le_of_ble_eq_true rfl) (je_var 0 rfl (vis_of rfl) rfl)))) (blk_of (by kernel_rfl)) (jg_name 5 rfl (loc_of rfl) rfl) (jts_one (jt_in (JX.v (je_var 5 rfl (vis_of rfl) rfl)) (JX.v (je_var 4 rfl (vis_of rfl) rfl)))) (je_var 5 rfl (vis_of rfl) rfl))) jav_nil) rfl T.b_tuple) ja_nil)))))))))
abbrev s_l_is_way : Stmt := top 58
theorem sc_l_is_way : FnScope ["_law_lore_here", "_law_house", "_law_value", "_law_one", "_law_step"] ["_law_lore_here", "_law_house", "_law_value"] (defScope s_l_is_way) := ⟨rfl, rfl, rfl, by decide +kernel, rfl, by decide +kernel, by decide +kernel⟩
theorem d_l_is_way {G : Glob} (T : Tx G) : ∀ P E, JSs (ctxOf G ["_law_lore_here", "_law_house", "_law_value", "_law_one", "_law_step"] (defScope s_l_is_way) 0 P E) (gam0 5) (gam0 5) (gam0 5) (defBody s_l_is_way) B_l_is_way := fun P E =>
  (jss_cons (js_if (JW.jt (jw_or (jt_not (jt_val (JX.v (je_isT (cs := []) kit_tuple (by decide) (by intro i hi; cases hi) rfl T.b_tuple btn_tuple (JX.v (je_var 2 rfl (vis_of rfl) rfl)) rfl T.b_isinstance)))) (jw_or (jt_lt (JX.v (je_len (jav_cons (JX.v (je_var 2 rfl (vis_of rfl) rfl)) jav_nil) rfl T.b_len)) (JX.v je_int)) (jw_or1 (jt_not (jt_val (JX.v (je_all (jav_cons (JX.fv (jf_lc (own := [("_law_one", 3)]) (jiv_seq (JX.v (je_var 2 rfl (vis_of rfl) rfl))) (blk_of (by kernel_rfl)) (jg_name 3 rfl (loc_of rfl) rfl) jts_nil (je_isT (cs := []) kit_str (by decide) (by intro i hi; cases hi) rfl T.b_str btn_str (JX.v (je_var 3 rfl (vis_of rfl) rfl)) rfl T.b_isinstance))) jav_nil) rfl T.b_all)))))))) (jss_one (js_ret je_bl)) jss_nil) (jss_cons (js_if (JW.jt (jw_or (jt_ne (JX.v (je_idx (JX.v (je_var 2 rfl (vis_of rfl) rfl)) (JX.v je_int))) (JX.v (je_var 1 rfl (vis_of rfl) rfl))) (jw_or (jt_ne (JX.v (je_idx (JX.v (je_var 2 rfl (vis_of rfl) rfl)) (JX.v (je_neg (JX.v je_int))))) (JX.v (je_dget (JX.v (je_var 0 rfl (vis_of rfl) rfl)) (JX.v je_str)))) (jw_or1 (jt_ne (JX.v (je_lenSet (JX.v (je_var 2 rfl (vis_of rfl) rfl)) rfl T.b_len rfl T.b_set)) (JX.v (je_len (jav_cons (JX.v (je_var 2 rfl (vis_of rfl) rfl)) jav_nil) rfl T.b_len))))))) (jss_one (js_ret je_bl)) jss_nil) (jss_one (js_ret (je_all (jav_cons (JX.fv (jf_lc (own := [("_law_step", 4)]) (jiv_zipN (jav_cons (JX.v (je_var 2 rfl (vis_of rfl) rfl)) (jav_cons (JX.v (je_sliceT (JX.v (je_var 2 rfl (vis_of rfl) rfl)) (jo_some (JX.v je_int)) jo_none)) jav_nil)) rfl T.b_zip) (blk_of (by kernel_rfl)) (jg_name 4 rfl (loc_of rfl) rfl) jts_nil (je_in (JX.v (je_var 4 rfl (vis_of rfl) rfl)) (JX.v (je_dget (JX.v (je_var 0 rfl (vis_of rfl) rfl)) (JX.v je_str)))))) jav_nil) rfl T.b_all)))))
abbrev s_l_is_lot : Stmt := top 59
theorem sc_l_is_lot : FnScope ["_law_lore_here", "_law_house", "_law_other", "_law_value", "_law_one", "_law_start", "_law_end"] ["_law_lore_here", "_law_house", "_law_other", "_law_value"] (defScope s_l_is_lot) := ⟨rfl, rfl, rfl, by decide +kernel, rfl, by decide +kernel, by decide +kernel⟩
theorem d_l_is_lot {G : Glob} (T : Tx G) : ∀ P E, JSs (ctxOf G ["_law_lore_here", "_law_house", "_law_other", "_law_value", "_law_one", "_law_start", "_law_end"] (defScope s_l_is_lot) 0 P E) (gam0 7) (gam0 7) (gam0 7) (defBody s_l_is_lot) B_l_is_lot := fun P E =>
  (jss_cons (js_if (JW.jt (jw_or (jt_not (jt_val (JX.v (je_isT (cs := []) kit_tuple (by decide) (by intro i hi; cases hi) rfl T.b_tuple btn_tuple (JX.v (je_var 3 rfl (vis_of rfl) rfl)) rfl T.b_isinstance)))) (jw_or1 (jt_not (jt_val (JX.v (je_all (jav_cons (JX.fv (jf_lc (own := [("_law_one", 4)]) (jiv_seq (JX.v (je_var 3 rfl (vis_of rfl) rfl))) (blk_of (by kernel_rfl)) (jg_name 4 rfl (loc_of rfl) rfl) jts_nil (je_isT (cs := []) kit_str (by decide) (by intro i hi; cases hi) rfl T.b_str btn_str (JX.v (je_var 4 rfl (vis_of rfl) rfl)) rfl T.b_isinstance))) jav_nil) rfl T.b_all))))))) (jss_one (js_ret je_bl)) jss_nil) (jss_cons (js_if (JW.jt (jw_or (jt_ne (JX.fv (jf_list (jav_cons (JX.v (je_var 3 rfl (vis_of rfl) rfl)) jav_nil) rfl T.b_list)) (JX.fv (jf_lc (own := [("_law_one", 4)]) (jiv_seq (JX.v (je_dget (JX.v (je_var 0 rfl (vis_of rfl) rfl)) (JX.v je_str)))) (blk_of (by kernel_rfl)) (jg_name 4 rfl (loc_of rfl) rfl) (jts_one (jt_in (JX.v (je_var 4 rfl (vis_of rfl) rfl)) (JX.v (je_var 3 rfl (vis_of rfl) rfl)))) (je_var 4 rfl (vis_of rfl) rfl)))) (jw_or (jt_notIn (JX.v (je_var 1 rfl (vis_of rfl) rfl)) (JX.v (je_var 3 rfl (vis_of rfl) rfl))) (jw_or1 (jt_in (JX.v (je_var 2 rfl (vis_of rfl) rfl)) (JX.v (je_var 3 rfl (vis_of rfl) rfl))))))) (jss_one (js_ret je_bl)) jss_nil) (jss_one (js_ret (je_all (jav_cons (JX.fv (jf_lc (own := [("_law_start", 5), ("_law_end", 6)]) (jiv_seq (JX.v (je_dget (JX.v (je_var 0 rfl (vis_of rfl) rfl)) (JX.v je_str)))) (blk_of (by kernel_rfl)) (jg_tup (n := 2) (jgs_cons (jg_name 5 rfl (loc_of rfl) rfl) (jgs_cons (jg_name 6 rfl (loc_of rfl) rfl) jgs_nil))) (jts_one (jt_in (JX.v (je_var 5 rfl (vis_of rfl) rfl)) (JX.v (je_var 3 rfl (vis_of rfl) rfl)))) (je_or (je_eq (JX.v (je_var 6 rfl (vis_of rfl) rfl)) (JX.v (je_var 2 rfl (vis_of rfl) rfl))) (je_one (je_in (JX.v (je_var 6 rfl (vis_of rfl) rfl)) (JX.v (je_var 3 rfl (vis_of rfl) rfl))))))) jav_nil) rfl T.b_all)))))
abbrev s_l_is_due : Stmt := top 60
theorem sc_l_is_due : FnScope ["_law_lore_here", "_law_house", "_law_other", "_law_value"] ["_law_lore_here", "_law_house", "_law_other", "_law_value"] (defScope s_l_is_due) := ⟨rfl, rfl, rfl, by decide +kernel, rfl, by decide +kernel, by decide +kernel⟩
theorem d_l_is_due {G : Glob} (T : Tx G) (c_l_is_way_3 : FnI G "_law_is_way" 1 3 [] t_l_is_way) (c_l_is_lot_4 : FnI G "_law_is_lot" 1 4 [] t_l_is_lot) : ∀ P E, JSs (ctxOf G ["_law_lore_here", "_law_house", "_law_other", "_law_value"] (defScope s_l_is_due) 1 P E) (gam0 4) (gam0 4) (gam0 4) (defBody s_l_is_due) B_l_is_due := fun P E =>
  (jss_cons (js_if (JW.jt (jw_or (jt_not (jt_val (JX.v (je_isT (cs := []) kit_tuple (by decide) (by intro i hi; cases hi) rfl T.b_tuple btn_tuple (JX.v (je_var 3 rfl (vis_of rfl) rfl)) rfl T.b_isinstance)))) (jw_or (jt_ne (JX.v (je_len (jav_cons (JX.v (je_var 3 rfl (vis_of rfl) rfl)) jav_nil) rfl T.b_len)) (JX.v je_int)) (jw_or1 (jt_not (jt_val (JX.v (je_isT (cs := []) kit_str (by decide) (by intro i hi; cases hi) rfl T.b_str btn_str (JX.v (je_idx (JX.v (je_var 3 rfl (vis_of rfl) rfl)) (JX.v je_int))) rfl T.b_isinstance)))))))) (jss_one (js_ret je_bl)) jss_nil) (jss_cons (js_if (jt_eq (JX.v (je_idx (JX.v (je_var 3 rfl (vis_of rfl) rfl)) (JX.v je_int))) (JX.v je_str)) (jss_one (js_ret (je_and (je_call c_l_is_way_3 (Nat.le_of_ble_eq_true rfl) (ja_cons (je_var 0 rfl (vis_of rfl) rfl) (ja_cons (je_var 1 rfl (vis_of rfl) rfl) (ja_cons (je_idx (JX.v (je_var 3 rfl (vis_of rfl) rfl)) (JX.v je_int)) ja_nil))) rfl) (je_one (je_notIn (JX.v (je_var 2 rfl (vis_of rfl) rfl)) (JX.v (je_idx (JX.v (je_var 3 rfl (vis_of rfl) rfl)) (JX.v je_int)))))))) jss_nil) (jss_one (js_ret (je_and (je_eq (JX.v (je_idx (JX.v (je_var 3 rfl (vis_of rfl) rfl)) (JX.v je_int))) (JX.v je_str)) (je_one (je_call c_l_is_lot_4 (Nat.le_of_ble_eq_true rfl) (ja_cons (je_var 0 rfl (vis_of rfl) rfl) (ja_cons (je_var 1 rfl (vis_of rfl) rfl) (ja_cons (je_var 2 rfl (vis_of rfl) rfl) (ja_cons (je_idx (JX.v (je_var 3 rfl (vis_of rfl) rfl)) (JX.v je_int)) ja_nil)))) rfl)))))))
abbrev s_is_tuple : Stmt := top 17
theorem sc_is_tuple : FnScope ["value", "least", "most"] ["value", "least", "most"] (defScope s_is_tuple) := ⟨rfl, rfl, rfl, by decide +kernel, rfl, by decide +kernel, by decide +kernel⟩
theorem d_is_tuple {G : Glob} (T : Tx G) : ∀ P E, JSs (ctxOf G ["value", "least", "most"] (defScope s_is_tuple) 0 P E) (gam0 3) (gam0 3) (gam0 3) (defBody s_is_tuple) B_is_tuple := fun P E =>
  (jss_cons (js_if (JW.jt (jw_or (jt_not (jt_val (JX.v (je_isT (cs := []) kit_tuple (by decide) (by intro i hi; cases hi) rfl T.b_tuple btn_tuple (JX.v (je_var 0 rfl (vis_of rfl) rfl)) rfl T.b_isinstance)))) (jw_or1 (jt_lt (JX.v (je_len (jav_cons (JX.v (je_var 0 rfl (vis_of rfl) rfl)) jav_nil) rfl T.b_len)) (JX.v (je_var 1 rfl (vis_of rfl) rfl)))))) (jss_one (js_ret je_bl)) jss_nil) (jss_one (js_ret (je_or (je_isN (JX.v (je_var 2 rfl (vis_of rfl) rfl)) (JX.v je_non)) (je_one (je_le (JX.v (je_len (jav_cons (JX.v (je_var 0 rfl (vis_of rfl) rfl)) jav_nil) rfl T.b_len)) (JX.v (je_var 2 rfl (vis_of rfl) rfl))))))))
abbrev s_are_strings : Stmt := top 20
theorem sc_are_strings : FnScope ["value", "one"] ["value"] (defScope s_are_strings) := ⟨rfl, rfl, rfl, by decide +kernel, rfl, by decide +kernel, by decide +kernel⟩
theorem d_are_strings {G : Glob} (T : Tx G) : ∀ P E, JSs (ctxOf G ["value", "one"] (defScope s_are_strings) 0 P E) (gam0 2) (gam0 2) (gam0 2) (defBody s_are_strings) B_are_strings := fun P E =>
  (jss_one (js_ret (je_and (je_isT (cs := []) kit_tuple (by decide) (by intro i hi; cases hi) rfl T.b_tuple btn_tuple (JX.v (je_var 0 rfl (vis_of rfl) rfl)) rfl T.b_isinstance) (je_one (je_all (jav_cons (JX.fv (jf_lc (own := [("one", 1)]) (jiv_seq (JX.v (je_var 0 rfl (vis_of rfl) rfl))) (blk_of (by kernel_rfl)) (jg_name 1 rfl (loc_of rfl) rfl) jts_nil (je_isT (cs := []) kit_str (by decide) (by intro i hi; cases hi) rfl T.b_str btn_str (JX.v (je_var 1 rfl (vis_of rfl) rfl)) rfl T.b_isinstance))) jav_nil) rfl T.b_all)))))
abbrev s_Web_is_way : Stmt := inClass (top 33) 25
theorem sc_Web_is_way : FnScope ["self", "house", "value", "step"] ["self", "house", "value"] (defScope s_Web_is_way) := ⟨rfl, rfl, rfl, by decide +kernel, rfl, by decide +kernel, by decide +kernel⟩
theorem d_Web_is_way {G : Glob} (T : Tx G) (m_Web_check_house_1 : MethI G 0 "check_house" 2 2 [] t_Web_check_house) (c_are_strings_1 : FnI G "are_strings" 1 1 [] t_are_strings) : ∀ P E, JSs (ctxOf G ["self", "house", "value", "step"] (defScope s_Web_is_way) 2 P E) (gam0 4) (gam0 4) (gam0 4) (defBody s_Web_is_way) B_Web_is_way := fun P E =>
  (jss_cons (js_expr (je_meth _ m_Web_check_house_1 (Nat.le_of_ble_eq_true rfl) (je_var 0 rfl (vis_of rfl) rfl) (ja_cons (je_var 1 rfl (vis_of rfl) rfl) ja_nil) (by intro _; rfl))) (jss_cons (js_if (JW.jt (jw_or (jt_not (jt_val (JX.v (je_call c_are_strings_1 (Nat.le_of_ble_eq_true rfl) (ja_cons (je_var 2 rfl (vis_of rfl) rfl) ja_nil) rfl)))) (jw_or (jt_lt (JX.v (je_len (jav_cons (JX.v (je_var 2 rfl (vis_of rfl) rfl)) jav_nil) rfl T.b_len)) (JX.v (je_gint (z := 2) rfl T.g_PAIR))) (jw_or1 (jt_lt (JX.v (je_lenSet (JX.v (je_var 2 rfl (vis_of rfl) rfl)) rfl T.b_len rfl T.b_set)) (JX.v (je_len (jav_cons (JX.v (je_var 2 rfl (vis_of rfl) rfl)) jav_nil) rfl T.b_len))))))) (jss_one (js_ret je_bl)) jss_nil) (jss_cons (js_if (JW.jt (jw_or (jt_ne (JX.v (je_idx (JX.v (je_var 2 rfl (vis_of rfl) rfl)) (JX.v je_int))) (JX.v (je_var 1 rfl (vis_of rfl) rfl))) (jw_or1 (jt_ne (JX.v (je_idx (JX.v (je_var 2 rfl (vis_of rfl) rfl)) (JX.v (je_neg (JX.v je_int))))) (JX.v (je_fldE (je_var 0 rfl (vis_of rfl) rfl) T.cls_Web T.sl_Web_own_gate)))))) (jss_one (js_ret je_bl)) jss_nil) (jss_one (js_ret (je_all (jav_cons (JX.fv (jf_lc (own := [("step", 3)]) (jiv_zipN (jav_cons (JX.v (je_var 2 rfl (vis_of rfl) rfl)) (jav_cons (JX.v (je_sliceT (JX.v (je_var 2 rfl (vis_of rfl) rfl)) (jo_some (JX.v je_int)) jo_none)) jav_nil)) rfl T.b_zip) (blk_of (by kernel_rfl)) (jg_name 3 rfl (loc_of rfl) rfl) jts_nil (je_in (JX.v (je_var 3 rfl (vis_of rfl) rfl)) (JX.v (je_fldE (je_var 0 rfl (vis_of rfl) rfl) T.cls_Web T.sl_Web_own_lanes))))) jav_nil) rfl T.b_all))))))
abbrev s_is_in_sequence : Stmt := top 21
theorem sc_is_in_sequence : FnScope ["some", "every", "one"] ["some", "every"] (defScope s_is_in_sequence) := ⟨rfl, rfl, rfl, by decide +kernel, rfl, by decide +kernel, by decide +kernel⟩
theorem d_is_in_sequence {G : Glob} (T : Tx G) : ∀ P E, JSs (ctxOf G ["some", "every", "one"] (defScope s_is_in_sequence) 0 P E) (gam0 3) (gam0 3) (gam0 3) (defBody s_is_in_sequence) B_is_in_sequence := fun P E =>
  (jss_one (js_ret (je_and (je_all (jav_cons (JX.fv (jf_lc (own := [("one", 2)]) (jiv_seq (JX.v (je_var 0 rfl (vis_of rfl) rfl))) (blk_of (by kernel_rfl)) (jg_name 2 rfl (loc_of rfl) rfl) jts_nil (je_in (JX.v (je_var 2 rfl (vis_of rfl) rfl)) (JX.v (je_var 1 rfl (vis_of rfl) rfl))))) jav_nil) rfl T.b_all) (je_one (je_eq (JX.fv (jf_list (jav_cons (JX.v (je_var 0 rfl (vis_of rfl) rfl)) jav_nil) rfl T.b_list)) (JX.fv (jf_lc (own := [("one", 2)]) (jiv_seq (JX.v (je_var 1 rfl (vis_of rfl) rfl))) (blk_of (by kernel_rfl)) (jg_name 2 rfl (loc_of rfl) rfl) (jts_one (jt_in (JX.v (je_var 2 rfl (vis_of rfl) rfl)) (JX.v (je_var 0 rfl (vis_of rfl) rfl)))) (je_var 2 rfl (vis_of rfl) rfl))))))))
abbrev s_shows_around : Stmt := top 44
theorem sc_shows_around : FnScope ["web", "house", "other", "value", "word", "some", "start", "end"] ["web", "house", "other", "value"] (defScope s_shows_around) := ⟨rfl, rfl, rfl, by decide +kernel, rfl, by decide +kernel, by decide +kernel⟩
theorem d_shows_around {G : Glob} (T : Tx G) (c_check_two_3 : FnI G "check_two" 4 3 [] t_check_two) (c_is_tuple_3 : FnI G "is_tuple" 1 3 [] t_is_tuple) (c_is_one_of_2 : FnI G "is_one_of" 1 2 [] t_is_one_of) (m_Web_is_way_2 : MethI G 0 "is_way" 3 3 [] t_Web_is_way) (c_are_strings_1 : FnI G "are_strings" 1 1 [] t_are_strings) (c_is_in_sequence_2 : FnI G "is_in_sequence" 1 2 [] t_is_in_sequence) (p_Web_houses : PropI G 0 "houses" 1 t_Web_houses) (p_Web_lanes : PropI G 0 "lanes" 1 t_Web_lanes) : ∀ P E, JSs (ctxOf G ["web", "house", "other", "value", "word", "some", "start", "end"] (defScope s_shows_around) 4 P E) (gam0 8) (gam0 8) (gam0 8) (defBody s_shows_around) B_shows_around := fun P E =>
  (jss_cons (js_expr (je_call c_check_two_3 (Nat.le_of_ble_eq_true rfl) (ja_cons (je_var 0 rfl (vis_of rfl) rfl) (ja_cons (je_var 1 rfl (vis_of rfl) rfl) (ja_cons (je_var 2 rfl (vis_of rfl) rfl) ja_nil))) rfl)) (jss_cons (js_if (JW.jt (jw_or (jt_not (jt_val (JX.v (je_call c_is_tuple_3 (Nat.le_of_ble_eq_true rfl) (ja_cons (je_var 3 rfl (vis_of rfl) rfl) (ja_cons (je_gint (z := 2) rfl T.g_PAIR) (ja_cons (je_gint (z := 2) rfl T.g_PAIR) ja_nil))) rfl)))) (jw_or1 (jt_not (jt_val (JX.v (je_call c_is_one_of_2 (Nat.le_of_ble_eq_true rfl) (ja_cons (je_idx (JX.v (je_var 3 rfl (vis_of rfl) rfl)) (JX.v je_int)) (ja_cons (je_tup (ja_cons (je_gstr (z := "around") rfl T.g_AROUND) (ja_cons (je_gstr (z := "must") rfl T.g_MUST) ja_nil))) ja_nil)) rfl))))))) (jss_one (js_ret je_bl)) jss_nil) (jss_cons (js_tgt (je_var 3 rfl (vis_of rfl) rfl) (jg_tup (n := 2) (jgs_cons (jg_name 4 rfl (loc_of rfl) rfl) (jgs_cons (jg_name 5 rfl (loc_of rfl) rfl) jgs_nil))) (hw := by kernel_rfl)) (jss_cons (js_if (jt_eq (JX.v (je_var 4 rfl (vis_of rfl) rfl)) (JX.v (je_gstr (z := "around") rfl T.g_AROUND))) (jss_one (js_ret (je_and (je_meth _ m_Web_is_way_2 (Nat.le_of_ble_eq_true rfl) (je_var 0 rfl (vis_of rfl) rfl) (ja_cons (je_var 1 rfl (vis_of rfl) rfl) (ja_cons (je_var 5 rfl (vis_of rfl) rfl) ja_nil)) (by intro _; rfl)) (je_one (je_notIn (JX.v (je_var 2 rfl (vis_of rfl) rfl)) (JX.v (je_var 5 rfl (vis_of rfl) rfl))))))) jss_nil) (jss_cons (js_if (JW.jt (jw_or (jt_not (jt_val (JX.v (je_call c_are_strings_1 (Nat.le_of_ble_eq_true rfl) (ja_cons (je_var 5 rfl (vis_of rfl) rfl) ja_nil) rfl)))) (jw_or (jt_not (jt_val (JX.v (je_call c_is_in_sequence_2 (Nat.le_of_ble_eq_true rfl) (ja_cons (je_var 5 rfl (vis_of rfl) rfl) (ja_cons (je_prop p_Web_houses (Nat.le_of_ble_eq_true rfl) (je_var 0 rfl (vis_of rfl) rfl)) ja_nil)) rfl)))) (jw_or (jt_notIn (JX.v (je_var 1 rfl (vis_of rfl) rfl)) (JX.v (je_var 5 rfl (vis_of rfl) rfl))) (jw_or1 (jt_in (JX.v (je_var 2 rfl (vis_of rfl) rfl)) (JX.v (je_var 5 rfl (vis_of rfl) rfl)))))))) (jss_one (js_ret je_bl)) jss_nil) (jss_one (js_ret (je_all (jav_cons (JX.fv (jf_lc (own := [("start", 6), ("end", 7)]) (jiv_seq (JX.v (je_prop p_Web_lanes (Nat.le_of_ble_eq_true rfl) (je_var 0 rfl (vis_of rfl) rfl)))) (blk_of (by kernel_rfl)) (jg_tup (n := 2) (jgs_cons (jg_name 6 rfl (loc_of rfl) rfl) (jgs_cons (jg_name 7 rfl (loc_of rfl) rfl) jgs_nil))) (jts_one (jt_in (JX.v (je_var 6 rfl (vis_of rfl) rfl)) (JX.v (je_var 5 rfl (vis_of rfl) rfl)))) (je_or (je_eq (JX.v (je_var 7 rfl (vis_of rfl) rfl)) (JX.v (je_var 2 rfl (vis_of rfl) rfl))) (je_one (je_in (JX.v (je_var 7 rfl (vis_of rfl) rfl)) (JX.v (je_var 5 rfl (vis_of rfl) rfl))))))) jav_nil) rfl T.b_all))))))))
abbrev s_l_right : Stmt := top 61
theorem sc_l_right : FnScope ["_law_pot_here", "_law_lore_here", "_law_web", "_law_home_here", "_law_left", "_law_house", "_law_passed", "_law_other", "_law_told", "_law_one"] ["_law_pot_here"] (defScope s_l_right) := ⟨rfl, rfl, rfl, by decide +kernel, rfl, by decide +kernel, by decide +kernel⟩
theorem d_l_right {G : Glob} (T : Tx G) (c_l_lore_3 : FnI G "_law_lore" 5 3 [] t_l_lore) (mk_Web_1 : MkI G "Web" 0 4 1 [] t_Web_init) (c_l_text_1 : FnI G "_law_text" 2 1 [] t_l_text) (c_l_home_1 : FnI G "_law_home" 2 1 [] t_l_home) (c_l_comers_2 : FnI G "_law_comers" 1 2 [] t_l_comers) (c_musts_2 : FnI G "musts" 5 2 [] t_musts) (c_around_3 : FnI G "around" 5 3 [] t_around) (c_l_is_due_4 : FnI G "_law_is_due" 2 4 [] t_l_is_due) (c_shows_around_4 : FnI G "shows_around" 5 4 [] t_shows_around) : ∀ P E, JSs (ctxOf G ["_law_pot_here", "_law_lore_here", "_law_web", "_law_home_here", "_law_left", "_law_house", "_law_passed", "_law_other", "_law_told", "_law_one"] (defScope s_l_right) 5 P E) (gam0 10) (gam0 10) (gam0 10) (defBody s_l_right) B_l_right := fun P E =>
  (jss_cons (js_set 1 (fun _ => fits_sh) (je_call c_l_lore_3 (Nat.le_of_ble_eq_true rfl) (ja_cons (je_var 0 rfl (vis_of rfl) rfl) (ja_cons je_int (ja_cons je_int ja_nil))) rfl) rfl (loc_of rfl)) (jss_cons (js_set 2 (fun _ => fits_sh) (je_make mk_Web_1 (Nat.le_of_ble_eq_true rfl) (ja_cons (je_call c_l_text_1 (Nat.le_of_ble_eq_true rfl) (ja_cons (je_var 1 rfl (vis_of rfl) rfl) ja_nil) rfl) ja_nil) rfl) rfl (loc_of rfl)) (jss_cons (js_set 3 (fun _ => fits_sh) (je_call c_l_home_1 (Nat.le_of_ble_eq_true rfl) (ja_cons (je_var 1 rfl (vis_of rfl) rfl) ja_nil) rfl) rfl (loc_of rfl)) (jss_cons (js_set 4 (fun _ => fits_sh) (JX.fde (jfd_dict (jav_cons (JX.fv (jf_lc (own := [("_law_other", 7)]) (jiv_seq (JX.v (je_dget (JX.v (je_var 1 rfl (vis_of rfl) rfl)) (JX.v je_str)))) (blk_of (by kernel_rfl)) (jg_name 7 rfl (loc_of rfl) rfl) jts_nil (je_tup (ja_cons (je_var 7 rfl (vis_of rfl) rfl) (ja_cons (je_call c_l_comers_2 (Nat.le_of_ble_eq_true rfl) (ja_cons (je_var 1 rfl (vis_of rfl) rfl) (ja_cons (JX.fe (jf_lst (ja_cons (je_var 7 rfl (vis_of rfl) rfl) ja_nil))) ja_nil)) rfl) ja_nil))))) jav_nil) rfl T.b_dict)) rfl (loc_of rfl)) (jss_cons (js_for (ji_seq (je_var 3 rfl (vis_of rfl) rfl)) (jg_name 5 rfl (loc_of rfl) rfl) (jss_cons (js_set 6 (fun _ => fits_sh) (je_call c_musts_2 (Nat.le_of_ble_eq_true rfl) (ja_cons (je_var 2 rfl (vis_of rfl) rfl) (ja_cons (je_var 5 rfl (vis_of rfl) rfl) ja_nil)) rfl) rfl (loc_of rfl)) (jss_one (js_for (ji_seq (JX.fe (jf_lc (own := [("_law_one", 9)]) (jiv_seq (JX.v (je_dget (JX.v (je_var 1 rfl (vis_of rfl) rfl)) (JX.v je_str)))) (blk_of (by kernel_rfl)) (jg_name 9 rfl (loc_of rfl) rfl) (jts_one (jt_ne (JX.v (je_var 9 rfl (vis_of rfl) rfl)) (JX.v (je_var 5 rfl (vis_of rfl) rfl)))) (je_var 9 rfl (vis_of rfl) rfl)))) (jg_name 7 rfl (loc_of rfl) rfl) (jss_cons (js_set 8 (fun _ => fits_sh) (je_call c_around_3 (Nat.le_of_ble_eq_true rfl) (ja_cons (je_var 2 rfl (vis_of rfl) rfl) (ja_cons (je_var 5 rfl (vis_of rfl) rfl) (ja_cons (je_var 7 rfl (vis_of rfl) rfl) ja_nil))) rfl) rfl (loc_of rfl)) (jss_cons (js_if (JW.jt (jw_or (jt_not (jt_val (JX.v (je_call c_l_is_due_4 (Nat.le_of_ble_eq_true rfl) (ja_cons (je_var 1 rfl (vis_of rfl) rfl) (ja_cons (je_var 5 rfl (vis_of rfl) rfl) (ja_cons (je_var 7 rfl (vis_of rfl) rfl) (ja_cons (je_var 8 rfl (vis_of rfl) rfl) ja_nil)))) rfl)))) (jw_or1 (jt_notB (JX.v (je_call c_shows_around_4 (Nat.le_of_ble_eq_true rfl) (ja_cons (je_var 2 rfl (vis_of rfl) rfl) (ja_cons (je_var 5 rfl (vis_of rfl) rfl) (ja_cons (je_var 7 rfl (vis_of rfl) rfl) (ja_cons (je_var 8 rfl (vis_of rfl) rfl) ja_nil)))) rfl)) (JX.v je_bl))))) (jss_one (js_ret je_bl)) jss_nil) (jss_one (js_if (JW.jt (jw_or (jt_ne (JX.v (je_eq (JX.v (je_idx (JX.v (je_var 8 rfl (vis_of rfl) rfl)) (JX.v je_int))) (JX.v je_str))) (JX.v (je_in (JX.v (je_var 5 rfl (vis_of rfl) rfl)) (JX.v (je_dget (JX.v (je_var 4 rfl (vis_of rfl) rfl)) (JX.v (je_var 7 rfl (vis_of rfl) rfl))))))) (jw_or1 (jt_ne (JX.v (je_eq (JX.v (je_idx (JX.v (je_var 8 rfl (vis_of rfl) rfl)) (JX.v je_int))) (JX.v je_str))) (JX.v (je_in (JX.v (je_var 7 rfl (vis_of rfl) rfl)) (JX.v (je_var 6 rfl (vis_of rfl) rfl)))))))) (jss_one (js_ret je_bl)) jss_nil)))))))) (jss_one (js_ret je_bl)))))))
end VL
namespace VL
open PySem PySem.Spec PyProof.Rows L2
theorem inile_Web_init : ∀ a ds, Le (t_Web_init ds) (runIni 7 B_Web_init a ds) := fun a ds => webInit_le t_comers t_taken a ds
theorem law_run : ∀ (l i : Nat) (s : Pot), Pk 0 s → ∃ ρ' s', B_law (some (.tok l) :: some (.int (i : Nat)) :: some .pot :: ([] : List Str).map fun (_ : Str) => none) s = .ok (.nx ρ') s' ∧ ρ'.length = ([] : List Str).length + 3 ∧ ρ'[0]? = some (some (.tok l)) := by
  have hT : TakeOk t_l_take := take_ok (by decide) (by decide) (by decide)
  have hS : SomeOk t_l_some := some_ok hT
  have hO : OfOk t_l_of := of_ok hT
  have hN : NamesOk t_l_names := names_ok hS
  have hD : DrawnOk t_l_drawn := drawn_ok hN hO hS hT
  have hLo : LoreDrOk t_l_lore := lore_ok hD hT
  have hX : TextOk t_l_text := textOk linesOk
  have hNi : NameInOk t_name_in := name_in_ok fun n hn => is_name_pool hn
  have hLi : LaneInOk t_lane_in := lane_in_okk
  have hTk : TakenOk t_taken := taken_ok hNi hLi
  have hC : ComersOk t_comers := comers_ok
  have hI : WebOk t_Web_init := web_ok hC hTk
  have hG : WebGet t_Web_houses t_Web_gate t_Web_lanes := webGet
  have hLc : LcomersOk t_l_comers := l_comers_ok
  have hWo : WordsOk t_is_tuple t_is_word t_are_strings t_is_one_of := wordsOk
  have hHo : LhomeOk t_l_home := l_home_ok hLc
  have hWh : ∀ L, t_Web_home [webD L] = pure (.tup (sts (homeOf L))) := web_home
  have hCh : ∀ L, LoreOk L → ∀ h ∈ L.hs, t_Web_check_house [webD L, .str h] = pure .non := fun L hL h hh => house_in hL (fun a l ha hl => one_T ha hl) hh
  have hCk : CheckOk t_Web_check_home := check_home_ok hCh
  have hAb : AboveOk t_houses_above := above_ok
  have hMb : ∀ L, LoreOk L → t_musts_by_house [webD L] = pure (dctS (homeOf L) fun h => .lst (sts (bdO L h))) := musts_by_ok hG hWh hC
  have hTr : ∀ L, LoreOk L → t_tree_of [webD L] = pure (treeD L) := tree_of_ok hG hMb
  have hMs : MustsOk t_musts t_near t_part_of t_part := musts_ok hCk hAb hTr hWh
  have hOn : OneTOk t_is_one_of := fun a l ha hl => one_T ha hl
  have hTw : TwoOk t_check_two := check_two_ok hCk hG.h hOn
  have hWw : WayWOk t_Web_way_without := way_without_ok
  have hRe : ReachedOk t_reached := reached_ok hG.l
  have hAr : AroundOk t_around := around_ok hG.h hWw hTw hRe
  have hLw : LwayOk t_l_is_way := l_is_way_ok
  have hLl : LlotOk t_l_is_lot := l_is_lot_ok
  have hDu : DueOk t_l_is_due := due10_ok hLl hLw
  have hIw : WwayOk t_Web_is_way := web_is_way_ok hCh hWo.allS
  have hIq : IsSeqOk t_is_in_sequence := is_seq_ok
  have hSa : ShowsAroundOk t_shows_around := shows_around_ok hG.h hIw hG.l hWo.allS hTw hIq hOn hWo.tup
  have hR : RightOk 400 t_l_right := k10_right hLo hX hI hHo hLc hAr hDu hSa hMs.m
  exact law_run2 hR (by decide)
abbrev s_law : Stmt := top 62
abbrev s_l_cells : Stmt := top 50
abbrev s_l_pot : Stmt := top 46
theorem sc_law : FnScope ["_law_script", "_law_place", "_law_pot_here"] ["_law_script"] (defScope s_law) := ⟨rfl, rfl, rfl, by decide +kernel, rfl, by decide +kernel, by decide +kernel⟩
theorem sc_l_cells : FnScope ["_law_script", "_law_limit"] ["_law_script", "_law_limit"] (defScope s_l_cells) := ⟨rfl, rfl, rfl, by decide +kernel, rfl, by decide +kernel, by decide +kernel⟩
theorem sc_l_pot : FnScope ["_law_script", "_law_place", "_law_cell", "_law_own", "_law_small"] ["_law_script", "_law_place"] (defScope s_l_pot) := ⟨rfl, rfl, rfl, by decide +kernel, rfl, by decide +kernel, by decide +kernel⟩
def restS : List Stmt := match defBody s_law with
  | (.For _ _ (_ :: r) _ _) :: _ => r
  | _ => []
theorem d_law {G : Glob} (T : Tx G) (c_l_right_1 : FnI G "_law_right" 6 1 [] t_l_right) : ∀ P E, JSs (ctxOf G ["_law_script", "_law_place", "_law_pot_here"] (defScope s_law) 6 P E) (gam0 3) (gam0 3) (gam0 3) restS B_law := fun P E =>
  (jss_one (js_if (JW.jt (jw_or (jt_not (jt_val (JX.v (je_call c_l_right_1 (Nat.le_of_ble_eq_true rfl) (ja_cons (je_var 2 rfl (vis_of rfl) rfl) ja_nil) rfl)))) (jw_or1 (jt_not (jt_val (JX.v (je_call c_l_right_1 (Nat.le_of_ble_eq_true rfl) (ja_cons (je_var 2 rfl (vis_of rfl) rfl) ja_nil) rfl))))))) (jss_one (js_ret je_bl)) jss_nil))
theorem all_mk {l : PySem.W.OpenLaw} {w : World} {K : PySem.W.Frag} {h : Heap} {mg : Str → Option Value} {fa C_Web P_Web_own_gate P_Web_own_home P_Web_own_houses P_Web_own_lanes P_Web_own_text f_l_cells f_l_pot f_law f_l_take f_l_some f_l_names f_l_of f_l_drawn f_l_lore f_is_name f_name_in f_lane_in f_taken f_comers T_comers T_comers_0 f_Web_init f_l_lines f_l_text f_l_comers f_l_home f_is_one_of f_Web_check_house f_Web_check_home f_houses_above Q_Web_home f_Web_home Q_Web_gate f_Web_gate Q_Web_lanes f_Web_lanes f_musts_by_house f_tree_of f_musts Q_Web_houses f_Web_houses f_check_two f_Web_way_without f_reached f_around f_l_is_way f_l_is_lot f_l_is_due f_is_tuple T_is_tuple f_are_strings f_Web_is_way f_is_in_sequence f_shows_around f_l_right : Addr} (X : K.In h) (X2 : h.Ns mainGlobals mg) (hfa : mg "law" = some (.ref fa))
    {tk_MOST_HOUSES : Tok} {tk_MOST_LANES : Tok} {tk_MOST_LETTERS : Tok} {tk_PAIR : Tok} {tk_TRIPLE : Tok} {tk_AROUND : Tok} {tk_BLANK : Tok} {tk_FEED : Tok} {tk_GATE : Tok} {tk_HOUSE : Tok} {tk_LANE : Tok} {tk_LETTERS : Tok} {tk_MUST : Tok} {od_l_cells an_l_cells : Option Addr} {sl_l_cells : Array (Option Value)} {oc_l_cells kV_l_cells dc_l_cells pm_l_cells cd_l_cells ct_l_cells : Value} {od_l_pot an_l_pot : Option Addr} {sl_l_pot : Array (Option Value)} {oc_l_pot kV_l_pot dc_l_pot pm_l_pot cd_l_pot ct_l_pot : Value} {od_law an_law : Option Addr} {sl_law : Array (Option Value)} {oc_law kV_law dc_law pm_law cd_law ct_law : Value} {od_l_take an_l_take : Option Addr} {sl_l_take : Array (Option Value)} {oc_l_take kV_l_take dc_l_take pm_l_take cd_l_take ct_l_take : Value} {od_l_some an_l_some : Option Addr} {sl_l_some : Array (Option Value)} {oc_l_some kV_l_some dc_l_some pm_l_some cd_l_some ct_l_some : Value} {od_l_names an_l_names : Option Addr} {sl_l_names : Array (Option Value)} {oc_l_names kV_l_names dc_l_names pm_l_names cd_l_names ct_l_names : Value} {od_l_of an_l_of : Option Addr} {sl_l_of : Array (Option Value)} {oc_l_of kV_l_of dc_l_of pm_l_of cd_l_of ct_l_of : Value} {od_l_drawn an_l_drawn : Option Addr} {sl_l_drawn : Array (Option Value)} {oc_l_drawn kV_l_drawn dc_l_drawn pm_l_drawn cd_l_drawn ct_l_drawn : Value} {od_l_lore an_l_lore : Option Addr} {sl_l_lore : Array (Option Value)} {oc_l_lore kV_l_lore dc_l_lore pm_l_lore cd_l_lore ct_l_lore : Value} {od_is_name an_is_name : Option Addr} {sl_is_name : Array (Option Value)} {oc_is_name kV_is_name dc_is_name pm_is_name cd_is_name ct_is_name : Value} {od_name_in an_name_in : Option Addr} {sl_name_in : Array (Option Value)} {oc_name_in kV_name_in dc_name_in pm_name_in cd_name_in ct_name_in : Value} {od_lane_in an_lane_in : Option Addr} {sl_lane_in : Array (Option Value)} {oc_lane_in kV_lane_in dc_lane_in pm_lane_in cd_lane_in ct_lane_in : Value} {od_taken an_taken : Option Addr} {sl_taken : Array (Option Value)} {oc_taken kV_taken dc_taken pm_taken cd_taken ct_taken : Value} {od_comers an_comers : Option Addr} {sl_comers : Array (Option Value)} {oc_comers kV_comers dc_comers pm_comers cd_comers ct_comers : Value} {ud_comers : Option Addr} {un_comers : Nat} {us_comers : Array (Option Value)} {uc_comers : Value} {vd_comers_0 : Option Addr} {vn_comers_0 : Nat} {vs_comers_0 : Array (Option Value)} {od_Web_init an_Web_init : Option Addr} {sl_Web_init : Array (Option Value)} {oc_Web_init kV_Web_init dc_Web_init pm_Web_init cd_Web_init ct_Web_init : Value} {od_l_lines an_l_lines : Option Addr} {sl_l_lines : Array (Option Value)} {oc_l_lines kV_l_lines dc_l_lines pm_l_lines cd_l_lines ct_l_lines : Value} {od_l_text an_l_text : Option Addr} {sl_l_text : Array (Option Value)} {oc_l_text kV_l_text dc_l_text pm_l_text cd_l_text ct_l_text : Value} {od_l_comers an_l_comers : Option Addr} {sl_l_comers : Array (Option Value)} {oc_l_comers kV_l_comers dc_l_comers pm_l_comers cd_l_comers ct_l_comers : Value} {od_l_home an_l_home : Option Addr} {sl_l_home : Array (Option Value)} {oc_l_home kV_l_home dc_l_home pm_l_home cd_l_home ct_l_home : Value} {od_is_one_of an_is_one_of : Option Addr} {sl_is_one_of : Array (Option Value)} {oc_is_one_of kV_is_one_of dc_is_one_of pm_is_one_of cd_is_one_of ct_is_one_of : Value} {od_Web_check_house an_Web_check_house : Option Addr} {sl_Web_check_house : Array (Option Value)} {oc_Web_check_house kV_Web_check_house dc_Web_check_house pm_Web_check_house cd_Web_check_house ct_Web_check_house : Value} {od_Web_check_home an_Web_check_home : Option Addr} {sl_Web_check_home : Array (Option Value)} {oc_Web_check_home kV_Web_check_home dc_Web_check_home pm_Web_check_home cd_Web_check_home ct_Web_check_home : Value} {od_houses_above an_houses_above : Option Addr} {sl_houses_above : Array (Option Value)} {oc_houses_above kV_houses_above dc_houses_above pm_houses_above cd_houses_above ct_houses_above : Value} {rs_Web_home : List Value} {od_Web_home an_Web_home : Option Addr} {sl_Web_home : Array (Option Value)} {oc_Web_home kV_Web_home dc_Web_home pm_Web_home cd_Web_home ct_Web_home : Value} {rs_Web_gate : List Value} {od_Web_gate an_Web_gate : Option Addr} {sl_Web_gate : Array (Option Value)} {oc_Web_gate kV_Web_gate dc_Web_gate pm_Web_gate cd_Web_gate ct_Web_gate : Value} {rs_Web_lanes : List Value} {od_Web_lanes an_Web_lanes : Option Addr} {sl_Web_lanes : Array (Option Value)} {oc_Web_lanes kV_Web_lanes dc_Web_lanes pm_Web_lanes cd_Web_lanes ct_Web_lanes : Value} {od_musts_by_house an_musts_by_house : Option Addr} {sl_musts_by_house : Array (Option Value)} {oc_musts_by_house kV_musts_by_house dc_musts_by_house pm_musts_by_house cd_musts_by_house ct_musts_by_house : Value} {od_tree_of an_tree_of : Option Addr} {sl_tree_of : Array (Option Value)} {oc_tree_of kV_tree_of dc_tree_of pm_tree_of cd_tree_of ct_tree_of : Value} {od_musts an_musts : Option Addr} {sl_musts : Array (Option Value)} {oc_musts kV_musts dc_musts pm_musts cd_musts ct_musts : Value} {rs_Web_houses : List Value} {od_Web_houses an_Web_houses : Option Addr} {sl_Web_houses : Array (Option Value)} {oc_Web_houses kV_Web_houses dc_Web_houses pm_Web_houses cd_Web_houses ct_Web_houses : Value} {od_check_two an_check_two : Option Addr} {sl_check_two : Array (Option Value)} {oc_check_two kV_check_two dc_check_two pm_check_two cd_check_two ct_check_two : Value} {od_Web_way_without an_Web_way_without : Option Addr} {sl_Web_way_without : Array (Option Value)} {oc_Web_way_without kV_Web_way_without dc_Web_way_without pm_Web_way_without cd_Web_way_without ct_Web_way_without : Value} {od_reached an_reached : Option Addr} {sl_reached : Array (Option Value)} {oc_reached kV_reached dc_reached pm_reached cd_reached ct_reached : Value} {od_around an_around : Option Addr} {sl_around : Array (Option Value)} {oc_around kV_around dc_around pm_around cd_around ct_around : Value} {od_l_is_way an_l_is_way : Option Addr} {sl_l_is_way : Array (Option Value)} {oc_l_is_way kV_l_is_way dc_l_is_way pm_l_is_way cd_l_is_way ct_l_is_way : Value} {od_l_is_lot an_l_is_lot : Option Addr} {sl_l_is_lot : Array (Option Value)} {oc_l_is_lot kV_l_is_lot dc_l_is_lot pm_l_is_lot cd_l_is_lot ct_l_is_lot : Value} {od_l_is_due an_l_is_due : Option Addr} {sl_l_is_due : Array (Option Value)} {oc_l_is_due kV_l_is_due dc_l_is_due pm_l_is_due cd_l_is_due ct_l_is_due : Value} {od_is_tuple an_is_tuple : Option Addr} {sl_is_tuple : Array (Option Value)} {oc_is_tuple kV_is_tuple dc_is_tuple pm_is_tuple cd_is_tuple ct_is_tuple : Value} {ud_is_tuple : Option Addr} {un_is_tuple : Nat} {us_is_tuple : Array (Option Value)} {uc_is_tuple : Value} {od_are_strings an_are_strings : Option Addr} {sl_are_strings : Array (Option Value)} {oc_are_strings kV_are_strings dc_are_strings pm_are_strings cd_are_strings ct_are_strings : Value} {od_Web_is_way an_Web_is_way : Option Addr} {sl_Web_is_way : Array (Option Value)} {oc_Web_is_way kV_Web_is_way dc_Web_is_way pm_Web_is_way cd_Web_is_way ct_Web_is_way : Value} {od_is_in_sequence an_is_in_sequence : Option Addr} {sl_is_in_sequence : Array (Option Value)} {oc_is_in_sequence kV_is_in_sequence dc_is_in_sequence pm_is_in_sequence cd_is_in_sequence ct_is_in_sequence : Value} {od_shows_around an_shows_around : Option Addr} {sl_shows_around : Array (Option Value)} {oc_shows_around kV_shows_around dc_shows_around pm_shows_around cd_shows_around ct_shows_around : Value} {od_l_right an_l_right : Option Addr} {sl_l_right : Array (Option Value)} {oc_l_right kV_l_right dc_l_right pm_l_right cd_l_right ct_l_right : Value}
    (aC_Web : PySem.W.nsIn K mainGlobals "Web" = some (some (.ref C_Web)))
    (pg_Web : PySem.W.plainGet K C_Web Str.empty = true)
    (ic_Web : PySem.W.isClsIn K C_Web = true)
    (po_Web : PySem.W.plainOver K C_Web = true)
    (sa_Web : PySem.W.findIn K (.ref C_Web) "__setattr__" = some (some (.builtin "object.__setattr__")))
    (g_MOST_HOUSES : PySem.W.nsIn K mainGlobals "MOST_HOUSES" = some (some (.int 10 tk_MOST_HOUSES)))
    (g_MOST_LANES : PySem.W.nsIn K mainGlobals "MOST_LANES" = some (some (.int 40 tk_MOST_LANES)))
    (g_MOST_LETTERS : PySem.W.nsIn K mainGlobals "MOST_LETTERS" = some (some (.int 8 tk_MOST_LETTERS)))
    (g_PAIR : PySem.W.nsIn K mainGlobals "PAIR" = some (some (.int 2 tk_PAIR)))
    (g_TRIPLE : PySem.W.nsIn K mainGlobals "TRIPLE" = some (some (.int 3 tk_TRIPLE)))
    (b_all : PySem.W.nsIn K mainGlobals "all" = some none)
    (b_dict : PySem.W.nsIn K mainGlobals "dict" = some none)
    (b_enumerate : PySem.W.nsIn K mainGlobals "enumerate" = some none)
    (b_int : PySem.W.nsIn K mainGlobals "int" = some none)
    (b_isinstance : PySem.W.nsIn K mainGlobals "isinstance" = some none)
    (b_len : PySem.W.nsIn K mainGlobals "len" = some none)
    (b_list : PySem.W.nsIn K mainGlobals "list" = some none)
    (b_min : PySem.W.nsIn K mainGlobals "min" = some none)
    (b_range : PySem.W.nsIn K mainGlobals "range" = some none)
    (b_set : PySem.W.nsIn K mainGlobals "set" = some none)
    (b_str : PySem.W.nsIn K mainGlobals "str" = some none)
    (b_tuple : PySem.W.nsIn K mainGlobals "tuple" = some none)
    (b_zip : PySem.W.nsIn K mainGlobals "zip" = some none)
    (sa1_Web_own_gate : PySem.W.findIn K (.ref C_Web) "own_gate" = some (some (.ref P_Web_own_gate)))
    (sa2_Web_own_gate : PySem.W.specialIn K (.ref P_Web_own_gate) "__get__" = some (some (.builtin "member_descriptor.__get__")))
    (sa3_Web_own_gate : PySem.W.takesIn K (.ref P_Web_own_gate) = some true)
    (sa4_Web_own_gate : PySem.W.typeIn K (.ref P_Web_own_gate) = some (.type "member_descriptor"))
    (sa5_Web_own_gate : PySem.W.slotIn K P_Web_own_gate C_Web = some 0)
    (sa1_Web_own_home : PySem.W.findIn K (.ref C_Web) "own_home" = some (some (.ref P_Web_own_home)))
    (sa2_Web_own_home : PySem.W.specialIn K (.ref P_Web_own_home) "__get__" = some (some (.builtin "member_descriptor.__get__")))
    (sa3_Web_own_home : PySem.W.takesIn K (.ref P_Web_own_home) = some true)
    (sa4_Web_own_home : PySem.W.typeIn K (.ref P_Web_own_home) = some (.type "member_descriptor"))
    (sa5_Web_own_home : PySem.W.slotIn K P_Web_own_home C_Web = some 1)
    (sa1_Web_own_houses : PySem.W.findIn K (.ref C_Web) "own_houses" = some (some (.ref P_Web_own_houses)))
    (sa2_Web_own_houses : PySem.W.specialIn K (.ref P_Web_own_houses) "__get__" = some (some (.builtin "member_descriptor.__get__")))
    (sa3_Web_own_houses : PySem.W.takesIn K (.ref P_Web_own_houses) = some true)
    (sa4_Web_own_houses : PySem.W.typeIn K (.ref P_Web_own_houses) = some (.type "member_descriptor"))
    (sa5_Web_own_houses : PySem.W.slotIn K P_Web_own_houses C_Web = some 2)
    (sa1_Web_own_lanes : PySem.W.findIn K (.ref C_Web) "own_lanes" = some (some (.ref P_Web_own_lanes)))
    (sa2_Web_own_lanes : PySem.W.specialIn K (.ref P_Web_own_lanes) "__get__" = some (some (.builtin "member_descriptor.__get__")))
    (sa3_Web_own_lanes : PySem.W.takesIn K (.ref P_Web_own_lanes) = some true)
    (sa4_Web_own_lanes : PySem.W.typeIn K (.ref P_Web_own_lanes) = some (.type "member_descriptor"))
    (sa5_Web_own_lanes : PySem.W.slotIn K P_Web_own_lanes C_Web = some 3)
    (sa1_Web_own_text : PySem.W.findIn K (.ref C_Web) "own_text" = some (some (.ref P_Web_own_text)))
    (sa2_Web_own_text : PySem.W.specialIn K (.ref P_Web_own_text) "__get__" = some (some (.builtin "member_descriptor.__get__")))
    (sa3_Web_own_text : PySem.W.takesIn K (.ref P_Web_own_text) = some true)
    (sa4_Web_own_text : PySem.W.typeIn K (.ref P_Web_own_text) = some (.type "member_descriptor"))
    (sa5_Web_own_text : PySem.W.slotIn K P_Web_own_text C_Web = some 4)
    (g_AROUND : PySem.W.nsIn K mainGlobals "AROUND" = some (some (.str "around" tk_AROUND)))
    (g_BLANK : PySem.W.nsIn K mainGlobals "BLANK" = some (some (.str " " tk_BLANK)))
    (g_FEED : PySem.W.nsIn K mainGlobals "FEED" = some (some (.str "\n" tk_FEED)))
    (g_GATE : PySem.W.nsIn K mainGlobals "GATE" = some (some (.str "gate" tk_GATE)))
    (g_HOUSE : PySem.W.nsIn K mainGlobals "HOUSE" = some (some (.str "house" tk_HOUSE)))
    (g_LANE : PySem.W.nsIn K mainGlobals "LANE" = some (some (.str "lane" tk_LANE)))
    (g_LETTERS : PySem.W.nsIn K mainGlobals "LETTERS" = some (some (.str "abcdefghijklmnopqrstuvwxyz" tk_LETTERS)))
    (g_MUST : PySem.W.nsIn K mainGlobals "MUST" = some (some (.str "must" tk_MUST)))
    (a_l_cells : PySem.W.nsIn K mainGlobals "_law_cells" = some (some (.ref f_l_cells)))
    (l_l_cells : K.lookup f_l_cells = some ⟨oc_l_cells, od_l_cells, .func (PySem.W.fnOf "_law_cells" "_law_cells" (defArgs s_l_cells) (defBody s_l_cells) (defScope s_l_cells) .none kV_l_cells dc_l_cells pm_l_cells an_l_cells cd_l_cells ct_l_cells), sl_l_cells⟩)
    (c_l_cells : PySem.W.codeIn K cd_l_cells "_law_cells" = true)
    (k_l_cells : PySem.W.keepIn K (.ref f_l_cells) = true)
    (a_l_pot : PySem.W.nsIn K mainGlobals "_law_pot" = some (some (.ref f_l_pot)))
    (l_l_pot : K.lookup f_l_pot = some ⟨oc_l_pot, od_l_pot, .func (PySem.W.fnOf "_law_pot" "_law_pot" (defArgs s_l_pot) (defBody s_l_pot) (defScope s_l_pot) .none kV_l_pot dc_l_pot pm_l_pot an_l_pot cd_l_pot ct_l_pot), sl_l_pot⟩)
    (c_l_pot : PySem.W.codeIn K cd_l_pot "_law_pot" = true)
    (k_l_pot : PySem.W.keepIn K (.ref f_l_pot) = true)
    (b_max : PySem.W.nsIn K mainGlobals "max" = some none)
    (b_abs : PySem.W.nsIn K mainGlobals "abs" = some none)
    (a_law : PySem.W.nsIn K mainGlobals "law" = some (some (.ref f_law)))
    (l_law : K.lookup f_law = some ⟨oc_law, od_law, .func (PySem.W.fnOf "law" "law" (defArgs s_law) (defBody s_law) (defScope s_law) .none kV_law dc_law pm_law an_law cd_law ct_law), sl_law⟩)
    (c_law : PySem.W.codeIn K cd_law "law" = true)
    (k_law : PySem.W.keepIn K (.ref f_law) = true)
    (a_l_take : PySem.W.nsIn K mainGlobals "_law_take" = some (some (.ref f_l_take)))
    (l_l_take : K.lookup f_l_take = some ⟨oc_l_take, od_l_take, .func (PySem.W.fnOf "_law_take" "_law_take" (defArgs s_l_take) (defBody s_l_take) (defScope s_l_take) .none kV_l_take dc_l_take pm_l_take an_l_take cd_l_take ct_l_take), sl_l_take⟩)
    (c_l_take : PySem.W.codeIn K cd_l_take "_law_take" = true)
    (k_l_take : PySem.W.keepIn K (.ref f_l_take) = true)
    (a_l_some : PySem.W.nsIn K mainGlobals "_law_some" = some (some (.ref f_l_some)))
    (l_l_some : K.lookup f_l_some = some ⟨oc_l_some, od_l_some, .func (PySem.W.fnOf "_law_some" "_law_some" (defArgs s_l_some) (defBody s_l_some) (defScope s_l_some) .none kV_l_some dc_l_some pm_l_some an_l_some cd_l_some ct_l_some), sl_l_some⟩)
    (c_l_some : PySem.W.codeIn K cd_l_some "_law_some" = true)
    (k_l_some : PySem.W.keepIn K (.ref f_l_some) = true)
    (a_l_names : PySem.W.nsIn K mainGlobals "_law_names" = some (some (.ref f_l_names)))
    (l_l_names : K.lookup f_l_names = some ⟨oc_l_names, od_l_names, .func (PySem.W.fnOf "_law_names" "_law_names" (defArgs s_l_names) (defBody s_l_names) (defScope s_l_names) .none kV_l_names dc_l_names pm_l_names an_l_names cd_l_names ct_l_names), sl_l_names⟩)
    (c_l_names : PySem.W.codeIn K cd_l_names "_law_names" = true)
    (k_l_names : PySem.W.keepIn K (.ref f_l_names) = true)
    (a_l_of : PySem.W.nsIn K mainGlobals "_law_of" = some (some (.ref f_l_of)))
    (l_l_of : K.lookup f_l_of = some ⟨oc_l_of, od_l_of, .func (PySem.W.fnOf "_law_of" "_law_of" (defArgs s_l_of) (defBody s_l_of) (defScope s_l_of) .none kV_l_of dc_l_of pm_l_of an_l_of cd_l_of ct_l_of), sl_l_of⟩)
    (c_l_of : PySem.W.codeIn K cd_l_of "_law_of" = true)
    (k_l_of : PySem.W.keepIn K (.ref f_l_of) = true)
    (a_l_drawn : PySem.W.nsIn K mainGlobals "_law_drawn" = some (some (.ref f_l_drawn)))
    (l_l_drawn : K.lookup f_l_drawn = some ⟨oc_l_drawn, od_l_drawn, .func (PySem.W.fnOf "_law_drawn" "_law_drawn" (defArgs s_l_drawn) (defBody s_l_drawn) (defScope s_l_drawn) .none kV_l_drawn dc_l_drawn pm_l_drawn an_l_drawn cd_l_drawn ct_l_drawn), sl_l_drawn⟩)
    (c_l_drawn : PySem.W.codeIn K cd_l_drawn "_law_drawn" = true)
    (k_l_drawn : PySem.W.keepIn K (.ref f_l_drawn) = true)
    (a_l_lore : PySem.W.nsIn K mainGlobals "_law_lore" = some (some (.ref f_l_lore)))
    (l_l_lore : K.lookup f_l_lore = some ⟨oc_l_lore, od_l_lore, .func (PySem.W.fnOf "_law_lore" "_law_lore" (defArgs s_l_lore) (defBody s_l_lore) (defScope s_l_lore) .none kV_l_lore dc_l_lore pm_l_lore an_l_lore cd_l_lore ct_l_lore), sl_l_lore⟩)
    (c_l_lore : PySem.W.codeIn K cd_l_lore "_law_lore" = true)
    (k_l_lore : PySem.W.keepIn K (.ref f_l_lore) = true)
    (a_is_name : PySem.W.nsIn K mainGlobals "is_name" = some (some (.ref f_is_name)))
    (l_is_name : K.lookup f_is_name = some ⟨oc_is_name, od_is_name, .func (PySem.W.fnOf "is_name" "is_name" (defArgs s_is_name) (defBody s_is_name) (defScope s_is_name) .none kV_is_name dc_is_name pm_is_name an_is_name cd_is_name ct_is_name), sl_is_name⟩)
    (c_is_name : PySem.W.codeIn K cd_is_name "is_name" = true)
    (k_is_name : PySem.W.keepIn K (.ref f_is_name) = true)
    (a_name_in : PySem.W.nsIn K mainGlobals "name_in" = some (some (.ref f_name_in)))
    (l_name_in : K.lookup f_name_in = some ⟨oc_name_in, od_name_in, .func (PySem.W.fnOf "name_in" "name_in" (defArgs s_name_in) (defBody s_name_in) (defScope s_name_in) .none kV_name_in dc_name_in pm_name_in an_name_in cd_name_in ct_name_in), sl_name_in⟩)
    (c_name_in : PySem.W.codeIn K cd_name_in "name_in" = true)
    (k_name_in : PySem.W.keepIn K (.ref f_name_in) = true)
    (a_lane_in : PySem.W.nsIn K mainGlobals "lane_in" = some (some (.ref f_lane_in)))
    (l_lane_in : K.lookup f_lane_in = some ⟨oc_lane_in, od_lane_in, .func (PySem.W.fnOf "lane_in" "lane_in" (defArgs s_lane_in) (defBody s_lane_in) (defScope s_lane_in) .none kV_lane_in dc_lane_in pm_lane_in an_lane_in cd_lane_in ct_lane_in), sl_lane_in⟩)
    (c_lane_in : PySem.W.codeIn K cd_lane_in "lane_in" = true)
    (k_lane_in : PySem.W.keepIn K (.ref f_lane_in) = true)
    (a_taken : PySem.W.nsIn K mainGlobals "taken" = some (some (.ref f_taken)))
    (l_taken : K.lookup f_taken = some ⟨oc_taken, od_taken, .func (PySem.W.fnOf "taken" "taken" (defArgs s_taken) (defBody s_taken) (defScope s_taken) .none kV_taken dc_taken pm_taken an_taken cd_taken ct_taken), sl_taken⟩)
    (c_taken : PySem.W.codeIn K cd_taken "taken" = true)
    (k_taken : PySem.W.keepIn K (.ref f_taken) = true)
    (a_comers : PySem.W.nsIn K mainGlobals "comers" = some (some (.ref f_comers)))
    (l_comers : K.lookup f_comers = some ⟨oc_comers, od_comers, .func (PySem.W.fnOf "comers" "comers" (defArgs s_comers) (defBody s_comers) (defScope s_comers) (.ref T_comers) kV_comers dc_comers pm_comers an_comers cd_comers ct_comers), sl_comers⟩)
    (c_comers : PySem.W.codeIn K cd_comers "comers" = true)
    (k_comers : PySem.W.keepIn K (.ref f_comers) = true)
    (lT_comers : K.lookup T_comers = some ⟨uc_comers, ud_comers, .seq #[.ref T_comers_0] un_comers, us_comers⟩)
    (lU_comers_0 : K.lookup T_comers_0 = some ⟨.type "tuple", vd_comers_0, .seq #[] vn_comers_0, vs_comers_0⟩)
    (a_Web_init : PySem.W.findIn K (.ref C_Web) "__init__" = some (some (.ref f_Web_init)))
    (i_Web_init : PySem.W.isFn K (.ref f_Web_init) = true)
    (m_Web : PySem.W.makesIn K C_Web = true)
    (kC_Web : PySem.W.keepIn K (.ref C_Web) = true)
    (l_Web_init : K.lookup f_Web_init = some ⟨oc_Web_init, od_Web_init, .func (PySem.W.fnOf "__init__" "Web.__init__" (defArgs s_Web_init) (defBody s_Web_init) (defScope s_Web_init) .none kV_Web_init dc_Web_init pm_Web_init an_Web_init cd_Web_init ct_Web_init), sl_Web_init⟩)
    (c_Web_init : PySem.W.codeIn K cd_Web_init "Web.__init__" = true)
    (k_Web_init : PySem.W.keepIn K (.ref f_Web_init) = true)
    (a_l_lines : PySem.W.nsIn K mainGlobals "_law_lines" = some (some (.ref f_l_lines)))
    (l_l_lines : K.lookup f_l_lines = some ⟨oc_l_lines, od_l_lines, .func (PySem.W.fnOf "_law_lines" "_law_lines" (defArgs s_l_lines) (defBody s_l_lines) (defScope s_l_lines) .none kV_l_lines dc_l_lines pm_l_lines an_l_lines cd_l_lines ct_l_lines), sl_l_lines⟩)
    (c_l_lines : PySem.W.codeIn K cd_l_lines "_law_lines" = true)
    (k_l_lines : PySem.W.keepIn K (.ref f_l_lines) = true)
    (a_l_text : PySem.W.nsIn K mainGlobals "_law_text" = some (some (.ref f_l_text)))
    (l_l_text : K.lookup f_l_text = some ⟨oc_l_text, od_l_text, .func (PySem.W.fnOf "_law_text" "_law_text" (defArgs s_l_text) (defBody s_l_text) (defScope s_l_text) .none kV_l_text dc_l_text pm_l_text an_l_text cd_l_text ct_l_text), sl_l_text⟩)
    (c_l_text : PySem.W.codeIn K cd_l_text "_law_text" = true)
    (k_l_text : PySem.W.keepIn K (.ref f_l_text) = true)
    (a_l_comers : PySem.W.nsIn K mainGlobals "_law_comers" = some (some (.ref f_l_comers)))
    (l_l_comers : K.lookup f_l_comers = some ⟨oc_l_comers, od_l_comers, .func (PySem.W.fnOf "_law_comers" "_law_comers" (defArgs s_l_comers) (defBody s_l_comers) (defScope s_l_comers) .none kV_l_comers dc_l_comers pm_l_comers an_l_comers cd_l_comers ct_l_comers), sl_l_comers⟩)
    (c_l_comers : PySem.W.codeIn K cd_l_comers "_law_comers" = true)
    (k_l_comers : PySem.W.keepIn K (.ref f_l_comers) = true)
    (a_l_home : PySem.W.nsIn K mainGlobals "_law_home" = some (some (.ref f_l_home)))
    (l_l_home : K.lookup f_l_home = some ⟨oc_l_home, od_l_home, .func (PySem.W.fnOf "_law_home" "_law_home" (defArgs s_l_home) (defBody s_l_home) (defScope s_l_home) .none kV_l_home dc_l_home pm_l_home an_l_home cd_l_home ct_l_home), sl_l_home⟩)
    (c_l_home : PySem.W.codeIn K cd_l_home "_law_home" = true)
    (k_l_home : PySem.W.keepIn K (.ref f_l_home) = true)
    (a_is_one_of : PySem.W.nsIn K mainGlobals "is_one_of" = some (some (.ref f_is_one_of)))
    (l_is_one_of : K.lookup f_is_one_of = some ⟨oc_is_one_of, od_is_one_of, .func (PySem.W.fnOf "is_one_of" "is_one_of" (defArgs s_is_one_of) (defBody s_is_one_of) (defScope s_is_one_of) .none kV_is_one_of dc_is_one_of pm_is_one_of an_is_one_of cd_is_one_of ct_is_one_of), sl_is_one_of⟩)
    (c_is_one_of : PySem.W.codeIn K cd_is_one_of "is_one_of" = true)
    (k_is_one_of : PySem.W.keepIn K (.ref f_is_one_of) = true)
    (a_Web_check_house : PySem.W.findIn K (.ref C_Web) "check_house" = some (some (.ref f_Web_check_house)))
    (i_Web_check_house : PySem.W.isFn K (.ref f_Web_check_house) = true)
    (l_Web_check_house : K.lookup f_Web_check_house = some ⟨oc_Web_check_house, od_Web_check_house, .func (PySem.W.fnOf "check_house" "Web.check_house" (defArgs s_Web_check_house) (defBody s_Web_check_house) (defScope s_Web_check_house) .none kV_Web_check_house dc_Web_check_house pm_Web_check_house an_Web_check_house cd_Web_check_house ct_Web_check_house), sl_Web_check_house⟩)
    (c_Web_check_house : PySem.W.codeIn K cd_Web_check_house "Web.check_house" = true)
    (k_Web_check_house : PySem.W.keepIn K (.ref f_Web_check_house) = true)
    (a_Web_check_home : PySem.W.findIn K (.ref C_Web) "check_home" = some (some (.ref f_Web_check_home)))
    (i_Web_check_home : PySem.W.isFn K (.ref f_Web_check_home) = true)
    (l_Web_check_home : K.lookup f_Web_check_home = some ⟨oc_Web_check_home, od_Web_check_home, .func (PySem.W.fnOf "check_home" "Web.check_home" (defArgs s_Web_check_home) (defBody s_Web_check_home) (defScope s_Web_check_home) .none kV_Web_check_home dc_Web_check_home pm_Web_check_home an_Web_check_home cd_Web_check_home ct_Web_check_home), sl_Web_check_home⟩)
    (c_Web_check_home : PySem.W.codeIn K cd_Web_check_home "Web.check_home" = true)
    (k_Web_check_home : PySem.W.keepIn K (.ref f_Web_check_home) = true)
    (a_houses_above : PySem.W.nsIn K mainGlobals "houses_above" = some (some (.ref f_houses_above)))
    (l_houses_above : K.lookup f_houses_above = some ⟨oc_houses_above, od_houses_above, .func (PySem.W.fnOf "houses_above" "houses_above" (defArgs s_houses_above) (defBody s_houses_above) (defScope s_houses_above) .none kV_houses_above dc_houses_above pm_houses_above an_houses_above cd_houses_above ct_houses_above), sl_houses_above⟩)
    (c_houses_above : PySem.W.codeIn K cd_houses_above "houses_above" = true)
    (k_houses_above : PySem.W.keepIn K (.ref f_houses_above) = true)
    (q1_Web_home : PySem.W.findIn K (.ref C_Web) "home" = some (some (.ref Q_Web_home)))
    (q2_Web_home : PySem.W.specialIn K (.ref Q_Web_home) "__get__" = some (some (.builtin "property.__get__")))
    (q3_Web_home : PySem.W.takesIn K (.ref Q_Web_home) = some true)
    (q4_Web_home : PySem.W.recIn K Q_Web_home "property" = some (.ref f_Web_home :: rs_Web_home))
    (l_Web_home : K.lookup f_Web_home = some ⟨oc_Web_home, od_Web_home, .func (PySem.W.fnOf "home" "Web.home" (defArgs s_Web_home) (defBody s_Web_home) (defScope s_Web_home) .none kV_Web_home dc_Web_home pm_Web_home an_Web_home cd_Web_home ct_Web_home), sl_Web_home⟩)
    (c_Web_home : PySem.W.codeIn K cd_Web_home "Web.home" = true)
    (k_Web_home : PySem.W.keepIn K (.ref f_Web_home) = true)
    (q1_Web_gate : PySem.W.findIn K (.ref C_Web) "gate" = some (some (.ref Q_Web_gate)))
    (q2_Web_gate : PySem.W.specialIn K (.ref Q_Web_gate) "__get__" = some (some (.builtin "property.__get__")))
    (q3_Web_gate : PySem.W.takesIn K (.ref Q_Web_gate) = some true)
    (q4_Web_gate : PySem.W.recIn K Q_Web_gate "property" = some (.ref f_Web_gate :: rs_Web_gate))
    (l_Web_gate : K.lookup f_Web_gate = some ⟨oc_Web_gate, od_Web_gate, .func (PySem.W.fnOf "gate" "Web.gate" (defArgs s_Web_gate) (defBody s_Web_gate) (defScope s_Web_gate) .none kV_Web_gate dc_Web_gate pm_Web_gate an_Web_gate cd_Web_gate ct_Web_gate), sl_Web_gate⟩)
    (c_Web_gate : PySem.W.codeIn K cd_Web_gate "Web.gate" = true)
    (k_Web_gate : PySem.W.keepIn K (.ref f_Web_gate) = true)
    (q1_Web_lanes : PySem.W.findIn K (.ref C_Web) "lanes" = some (some (.ref Q_Web_lanes)))
    (q2_Web_lanes : PySem.W.specialIn K (.ref Q_Web_lanes) "__get__" = some (some (.builtin "property.__get__")))
    (q3_Web_lanes : PySem.W.takesIn K (.ref Q_Web_lanes) = some true)
    (q4_Web_lanes : PySem.W.recIn K Q_Web_lanes "property" = some (.ref f_Web_lanes :: rs_Web_lanes))
    (l_Web_lanes : K.lookup f_Web_lanes = some ⟨oc_Web_lanes, od_Web_lanes, .func (PySem.W.fnOf "lanes" "Web.lanes" (defArgs s_Web_lanes) (defBody s_Web_lanes) (defScope s_Web_lanes) .none kV_Web_lanes dc_Web_lanes pm_Web_lanes an_Web_lanes cd_Web_lanes ct_Web_lanes), sl_Web_lanes⟩)
    (c_Web_lanes : PySem.W.codeIn K cd_Web_lanes "Web.lanes" = true)
    (k_Web_lanes : PySem.W.keepIn K (.ref f_Web_lanes) = true)
    (a_musts_by_house : PySem.W.nsIn K mainGlobals "musts_by_house" = some (some (.ref f_musts_by_house)))
    (l_musts_by_house : K.lookup f_musts_by_house = some ⟨oc_musts_by_house, od_musts_by_house, .func (PySem.W.fnOf "musts_by_house" "musts_by_house" (defArgs s_musts_by_house) (defBody s_musts_by_house) (defScope s_musts_by_house) .none kV_musts_by_house dc_musts_by_house pm_musts_by_house an_musts_by_house cd_musts_by_house ct_musts_by_house), sl_musts_by_house⟩)
    (c_musts_by_house : PySem.W.codeIn K cd_musts_by_house "musts_by_house" = true)
    (k_musts_by_house : PySem.W.keepIn K (.ref f_musts_by_house) = true)
    (a_tree_of : PySem.W.nsIn K mainGlobals "tree_of" = some (some (.ref f_tree_of)))
    (l_tree_of : K.lookup f_tree_of = some ⟨oc_tree_of, od_tree_of, .func (PySem.W.fnOf "tree_of" "tree_of" (defArgs s_tree_of) (defBody s_tree_of) (defScope s_tree_of) .none kV_tree_of dc_tree_of pm_tree_of an_tree_of cd_tree_of ct_tree_of), sl_tree_of⟩)
    (c_tree_of : PySem.W.codeIn K cd_tree_of "tree_of" = true)
    (k_tree_of : PySem.W.keepIn K (.ref f_tree_of) = true)
    (a_musts : PySem.W.nsIn K mainGlobals "musts" = some (some (.ref f_musts)))
    (l_musts : K.lookup f_musts = some ⟨oc_musts, od_musts, .func (PySem.W.fnOf "musts" "musts" (defArgs s_musts) (defBody s_musts) (defScope s_musts) .none kV_musts dc_musts pm_musts an_musts cd_musts ct_musts), sl_musts⟩)
    (c_musts : PySem.W.codeIn K cd_musts "musts" = true)
    (k_musts : PySem.W.keepIn K (.ref f_musts) = true)
    (q1_Web_houses : PySem.W.findIn K (.ref C_Web) "houses" = some (some (.ref Q_Web_houses)))
    (q2_Web_houses : PySem.W.specialIn K (.ref Q_Web_houses) "__get__" = some (some (.builtin "property.__get__")))
    (q3_Web_houses : PySem.W.takesIn K (.ref Q_Web_houses) = some true)
    (q4_Web_houses : PySem.W.recIn K Q_Web_houses "property" = some (.ref f_Web_houses :: rs_Web_houses))
    (l_Web_houses : K.lookup f_Web_houses = some ⟨oc_Web_houses, od_Web_houses, .func (PySem.W.fnOf "houses" "Web.houses" (defArgs s_Web_houses) (defBody s_Web_houses) (defScope s_Web_houses) .none kV_Web_houses dc_Web_houses pm_Web_houses an_Web_houses cd_Web_houses ct_Web_houses), sl_Web_houses⟩)
    (c_Web_houses : PySem.W.codeIn K cd_Web_houses "Web.houses" = true)
    (k_Web_houses : PySem.W.keepIn K (.ref f_Web_houses) = true)
    (a_check_two : PySem.W.nsIn K mainGlobals "check_two" = some (some (.ref f_check_two)))
    (l_check_two : K.lookup f_check_two = some ⟨oc_check_two, od_check_two, .func (PySem.W.fnOf "check_two" "check_two" (defArgs s_check_two) (defBody s_check_two) (defScope s_check_two) .none kV_check_two dc_check_two pm_check_two an_check_two cd_check_two ct_check_two), sl_check_two⟩)
    (c_check_two : PySem.W.codeIn K cd_check_two "check_two" = true)
    (k_check_two : PySem.W.keepIn K (.ref f_check_two) = true)
    (a_Web_way_without : PySem.W.findIn K (.ref C_Web) "way_without" = some (some (.ref f_Web_way_without)))
    (i_Web_way_without : PySem.W.isFn K (.ref f_Web_way_without) = true)
    (l_Web_way_without : K.lookup f_Web_way_without = some ⟨oc_Web_way_without, od_Web_way_without, .func (PySem.W.fnOf "way_without" "Web.way_without" (defArgs s_Web_way_without) (defBody s_Web_way_without) (defScope s_Web_way_without) .none kV_Web_way_without dc_Web_way_without pm_Web_way_without an_Web_way_without cd_Web_way_without ct_Web_way_without), sl_Web_way_without⟩)
    (c_Web_way_without : PySem.W.codeIn K cd_Web_way_without "Web.way_without" = true)
    (k_Web_way_without : PySem.W.keepIn K (.ref f_Web_way_without) = true)
    (a_reached : PySem.W.nsIn K mainGlobals "reached" = some (some (.ref f_reached)))
    (l_reached : K.lookup f_reached = some ⟨oc_reached, od_reached, .func (PySem.W.fnOf "reached" "reached" (defArgs s_reached) (defBody s_reached) (defScope s_reached) .none kV_reached dc_reached pm_reached an_reached cd_reached ct_reached), sl_reached⟩)
    (c_reached : PySem.W.codeIn K cd_reached "reached" = true)
    (k_reached : PySem.W.keepIn K (.ref f_reached) = true)
    (a_around : PySem.W.nsIn K mainGlobals "around" = some (some (.ref f_around)))
    (l_around : K.lookup f_around = some ⟨oc_around, od_around, .func (PySem.W.fnOf "around" "around" (defArgs s_around) (defBody s_around) (defScope s_around) .none kV_around dc_around pm_around an_around cd_around ct_around), sl_around⟩)
    (c_around : PySem.W.codeIn K cd_around "around" = true)
    (k_around : PySem.W.keepIn K (.ref f_around) = true)
    (a_l_is_way : PySem.W.nsIn K mainGlobals "_law_is_way" = some (some (.ref f_l_is_way)))
    (l_l_is_way : K.lookup f_l_is_way = some ⟨oc_l_is_way, od_l_is_way, .func (PySem.W.fnOf "_law_is_way" "_law_is_way" (defArgs s_l_is_way) (defBody s_l_is_way) (defScope s_l_is_way) .none kV_l_is_way dc_l_is_way pm_l_is_way an_l_is_way cd_l_is_way ct_l_is_way), sl_l_is_way⟩)
    (c_l_is_way : PySem.W.codeIn K cd_l_is_way "_law_is_way" = true)
    (k_l_is_way : PySem.W.keepIn K (.ref f_l_is_way) = true)
    (a_l_is_lot : PySem.W.nsIn K mainGlobals "_law_is_lot" = some (some (.ref f_l_is_lot)))
    (l_l_is_lot : K.lookup f_l_is_lot = some ⟨oc_l_is_lot, od_l_is_lot, .func (PySem.W.fnOf "_law_is_lot" "_law_is_lot" (defArgs s_l_is_lot) (defBody s_l_is_lot) (defScope s_l_is_lot) .none kV_l_is_lot dc_l_is_lot pm_l_is_lot an_l_is_lot cd_l_is_lot ct_l_is_lot), sl_l_is_lot⟩)
    (c_l_is_lot : PySem.W.codeIn K cd_l_is_lot "_law_is_lot" = true)
    (k_l_is_lot : PySem.W.keepIn K (.ref f_l_is_lot) = true)
    (a_l_is_due : PySem.W.nsIn K mainGlobals "_law_is_due" = some (some (.ref f_l_is_due)))
    (l_l_is_due : K.lookup f_l_is_due = some ⟨oc_l_is_due, od_l_is_due, .func (PySem.W.fnOf "_law_is_due" "_law_is_due" (defArgs s_l_is_due) (defBody s_l_is_due) (defScope s_l_is_due) .none kV_l_is_due dc_l_is_due pm_l_is_due an_l_is_due cd_l_is_due ct_l_is_due), sl_l_is_due⟩)
    (c_l_is_due : PySem.W.codeIn K cd_l_is_due "_law_is_due" = true)
    (k_l_is_due : PySem.W.keepIn K (.ref f_l_is_due) = true)
    (a_is_tuple : PySem.W.nsIn K mainGlobals "is_tuple" = some (some (.ref f_is_tuple)))
    (l_is_tuple : K.lookup f_is_tuple = some ⟨oc_is_tuple, od_is_tuple, .func (PySem.W.fnOf "is_tuple" "is_tuple" (defArgs s_is_tuple) (defBody s_is_tuple) (defScope s_is_tuple) (.ref T_is_tuple) kV_is_tuple dc_is_tuple pm_is_tuple an_is_tuple cd_is_tuple ct_is_tuple), sl_is_tuple⟩)
    (c_is_tuple : PySem.W.codeIn K cd_is_tuple "is_tuple" = true)
    (k_is_tuple : PySem.W.keepIn K (.ref f_is_tuple) = true)
    (lT_is_tuple : K.lookup T_is_tuple = some ⟨uc_is_tuple, ud_is_tuple, .seq #[.none] un_is_tuple, us_is_tuple⟩)
    (a_are_strings : PySem.W.nsIn K mainGlobals "are_strings" = some (some (.ref f_are_strings)))
    (l_are_strings : K.lookup f_are_strings = some ⟨oc_are_strings, od_are_strings, .func (PySem.W.fnOf "are_strings" "are_strings" (defArgs s_are_strings) (defBody s_are_strings) (defScope s_are_strings) .none kV_are_strings dc_are_strings pm_are_strings an_are_strings cd_are_strings ct_are_strings), sl_are_strings⟩)
    (c_are_strings : PySem.W.codeIn K cd_are_strings "are_strings" = true)
    (k_are_strings : PySem.W.keepIn K (.ref f_are_strings) = true)
    (a_Web_is_way : PySem.W.findIn K (.ref C_Web) "is_way" = some (some (.ref f_Web_is_way)))
    (i_Web_is_way : PySem.W.isFn K (.ref f_Web_is_way) = true)
    (l_Web_is_way : K.lookup f_Web_is_way = some ⟨oc_Web_is_way, od_Web_is_way, .func (PySem.W.fnOf "is_way" "Web.is_way" (defArgs s_Web_is_way) (defBody s_Web_is_way) (defScope s_Web_is_way) .none kV_Web_is_way dc_Web_is_way pm_Web_is_way an_Web_is_way cd_Web_is_way ct_Web_is_way), sl_Web_is_way⟩)
    (c_Web_is_way : PySem.W.codeIn K cd_Web_is_way "Web.is_way" = true)
    (k_Web_is_way : PySem.W.keepIn K (.ref f_Web_is_way) = true)
    (a_is_in_sequence : PySem.W.nsIn K mainGlobals "is_in_sequence" = some (some (.ref f_is_in_sequence)))
    (l_is_in_sequence : K.lookup f_is_in_sequence = some ⟨oc_is_in_sequence, od_is_in_sequence, .func (PySem.W.fnOf "is_in_sequence" "is_in_sequence" (defArgs s_is_in_sequence) (defBody s_is_in_sequence) (defScope s_is_in_sequence) .none kV_is_in_sequence dc_is_in_sequence pm_is_in_sequence an_is_in_sequence cd_is_in_sequence ct_is_in_sequence), sl_is_in_sequence⟩)
    (c_is_in_sequence : PySem.W.codeIn K cd_is_in_sequence "is_in_sequence" = true)
    (k_is_in_sequence : PySem.W.keepIn K (.ref f_is_in_sequence) = true)
    (a_shows_around : PySem.W.nsIn K mainGlobals "shows_around" = some (some (.ref f_shows_around)))
    (l_shows_around : K.lookup f_shows_around = some ⟨oc_shows_around, od_shows_around, .func (PySem.W.fnOf "shows_around" "shows_around" (defArgs s_shows_around) (defBody s_shows_around) (defScope s_shows_around) .none kV_shows_around dc_shows_around pm_shows_around an_shows_around cd_shows_around ct_shows_around), sl_shows_around⟩)
    (c_shows_around : PySem.W.codeIn K cd_shows_around "shows_around" = true)
    (k_shows_around : PySem.W.keepIn K (.ref f_shows_around) = true)
    (a_l_right : PySem.W.nsIn K mainGlobals "_law_right" = some (some (.ref f_l_right)))
    (l_l_right : K.lookup f_l_right = some ⟨oc_l_right, od_l_right, .func (PySem.W.fnOf "_law_right" "_law_right" (defArgs s_l_right) (defBody s_l_right) (defScope s_l_right) .none kV_l_right dc_l_right pm_l_right an_l_right cd_l_right ct_l_right), sl_l_right⟩)
    (c_l_right : PySem.W.codeIn K cd_l_right "_law_right" = true)
    (k_l_right : PySem.W.keepIn K (.ref f_l_right) = true) :
    ∃ fd : FuncData, (∀ (s : Shared) (v : Value), BindsTo s fd ⟨[v], []⟩ [("_law_script", v)]) ∧ ∀ base : Heap, K.In base → base.Ns mainGlobals mg → FnOk l.prog w K mg base (L2.CX l.prog w) 7 fa fd ["_law_script"] (spLaw K) := by
  have e : f_law = fa := by
    have e := hfa.symm.trans (PySem.W.mg_of X X2 a_law)
    cases e
    rfl
  subst e
  have F_l_cells : FunD K "_law_cells" "_law_cells" (defArgs s_l_cells) (defBody s_l_cells) (defScope s_l_cells) [] [] f_l_cells _ := ⟨⟨_, _, _, _, _, _, _, _, _, _, rfl, l_l_cells, c_l_cells, .inl ⟨rfl, rfl⟩, .inl rfl⟩, k_l_cells⟩
  have F_l_pot : FunD K "_law_pot" "_law_pot" (defArgs s_l_pot) (defBody s_l_pot) (defScope s_l_pot) [] [] f_l_pot _ := ⟨⟨_, _, _, _, _, _, _, _, _, _, rfl, l_l_pot, c_l_pot, .inl ⟨rfl, rfl⟩, .inl rfl⟩, k_l_pot⟩
  have F_law : FunD K "law" "law" (defArgs s_law) (defBody s_law) (defScope s_law) [] [] f_law _ := ⟨⟨_, _, _, _, _, _, _, _, _, _, rfl, l_law, c_law, .inl ⟨rfl, rfl⟩, .inl rfl⟩, k_law⟩
  have F_l_take : FunD K "_law_take" "_law_take" (defArgs s_l_take) (defBody s_l_take) (defScope s_l_take) [] [] f_l_take _ := ⟨⟨_, _, _, _, _, _, _, _, _, _, rfl, l_l_take, c_l_take, .inl ⟨rfl, rfl⟩, .inl rfl⟩, k_l_take⟩
  have F_l_some : FunD K "_law_some" "_law_some" (defArgs s_l_some) (defBody s_l_some) (defScope s_l_some) [] [] f_l_some _ := ⟨⟨_, _, _, _, _, _, _, _, _, _, rfl, l_l_some, c_l_some, .inl ⟨rfl, rfl⟩, .inl rfl⟩, k_l_some⟩
  have F_l_names : FunD K "_law_names" "_law_names" (defArgs s_l_names) (defBody s_l_names) (defScope s_l_names) [] [] f_l_names _ := ⟨⟨_, _, _, _, _, _, _, _, _, _, rfl, l_l_names, c_l_names, .inl ⟨rfl, rfl⟩, .inl rfl⟩, k_l_names⟩
  have F_l_of : FunD K "_law_of" "_law_of" (defArgs s_l_of) (defBody s_l_of) (defScope s_l_of) [] [] f_l_of _ := ⟨⟨_, _, _, _, _, _, _, _, _, _, rfl, l_l_of, c_l_of, .inl ⟨rfl, rfl⟩, .inl rfl⟩, k_l_of⟩
  have F_l_drawn : FunD K "_law_drawn" "_law_drawn" (defArgs s_l_drawn) (defBody s_l_drawn) (defScope s_l_drawn) [] [] f_l_drawn _ := ⟨⟨_, _, _, _, _, _, _, _, _, _, rfl, l_l_drawn, c_l_drawn, .inl ⟨rfl, rfl⟩, .inl rfl⟩, k_l_drawn⟩
  have F_l_lore : FunD K "_law_lore" "_law_lore" (defArgs s_l_lore) (defBody s_l_lore) (defScope s_l_lore) [] [] f_l_lore _ := ⟨⟨_, _, _, _, _, _, _, _, _, _, rfl, l_l_lore, c_l_lore, .inl ⟨rfl, rfl⟩, .inl rfl⟩, k_l_lore⟩
  have F_is_name : FunD K "is_name" "is_name" (defArgs s_is_name) (defBody s_is_name) (defScope s_is_name) [] [] f_is_name _ := ⟨⟨_, _, _, _, _, _, _, _, _, _, rfl, l_is_name, c_is_name, .inl ⟨rfl, rfl⟩, .inl rfl⟩, k_is_name⟩
  have F_name_in : FunD K "name_in" "name_in" (defArgs s_name_in) (defBody s_name_in) (defScope s_name_in) [] [] f_name_in _ := ⟨⟨_, _, _, _, _, _, _, _, _, _, rfl, l_name_in, c_name_in, .inl ⟨rfl, rfl⟩, .inl rfl⟩, k_name_in⟩
  have F_lane_in : FunD K "lane_in" "lane_in" (defArgs s_lane_in) (defBody s_lane_in) (defScope s_lane_in) [] [] f_lane_in _ := ⟨⟨_, _, _, _, _, _, _, _, _, _, rfl, l_lane_in, c_lane_in, .inl ⟨rfl, rfl⟩, .inl rfl⟩, k_lane_in⟩
  have F_taken : FunD K "taken" "taken" (defArgs s_taken) (defBody s_taken) (defScope s_taken) [] [] f_taken _ := ⟨⟨_, _, _, _, _, _, _, _, _, _, rfl, l_taken, c_taken, .inl ⟨rfl, rfl⟩, .inl rfl⟩, k_taken⟩
  have F_comers : FunD K "comers" "comers" (defArgs s_comers) (defBody s_comers) (defScope s_comers) [.ref T_comers_0] [] f_comers _ := ⟨⟨_, _, _, _, _, _, _, _, _, _, rfl, l_comers, c_comers, .inr ⟨List.cons_ne_nil _ _, T_comers, _, [.ref T_comers_0], _, rfl, lT_comers, rfl, .cons rfl (.nil)⟩, .inl rfl⟩, k_comers⟩
  have F_Web_init : FunD K "__init__" "Web.__init__" (defArgs s_Web_init) (defBody s_Web_init) (defScope s_Web_init) [] [] f_Web_init _ := ⟨⟨_, _, _, _, _, _, _, _, _, _, rfl, l_Web_init, c_Web_init, .inl ⟨rfl, rfl⟩, .inl rfl⟩, k_Web_init⟩
  have F_l_lines : FunD K "_law_lines" "_law_lines" (defArgs s_l_lines) (defBody s_l_lines) (defScope s_l_lines) [] [] f_l_lines _ := ⟨⟨_, _, _, _, _, _, _, _, _, _, rfl, l_l_lines, c_l_lines, .inl ⟨rfl, rfl⟩, .inl rfl⟩, k_l_lines⟩
  have F_l_text : FunD K "_law_text" "_law_text" (defArgs s_l_text) (defBody s_l_text) (defScope s_l_text) [] [] f_l_text _ := ⟨⟨_, _, _, _, _, _, _, _, _, _, rfl, l_l_text, c_l_text, .inl ⟨rfl, rfl⟩, .inl rfl⟩, k_l_text⟩
  have F_l_comers : FunD K "_law_comers" "_law_comers" (defArgs s_l_comers) (defBody s_l_comers) (defScope s_l_comers) [] [] f_l_comers _ := ⟨⟨_, _, _, _, _, _, _, _, _, _, rfl, l_l_comers, c_l_comers, .inl ⟨rfl, rfl⟩, .inl rfl⟩, k_l_comers⟩
  have F_l_home : FunD K "_law_home" "_law_home" (defArgs s_l_home) (defBody s_l_home) (defScope s_l_home) [] [] f_l_home _ := ⟨⟨_, _, _, _, _, _, _, _, _, _, rfl, l_l_home, c_l_home, .inl ⟨rfl, rfl⟩, .inl rfl⟩, k_l_home⟩
  have F_is_one_of : FunD K "is_one_of" "is_one_of" (defArgs s_is_one_of) (defBody s_is_one_of) (defScope s_is_one_of) [] [] f_is_one_of _ := ⟨⟨_, _, _, _, _, _, _, _, _, _, rfl, l_is_one_of, c_is_one_of, .inl ⟨rfl, rfl⟩, .inl rfl⟩, k_is_one_of⟩
  have F_Web_check_house : FunD K "check_house" "Web.check_house" (defArgs s_Web_check_house) (defBody s_Web_check_house) (defScope s_Web_check_house) [] [] f_Web_check_house _ := ⟨⟨_, _, _, _, _, _, _, _, _, _, rfl, l_Web_check_house, c_Web_check_house, .inl ⟨rfl, rfl⟩, .inl rfl⟩, k_Web_check_house⟩
  have F_Web_check_home : FunD K "check_home" "Web.check_home" (defArgs s_Web_check_home) (defBody s_Web_check_home) (defScope s_Web_check_home) [] [] f_Web_check_home _ := ⟨⟨_, _, _, _, _, _, _, _, _, _, rfl, l_Web_check_home, c_Web_check_home, .inl ⟨rfl, rfl⟩, .inl rfl⟩, k_Web_check_home⟩
  have F_houses_above : FunD K "houses_above" "houses_above" (defArgs s_houses_above) (defBody s_houses_above) (defScope s_houses_above) [] [] f_houses_above _ := ⟨⟨_, _, _, _, _, _, _, _, _, _, rfl, l_houses_above, c_houses_above, .inl ⟨rfl, rfl⟩, .inl rfl⟩, k_houses_above⟩
  have F_Web_home : FunD K "home" "Web.home" (defArgs s_Web_home) (defBody s_Web_home) (defScope s_Web_home) [] [] f_Web_home _ := ⟨⟨_, _, _, _, _, _, _, _, _, _, rfl, l_Web_home, c_Web_home, .inl ⟨rfl, rfl⟩, .inl rfl⟩, k_Web_home⟩
  have F_Web_gate : FunD K "gate" "Web.gate" (defArgs s_Web_gate) (defBody s_Web_gate) (defScope s_Web_gate) [] [] f_Web_gate _ := ⟨⟨_, _, _, _, _, _, _, _, _, _, rfl, l_Web_gate, c_Web_gate, .inl ⟨rfl, rfl⟩, .inl rfl⟩, k_Web_gate⟩
  have F_Web_lanes : FunD K "lanes" "Web.lanes" (defArgs s_Web_lanes) (defBody s_Web_lanes) (defScope s_Web_lanes) [] [] f_Web_lanes _ := ⟨⟨_, _, _, _, _, _, _, _, _, _, rfl, l_Web_lanes, c_Web_lanes, .inl ⟨rfl, rfl⟩, .inl rfl⟩, k_Web_lanes⟩
  have F_musts_by_house : FunD K "musts_by_house" "musts_by_house" (defArgs s_musts_by_house) (defBody s_musts_by_house) (defScope s_musts_by_house) [] [] f_musts_by_house _ := ⟨⟨_, _, _, _, _, _, _, _, _, _, rfl, l_musts_by_house, c_musts_by_house, .inl ⟨rfl, rfl⟩, .inl rfl⟩, k_musts_by_house⟩
  have F_tree_of : FunD K "tree_of" "tree_of" (defArgs s_tree_of) (defBody s_tree_of) (defScope s_tree_of) [] [] f_tree_of _ := ⟨⟨_, _, _, _, _, _, _, _, _, _, rfl, l_tree_of, c_tree_of, .inl ⟨rfl, rfl⟩, .inl rfl⟩, k_tree_of⟩
  have F_musts : FunD K "musts" "musts" (defArgs s_musts) (defBody s_musts) (defScope s_musts) [] [] f_musts _ := ⟨⟨_, _, _, _, _, _, _, _, _, _, rfl, l_musts, c_musts, .inl ⟨rfl, rfl⟩, .inl rfl⟩, k_musts⟩
  have F_Web_houses : FunD K "houses" "Web.houses" (defArgs s_Web_houses) (defBody s_Web_houses) (defScope s_Web_houses) [] [] f_Web_houses _ := ⟨⟨_, _, _, _, _, _, _, _, _, _, rfl, l_Web_houses, c_Web_houses, .inl ⟨rfl, rfl⟩, .inl rfl⟩, k_Web_houses⟩
  have F_check_two : FunD K "check_two" "check_two" (defArgs s_check_two) (defBody s_check_two) (defScope s_check_two) [] [] f_check_two _ := ⟨⟨_, _, _, _, _, _, _, _, _, _, rfl, l_check_two, c_check_two, .inl ⟨rfl, rfl⟩, .inl rfl⟩, k_check_two⟩
  have F_Web_way_without : FunD K "way_without" "Web.way_without" (defArgs s_Web_way_without) (defBody s_Web_way_without) (defScope s_Web_way_without) [] [] f_Web_way_without _ := ⟨⟨_, _, _, _, _, _, _, _, _, _, rfl, l_Web_way_without, c_Web_way_without, .inl ⟨rfl, rfl⟩, .inl rfl⟩, k_Web_way_without⟩
  have F_reached : FunD K "reached" "reached" (defArgs s_reached) (defBody s_reached) (defScope s_reached) [] [] f_reached _ := ⟨⟨_, _, _, _, _, _, _, _, _, _, rfl, l_reached, c_reached, .inl ⟨rfl, rfl⟩, .inl rfl⟩, k_reached⟩
  have F_around : FunD K "around" "around" (defArgs s_around) (defBody s_around) (defScope s_around) [] [] f_around _ := ⟨⟨_, _, _, _, _, _, _, _, _, _, rfl, l_around, c_around, .inl ⟨rfl, rfl⟩, .inl rfl⟩, k_around⟩
  have F_l_is_way : FunD K "_law_is_way" "_law_is_way" (defArgs s_l_is_way) (defBody s_l_is_way) (defScope s_l_is_way) [] [] f_l_is_way _ := ⟨⟨_, _, _, _, _, _, _, _, _, _, rfl, l_l_is_way, c_l_is_way, .inl ⟨rfl, rfl⟩, .inl rfl⟩, k_l_is_way⟩
  have F_l_is_lot : FunD K "_law_is_lot" "_law_is_lot" (defArgs s_l_is_lot) (defBody s_l_is_lot) (defScope s_l_is_lot) [] [] f_l_is_lot _ := ⟨⟨_, _, _, _, _, _, _, _, _, _, rfl, l_l_is_lot, c_l_is_lot, .inl ⟨rfl, rfl⟩, .inl rfl⟩, k_l_is_lot⟩
  have F_l_is_due : FunD K "_law_is_due" "_law_is_due" (defArgs s_l_is_due) (defBody s_l_is_due) (defScope s_l_is_due) [] [] f_l_is_due _ := ⟨⟨_, _, _, _, _, _, _, _, _, _, rfl, l_l_is_due, c_l_is_due, .inl ⟨rfl, rfl⟩, .inl rfl⟩, k_l_is_due⟩
  have F_is_tuple : FunD K "is_tuple" "is_tuple" (defArgs s_is_tuple) (defBody s_is_tuple) (defScope s_is_tuple) [.non] [] f_is_tuple _ := ⟨⟨_, _, _, _, _, _, _, _, _, _, rfl, l_is_tuple, c_is_tuple, .inr ⟨List.cons_ne_nil _ _, T_is_tuple, _, [.none], _, rfl, lT_is_tuple, rfl, .cons rfl (.nil)⟩, .inl rfl⟩, k_is_tuple⟩
  have F_are_strings : FunD K "are_strings" "are_strings" (defArgs s_are_strings) (defBody s_are_strings) (defScope s_are_strings) [] [] f_are_strings _ := ⟨⟨_, _, _, _, _, _, _, _, _, _, rfl, l_are_strings, c_are_strings, .inl ⟨rfl, rfl⟩, .inl rfl⟩, k_are_strings⟩
  have F_Web_is_way : FunD K "is_way" "Web.is_way" (defArgs s_Web_is_way) (defBody s_Web_is_way) (defScope s_Web_is_way) [] [] f_Web_is_way _ := ⟨⟨_, _, _, _, _, _, _, _, _, _, rfl, l_Web_is_way, c_Web_is_way, .inl ⟨rfl, rfl⟩, .inl rfl⟩, k_Web_is_way⟩
  have F_is_in_sequence : FunD K "is_in_sequence" "is_in_sequence" (defArgs s_is_in_sequence) (defBody s_is_in_sequence) (defScope s_is_in_sequence) [] [] f_is_in_sequence _ := ⟨⟨_, _, _, _, _, _, _, _, _, _, rfl, l_is_in_sequence, c_is_in_sequence, .inl ⟨rfl, rfl⟩, .inl rfl⟩, k_is_in_sequence⟩
  have F_shows_around : FunD K "shows_around" "shows_around" (defArgs s_shows_around) (defBody s_shows_around) (defScope s_shows_around) [] [] f_shows_around _ := ⟨⟨_, _, _, _, _, _, _, _, _, _, rfl, l_shows_around, c_shows_around, .inl ⟨rfl, rfl⟩, .inl rfl⟩, k_shows_around⟩
  have F_l_right : FunD K "_law_right" "_law_right" (defArgs s_l_right) (defBody s_l_right) (defScope s_l_right) [] [] f_l_right _ := ⟨⟨_, _, _, _, _, _, _, _, _, _, rfl, l_l_right, c_l_right, .inl ⟨rfl, rfl⟩, .inl rfl⟩, k_l_right⟩
  refine ⟨_, fun s v => F_law.bindsA (ps := ["_law_script"]) (fun _ _ _ _ _ _ us hl => match us, hl with | [_], _ => rfl) s [v] rfl, fun base _ _ => ?_⟩
  let G : Glob := ⟨l.prog, w, K, mg, base, fun i => if i = 0 then C_Web else 0⟩
  have T : Tx G := {
    g_MOST_HOUSES := ⟨_, PySem.W.mg_of X X2 g_MOST_HOUSES⟩,
    g_MOST_LANES := ⟨_, PySem.W.mg_of X X2 g_MOST_LANES⟩,
    g_MOST_LETTERS := ⟨_, PySem.W.mg_of X X2 g_MOST_LETTERS⟩,
    g_PAIR := ⟨_, PySem.W.mg_of X X2 g_PAIR⟩,
    g_TRIPLE := ⟨_, PySem.W.mg_of X X2 g_TRIPLE⟩,
    b_all := PySem.W.mg_none_of X X2 b_all,
    b_dict := PySem.W.mg_none_of X X2 b_dict,
    b_enumerate := PySem.W.mg_none_of X X2 b_enumerate,
    b_int := PySem.W.mg_none_of X X2 b_int,
    b_isinstance := PySem.W.mg_none_of X X2 b_isinstance,
    b_len := PySem.W.mg_none_of X X2 b_len,
    b_list := PySem.W.mg_none_of X X2 b_list,
    b_min := PySem.W.mg_none_of X X2 b_min,
    b_range := PySem.W.mg_none_of X X2 b_range,
    b_set := PySem.W.mg_none_of X X2 b_set,
    b_str := PySem.W.mg_none_of X X2 b_str,
    b_tuple := PySem.W.mg_none_of X X2 b_tuple,
    b_zip := PySem.W.mg_none_of X X2 b_zip,
    sl_Web_own_gate := ⟨_, sa1_Web_own_gate, sa2_Web_own_gate, sa3_Web_own_gate, sa4_Web_own_gate, sa5_Web_own_gate, by decide⟩,
    sl_Web_own_home := ⟨_, sa1_Web_own_home, sa2_Web_own_home, sa3_Web_own_home, sa4_Web_own_home, sa5_Web_own_home, by decide⟩,
    sl_Web_own_houses := ⟨_, sa1_Web_own_houses, sa2_Web_own_houses, sa3_Web_own_houses, sa4_Web_own_houses, sa5_Web_own_houses, by decide⟩,
    sl_Web_own_lanes := ⟨_, sa1_Web_own_lanes, sa2_Web_own_lanes, sa3_Web_own_lanes, sa4_Web_own_lanes, sa5_Web_own_lanes, by decide⟩,
    sl_Web_own_text := ⟨_, sa1_Web_own_text, sa2_Web_own_text, sa3_Web_own_text, sa4_Web_own_text, sa5_Web_own_text, by decide⟩,
    g_AROUND := ⟨_, PySem.W.mg_of X X2 g_AROUND⟩,
    g_BLANK := ⟨_, PySem.W.mg_of X X2 g_BLANK⟩,
    g_FEED := ⟨_, PySem.W.mg_of X X2 g_FEED⟩,
    g_GATE := ⟨_, PySem.W.mg_of X X2 g_GATE⟩,
    g_HOUSE := ⟨_, PySem.W.mg_of X X2 g_HOUSE⟩,
    g_LANE := ⟨_, PySem.W.mg_of X X2 g_LANE⟩,
    g_LETTERS := ⟨_, PySem.W.mg_of X X2 g_LETTERS⟩,
    g_MUST := ⟨_, PySem.W.mg_of X X2 g_MUST⟩,
    cls_Web := ⟨pg_Web, ic_Web, po_Web, sa_Web⟩ }
  have o_l_take : FnOk G.prog G.w G.K G.mg G.base (L2.CX G.prog G.w) 1 f_l_take _ ["_law_pot_here", "_law_upto"] (spOf G.K G.cls 2 VL.F_l_take) := def_okD F_l_take sc_l_take rfl (d_l_take T ) (by decide)
  have B_l_take_2 : Binds K _ ["_law_pot_here", "_law_upto"] [] := F_l_take.bindsN fun _ _ _ _ _ _ us hl => match us, hl with | [_, _], _ => rfl
  have c_l_take_2 : FnI G "_law_take" 1 2 [] t_l_take := (fnI_mk o_l_take (PySem.W.mg_of X X2 a_l_take) k_l_take rfl B_l_take_2 .nil (fun P H => .nil)).imp (fun ds => Le.refl _)
  have o_l_some : FnOk G.prog G.w G.K G.mg G.base (L2.CX G.prog G.w) 2 f_l_some _ ["_law_pot_here", "_law_pool", "_law_many"] (spOf G.K G.cls 3 VL.F_l_some) := def_okD F_l_some sc_l_some rfl (d_l_some T c_l_take_2) (by decide)
  have B_l_some_3 : Binds K _ ["_law_pot_here", "_law_pool", "_law_many"] [] := F_l_some.bindsN fun _ _ _ _ _ _ us hl => match us, hl with | [_, _, _], _ => rfl
  have c_l_some_3 : FnI G "_law_some" 2 3 [] t_l_some := (fnI_mk o_l_some (PySem.W.mg_of X X2 a_l_some) k_l_some rfl B_l_some_3 .nil (fun P H => .nil)).imp (fun ds => Le.refl _)
  have o_l_names : FnOk G.prog G.w G.K G.mg G.base (L2.CX G.prog G.w) 3 f_l_names _ ["_law_pot_here", "_law_many"] (spOf G.K G.cls 2 VL.F_l_names) := def_okD F_l_names sc_l_names rfl (d_l_names T c_l_some_3) (by decide)
  have B_l_names_2 : Binds K _ ["_law_pot_here", "_law_many"] [] := F_l_names.bindsN fun _ _ _ _ _ _ us hl => match us, hl with | [_, _], _ => rfl
  have c_l_names_2 : FnI G "_law_names" 3 2 [] t_l_names := (fnI_mk o_l_names (PySem.W.mg_of X X2 a_l_names) k_l_names rfl B_l_names_2 .nil (fun P H => .nil)).imp (fun ds => Le.refl _)
  have o_l_of : FnOk G.prog G.w G.K G.mg G.base (L2.CX G.prog G.w) 2 f_l_of _ ["_law_pot_here", "_law_some_here"] (spOf G.K G.cls 2 VL.F_l_of) := def_okD F_l_of sc_l_of rfl (d_l_of T c_l_take_2) (by decide)
  have B_l_of_2 : Binds K _ ["_law_pot_here", "_law_some_here"] [] := F_l_of.bindsN fun _ _ _ _ _ _ us hl => match us, hl with | [_, _], _ => rfl
  have c_l_of_2 : FnI G "_law_of" 2 2 [] t_l_of := (fnI_mk o_l_of (PySem.W.mg_of X X2 a_l_of) k_l_of rfl B_l_of_2 .nil (fun P H => .nil)).imp (fun ds => Le.refl _)
  have o_l_drawn : FnOk G.prog G.w G.K G.mg G.base (L2.CX G.prog G.w) 4 f_l_drawn _ ["_law_pot_here", "_law_many"] (spOf G.K G.cls 2 VL.F_l_drawn) := def_okD F_l_drawn sc_l_drawn rfl (d_l_drawn T c_l_names_2 c_l_some_3 c_l_take_2 c_l_of_2) (by decide)
  have B_l_drawn_2 : Binds K _ ["_law_pot_here", "_law_many"] [] := F_l_drawn.bindsN fun _ _ _ _ _ _ us hl => match us, hl with | [_, _], _ => rfl
  have c_l_drawn_2 : FnI G "_law_drawn" 4 2 [] t_l_drawn := (fnI_mk o_l_drawn (PySem.W.mg_of X X2 a_l_drawn) k_l_drawn rfl B_l_drawn_2 .nil (fun P H => .nil)).imp (fun ds => Le.refl _)
  have o_l_lore : FnOk G.prog G.w G.K G.mg G.base (L2.CX G.prog G.w) 5 f_l_lore _ ["_law_pot_here", "_law_fewest", "_law_most"] (spOf G.K G.cls 3 VL.F_l_lore) := def_okD F_l_lore sc_l_lore rfl (d_l_lore T c_l_drawn_2 c_l_take_2) (by decide)
  have B_l_lore_3 : Binds K _ ["_law_pot_here", "_law_fewest", "_law_most"] [] := F_l_lore.bindsN fun _ _ _ _ _ _ us hl => match us, hl with | [_, _, _], _ => rfl
  have c_l_lore_3 : FnI G "_law_lore" 5 3 [] t_l_lore := (fnI_mk o_l_lore (PySem.W.mg_of X X2 a_l_lore) k_l_lore rfl B_l_lore_3 .nil (fun P H => .nil)).imp (fun ds => Le.refl _)
  have o_is_name : FnOk G.prog G.w G.K G.mg G.base (L2.CX G.prog G.w) 1 f_is_name _ ["value"] (spOf G.K G.cls 1 VL.F_is_name) := def_okD F_is_name sc_is_name rfl (d_is_name T ) (by decide)
  have B_is_name_1 : Binds K _ ["value"] [] := F_is_name.bindsN fun _ _ _ _ _ _ us hl => match us, hl with | [_], _ => rfl
  have c_is_name_1 : FnI G "is_name" 1 1 [] t_is_name := (fnI_mk o_is_name (PySem.W.mg_of X X2 a_is_name) k_is_name rfl B_is_name_1 .nil (fun P H => .nil)).imp (fun ds => Le.refl _)
  have o_name_in : FnOk G.prog G.w G.K G.mg G.base (L2.CX G.prog G.w) 2 f_name_in _ ["line", "word"] (spOf G.K G.cls 2 VL.F_name_in) := def_okD F_name_in sc_name_in rfl (d_name_in T c_is_name_1) (by decide)
  have B_name_in_2 : Binds K _ ["line", "word"] [] := F_name_in.bindsN fun _ _ _ _ _ _ us hl => match us, hl with | [_, _], _ => rfl
  have c_name_in_2 : FnI G "name_in" 2 2 [] t_name_in := (fnI_mk o_name_in (PySem.W.mg_of X X2 a_name_in) k_name_in rfl B_name_in_2 .nil (fun P H => .nil)).imp (fun ds => Le.refl _)
  have o_lane_in : FnOk G.prog G.w G.K G.mg G.base (L2.CX G.prog G.w) 1 f_lane_in _ ["line", "gate", "houses"] (spOf G.K G.cls 3 VL.F_lane_in) := def_okD F_lane_in sc_lane_in rfl (d_lane_in T ) (by decide)
  have B_lane_in_3 : Binds K _ ["line", "gate", "houses"] [] := F_lane_in.bindsN fun _ _ _ _ _ _ us hl => match us, hl with | [_, _, _], _ => rfl
  have c_lane_in_3 : FnI G "lane_in" 1 3 [] t_lane_in := (fnI_mk o_lane_in (PySem.W.mg_of X X2 a_lane_in) k_lane_in rfl B_lane_in_3 .nil (fun P H => .nil)).imp (fun ds => Le.refl _)
  have o_taken : FnOk G.prog G.w G.K G.mg G.base (L2.CX G.prog G.w) 3 f_taken _ ["text"] (spOf G.K G.cls 1 VL.F_taken) := def_okD F_taken sc_taken rfl (d_taken T c_name_in_2 c_lane_in_3) (by decide)
  have B_taken_1 : Binds K _ ["text"] [] := F_taken.bindsN fun _ _ _ _ _ _ us hl => match us, hl with | [_], _ => rfl
  have c_taken_1 : FnI G "taken" 3 1 [] t_taken := (fnI_mk o_taken (PySem.W.mg_of X X2 a_taken) k_taken rfl B_taken_1 .nil (fun P H => .nil)).imp (fun ds => Le.refl _)
  have o_comers : FnOk G.prog G.w G.K G.mg G.base (L2.CX G.prog G.w) 1 f_comers _ ["lanes", "gate", "gone"] (spOf G.K G.cls 3 VL.F_comers) := def_okD F_comers sc_comers rfl (d_comers T ) (by decide)
  obtain ⟨E_comers_2, V_comers_2, B_comers_2⟩ := F_comers.binds1 (ps := ["lanes", "gate", "gone"]) 2 0 (List.cons_ne_nil _ _) rfl fun _ _ _ _ _ _ _ us its hl hi => match us, its, hl, hi with | [_, _], [_], _, _ => ⟨_, rfl, rfl⟩
  have c_comers_2 : FnI G "comers" 1 3 [.tup []] t_comers := (fnI_mk o_comers (PySem.W.mg_of X X2 a_comers) k_comers rfl B_comers_2 V_comers_2 (fun P H => (.cons (.tup (.inr ⟨_, #[], _, lU_comers_0, rfl, rfl, Nat.zero_le _, .nil⟩) (Nat.zero_le _) .nil) .nil))).imp (fun ds => Le.refl _)
  obtain ⟨E_comers_3, V_comers_3, B_comers_3⟩ := F_comers.binds1 (ps := ["lanes", "gate", "gone"]) 3 1 (List.cons_ne_nil _ _) rfl fun _ _ _ _ _ _ _ us its hl hi => match us, its, hl, hi with | [_, _, _], [_], _, _ => ⟨_, rfl, rfl⟩
  have c_comers_3 : FnI G "comers" 1 3 [] t_comers := (fnI_mk o_comers (PySem.W.mg_of X X2 a_comers) k_comers rfl B_comers_3 V_comers_3 (fun P H => .nil)).imp (fun ds => Le.refl _)
  have o_Web_init : FnOk G.prog G.w G.K G.mg G.base (L2.CX G.prog G.w) 4 f_Web_init _ ["self", "text"] (spIni G.K G.cls 0 1 t_Web_init) := init_okD F_Web_init sc_Web_init rfl (d_Web_init T c_taken_1 c_comers_2) rfl (by decide) inile_Web_init
  have B_Web_init_2 : Binds K _ ["self", "text"] [] := F_Web_init.bindsN fun _ _ _ _ _ _ us hl => match us, hl with | [_, _], _ => rfl
  have mk_Web_1 : MkI G "Web" 0 4 1 [] t_Web_init := mkI_mk o_Web_init (PySem.W.mg_of X X2 aC_Web) ⟨m_Web, a_Web_init, i_Web_init, kC_Web⟩ B_Web_init_2 .nil (fun P H => .nil)
  have o_l_lines : FnOk G.prog G.w G.K G.mg G.base (L2.CX G.prog G.w) 1 f_l_lines _ ["_law_lore_here"] (spOf G.K G.cls 1 VL.F_l_lines) := def_okD F_l_lines sc_l_lines rfl (d_l_lines T ) (by decide)
  have B_l_lines_1 : Binds K _ ["_law_lore_here"] [] := F_l_lines.bindsN fun _ _ _ _ _ _ us hl => match us, hl with | [_], _ => rfl
  have c_l_lines_1 : FnI G "_law_lines" 1 1 [] t_l_lines := (fnI_mk o_l_lines (PySem.W.mg_of X X2 a_l_lines) k_l_lines rfl B_l_lines_1 .nil (fun P H => .nil)).imp (fun ds => Le.refl _)
  have o_l_text : FnOk G.prog G.w G.K G.mg G.base (L2.CX G.prog G.w) 2 f_l_text _ ["_law_lore_here"] (spOf G.K G.cls 1 VL.F_l_text) := def_okD F_l_text sc_l_text rfl (d_l_text T c_l_lines_1) (by decide)
  have B_l_text_1 : Binds K _ ["_law_lore_here"] [] := F_l_text.bindsN fun _ _ _ _ _ _ us hl => match us, hl with | [_], _ => rfl
  have c_l_text_1 : FnI G "_law_text" 2 1 [] t_l_text := (fnI_mk o_l_text (PySem.W.mg_of X X2 a_l_text) k_l_text rfl B_l_text_1 .nil (fun P H => .nil)).imp (fun ds => Le.refl _)
  have o_l_comers : FnOk G.prog G.w G.K G.mg G.base (L2.CX G.prog G.w) 1 f_l_comers _ ["_law_lore_here", "_law_gone"] (spOf G.K G.cls 2 VL.F_l_comers) := def_okD F_l_comers sc_l_comers rfl (d_l_comers T ) (by decide)
  have B_l_comers_2 : Binds K _ ["_law_lore_here", "_law_gone"] [] := F_l_comers.bindsN fun _ _ _ _ _ _ us hl => match us, hl with | [_, _], _ => rfl
  have c_l_comers_2 : FnI G "_law_comers" 1 2 [] t_l_comers := (fnI_mk o_l_comers (PySem.W.mg_of X X2 a_l_comers) k_l_comers rfl B_l_comers_2 .nil (fun P H => .nil)).imp (fun ds => Le.refl _)
  have o_l_home : FnOk G.prog G.w G.K G.mg G.base (L2.CX G.prog G.w) 2 f_l_home _ ["_law_lore_here"] (spOf G.K G.cls 1 VL.F_l_home) := def_okD F_l_home sc_l_home rfl (d_l_home T c_l_comers_2) (by decide)
  have B_l_home_1 : Binds K _ ["_law_lore_here"] [] := F_l_home.bindsN fun _ _ _ _ _ _ us hl => match us, hl with | [_], _ => rfl
  have c_l_home_1 : FnI G "_law_home" 2 1 [] t_l_home := (fnI_mk o_l_home (PySem.W.mg_of X X2 a_l_home) k_l_home rfl B_l_home_1 .nil (fun P H => .nil)).imp (fun ds => Le.refl _)
  have o_is_one_of : FnOk G.prog G.w G.K G.mg G.base (L2.CX G.prog G.w) 1 f_is_one_of _ ["value", "some"] (spOf G.K G.cls 2 VL.F_is_one_of) := def_okD F_is_one_of sc_is_one_of rfl (d_is_one_of T ) (by decide)
  have B_is_one_of_2 : Binds K _ ["value", "some"] [] := F_is_one_of.bindsN fun _ _ _ _ _ _ us hl => match us, hl with | [_, _], _ => rfl
  have c_is_one_of_2 : FnI G "is_one_of" 1 2 [] t_is_one_of := (fnI_mk o_is_one_of (PySem.W.mg_of X X2 a_is_one_of) k_is_one_of rfl B_is_one_of_2 .nil (fun P H => .nil)).imp (fun ds => Le.refl _)
  have o_Web_check_house : FnOk G.prog G.w G.K G.mg G.base (L2.CX G.prog G.w) 2 f_Web_check_house _ ["self", "value"] (spOf G.K G.cls 2 VL.F_Web_check_house) := def_okD F_Web_check_house sc_Web_check_house rfl (d_Web_check_house T c_is_one_of_2) (by decide)
  have B_Web_check_house_2 : Binds K _ ["self", "value"] [] := F_Web_check_house.bindsN fun _ _ _ _ _ _ us hl => match us, hl with | [_, _], _ => rfl
  have m_Web_check_house_1 : MethI G 0 "check_house" 2 2 [] t_Web_check_house := (methI_mk T.cls_Web o_Web_check_house B_Web_check_house_2 .nil ⟨a_Web_check_house, i_Web_check_house, k_Web_check_house⟩ (fun P H => .nil)).imp (fun ds => Le.refl _)
  have o_Web_check_home : FnOk G.prog G.w G.K G.mg G.base (L2.CX G.prog G.w) 3 f_Web_check_home _ ["self", "value"] (spOf G.K G.cls 2 VL.F_Web_check_home) := def_okD F_Web_check_home sc_Web_check_home rfl (d_Web_check_home T m_Web_check_house_1) (by decide)
  have B_Web_check_home_2 : Binds K _ ["self", "value"] [] := F_Web_check_home.bindsN fun _ _ _ _ _ _ us hl => match us, hl with | [_, _], _ => rfl
  have m_Web_check_home_1 : MethI G 0 "check_home" 3 2 [] t_Web_check_home := (methI_mk T.cls_Web o_Web_check_home B_Web_check_home_2 .nil ⟨a_Web_check_home, i_Web_check_home, k_Web_check_home⟩ (fun P H => .nil)).imp (fun ds => Le.refl _)
  have o_houses_above : FnOk G.prog G.w G.K G.mg G.base (L2.CX G.prog G.w) 1 f_houses_above _ ["tree", "place"] (spOf G.K G.cls 2 VL.F_houses_above) := def_okD F_houses_above sc_houses_above rfl (d_houses_above T ) (by decide)
  have B_houses_above_2 : Binds K _ ["tree", "place"] [] := F_houses_above.bindsN fun _ _ _ _ _ _ us hl => match us, hl with | [_, _], _ => rfl
  have c_houses_above_2 : FnI G "houses_above" 1 2 [] t_houses_above := (fnI_mk o_houses_above (PySem.W.mg_of X X2 a_houses_above) k_houses_above rfl B_houses_above_2 .nil (fun P H => .nil)).imp (fun ds => Le.refl _)
  have o_Web_home : FnOk G.prog G.w G.K G.mg G.base (L2.CX G.prog G.w) 1 f_Web_home _ ["self"] (spOf G.K G.cls 1 VL.F_Web_home) := def_okD F_Web_home sc_Web_home rfl (d_Web_home T ) (by decide)
  have B_Web_home_1 : Binds K _ ["self"] [] := F_Web_home.bindsN fun _ _ _ _ _ _ us hl => match us, hl with | [_], _ => rfl
  have p_Web_home : PropI G 0 "home" 1 t_Web_home := (propI_mk T.cls_Web o_Web_home B_Web_home_1 q1_Web_home q2_Web_home q3_Web_home q4_Web_home).imp (fun ds => Le.refl _)
  have o_Web_gate : FnOk G.prog G.w G.K G.mg G.base (L2.CX G.prog G.w) 1 f_Web_gate _ ["self"] (spOf G.K G.cls 1 VL.F_Web_gate) := def_okD F_Web_gate sc_Web_gate rfl (d_Web_gate T ) (by decide)
  have B_Web_gate_1 : Binds K _ ["self"] [] := F_Web_gate.bindsN fun _ _ _ _ _ _ us hl => match us, hl with | [_], _ => rfl
  have p_Web_gate : PropI G 0 "gate" 1 t_Web_gate := (propI_mk T.cls_Web o_Web_gate B_Web_gate_1 q1_Web_gate q2_Web_gate q3_Web_gate q4_Web_gate).imp (fun ds => Le.refl _)
  have o_Web_lanes : FnOk G.prog G.w G.K G.mg G.base (L2.CX G.prog G.w) 1 f_Web_lanes _ ["self"] (spOf G.K G.cls 1 VL.F_Web_lanes) := def_okD F_Web_lanes sc_Web_lanes rfl (d_Web_lanes T ) (by decide)
  have B_Web_lanes_1 : Binds K _ ["self"] [] := F_Web_lanes.bindsN fun _ _ _ _ _ _ us hl => match us, hl with | [_], _ => rfl
  have p_Web_lanes : PropI G 0 "lanes" 1 t_Web_lanes := (propI_mk T.cls_Web o_Web_lanes B_Web_lanes_1 q1_Web_lanes q2_Web_lanes q3_Web_lanes q4_Web_lanes).imp (fun ds => Le.refl _)
  have o_musts_by_house : FnOk G.prog G.w G.K G.mg G.base (L2.CX G.prog G.w) 3 f_musts_by_house _ ["web"] (spOf G.K G.cls 1 VL.F_musts_by_house) := def_okD F_musts_by_house sc_musts_by_house rfl (d_musts_by_house T p_Web_home c_comers_3 p_Web_gate p_Web_lanes) (by decide)
  have B_musts_by_house_1 : Binds K _ ["web"] [] := F_musts_by_house.bindsN fun _ _ _ _ _ _ us hl => match us, hl with | [_], _ => rfl
  have c_musts_by_house_1 : FnI G "musts_by_house" 3 1 [] t_musts_by_house := (fnI_mk o_musts_by_house (PySem.W.mg_of X X2 a_musts_by_house) k_musts_by_house rfl B_musts_by_house_1 .nil (fun P H => .nil)).imp (fun ds => Le.refl _)
  have o_tree_of : FnOk G.prog G.w G.K G.mg G.base (L2.CX G.prog G.w) 4 f_tree_of _ ["web"] (spOf G.K G.cls 1 VL.F_tree_of) := def_okD F_tree_of sc_tree_of rfl (d_tree_of T c_musts_by_house_1 p_Web_gate) (by decide)
  have B_tree_of_1 : Binds K _ ["web"] [] := F_tree_of.bindsN fun _ _ _ _ _ _ us hl => match us, hl with | [_], _ => rfl
  have c_tree_of_1 : FnI G "tree_of" 4 1 [] t_tree_of := (fnI_mk o_tree_of (PySem.W.mg_of X X2 a_tree_of) k_tree_of rfl B_tree_of_1 .nil (fun P H => .nil)).imp (fun ds => Le.refl _)
  have o_musts : FnOk G.prog G.w G.K G.mg G.base (L2.CX G.prog G.w) 5 f_musts _ ["web", "house"] (spOf G.K G.cls 2 VL.F_musts) := def_okD F_musts sc_musts rfl (d_musts T m_Web_check_home_1 c_houses_above_2 c_tree_of_1) (by decide)
  have B_musts_2 : Binds K _ ["web", "house"] [] := F_musts.bindsN fun _ _ _ _ _ _ us hl => match us, hl with | [_, _], _ => rfl
  have c_musts_2 : FnI G "musts" 5 2 [] t_musts := (fnI_mk o_musts (PySem.W.mg_of X X2 a_musts) k_musts rfl B_musts_2 .nil (fun P H => .nil)).imp (fun ds => Le.refl _)
  have o_Web_houses : FnOk G.prog G.w G.K G.mg G.base (L2.CX G.prog G.w) 1 f_Web_houses _ ["self"] (spOf G.K G.cls 1 VL.F_Web_houses) := def_okD F_Web_houses sc_Web_houses rfl (d_Web_houses T ) (by decide)
  have B_Web_houses_1 : Binds K _ ["self"] [] := F_Web_houses.bindsN fun _ _ _ _ _ _ us hl => match us, hl with | [_], _ => rfl
  have p_Web_houses : PropI G 0 "houses" 1 t_Web_houses := (propI_mk T.cls_Web o_Web_houses B_Web_houses_1 q1_Web_houses q2_Web_houses q3_Web_houses q4_Web_houses).imp (fun ds => Le.refl _)
  have o_check_two : FnOk G.prog G.w G.K G.mg G.base (L2.CX G.prog G.w) 4 f_check_two _ ["web", "house", "other"] (spOf G.K G.cls 3 VL.F_check_two) := def_okD F_check_two sc_check_two rfl (d_check_two T m_Web_check_home_1 c_is_one_of_2 p_Web_houses) (by decide)
  have B_check_two_3 : Binds K _ ["web", "house", "other"] [] := F_check_two.bindsN fun _ _ _ _ _ _ us hl => match us, hl with | [_, _, _], _ => rfl
  have c_check_two_3 : FnI G "check_two" 4 3 [] t_check_two := (fnI_mk o_check_two (PySem.W.mg_of X X2 a_check_two) k_check_two rfl B_check_two_3 .nil (fun P H => .nil)).imp (fun ds => Le.refl _)
  have o_Web_way_without : FnOk G.prog G.w G.K G.mg G.base (L2.CX G.prog G.w) 1 f_Web_way_without _ ["self", "house", "gone"] (spOf G.K G.cls 3 VL.F_Web_way_without) := def_okD F_Web_way_without sc_Web_way_without rfl (d_Web_way_without T ) (by decide)
  have B_Web_way_without_3 : Binds K _ ["self", "house", "gone"] [] := F_Web_way_without.bindsN fun _ _ _ _ _ _ us hl => match us, hl with | [_, _, _], _ => rfl
  have m_Web_way_without_2 : MethI G 0 "way_without" 1 3 [] t_Web_way_without := (methI_mk T.cls_Web o_Web_way_without B_Web_way_without_3 .nil ⟨a_Web_way_without, i_Web_way_without, k_Web_way_without⟩ (fun P H => .nil)).imp (fun ds => Le.refl _)
  have o_reached : FnOk G.prog G.w G.K G.mg G.base (L2.CX G.prog G.w) 3 f_reached _ ["web", "house", "gone"] (spOf G.K G.cls 3 VL.F_reached) := def_okD F_reached sc_reached rfl (d_reached T p_Web_lanes) (by decide)
  have B_reached_3 : Binds K _ ["web", "house", "gone"] [] := F_reached.bindsN fun _ _ _ _ _ _ us hl => match us, hl with | [_, _, _], _ => rfl
  have c_reached_3 : FnI G "reached" 3 3 [] t_reached := (fnI_mk o_reached (PySem.W.mg_of X X2 a_reached) k_reached rfl B_reached_3 .nil (fun P H => .nil)).imp (fun ds => Le.refl _)
  have o_around : FnOk G.prog G.w G.K G.mg G.base (L2.CX G.prog G.w) 5 f_around _ ["web", "house", "other"] (spOf G.K G.cls 3 VL.F_around) := def_okD F_around sc_around rfl (d_around T c_check_two_3 m_Web_way_without_2 c_reached_3 p_Web_houses) (by decide)
  have B_around_3 : Binds K _ ["web", "house", "other"] [] := F_around.bindsN fun _ _ _ _ _ _ us hl => match us, hl with | [_, _, _], _ => rfl
  have c_around_3 : FnI G "around" 5 3 [] t_around := (fnI_mk o_around (PySem.W.mg_of X X2 a_around) k_around rfl B_around_3 .nil (fun P H => .nil)).imp (fun ds => Le.refl _)
  have o_l_is_way : FnOk G.prog G.w G.K G.mg G.base (L2.CX G.prog G.w) 1 f_l_is_way _ ["_law_lore_here", "_law_house", "_law_value"] (spOf G.K G.cls 3 VL.F_l_is_way) := def_okD F_l_is_way sc_l_is_way rfl (d_l_is_way T ) (by decide)
  have B_l_is_way_3 : Binds K _ ["_law_lore_here", "_law_house", "_law_value"] [] := F_l_is_way.bindsN fun _ _ _ _ _ _ us hl => match us, hl with | [_, _, _], _ => rfl
  have c_l_is_way_3 : FnI G "_law_is_way" 1 3 [] t_l_is_way := (fnI_mk o_l_is_way (PySem.W.mg_of X X2 a_l_is_way) k_l_is_way rfl B_l_is_way_3 .nil (fun P H => .nil)).imp (fun ds => Le.refl _)
  have o_l_is_lot : FnOk G.prog G.w G.K G.mg G.base (L2.CX G.prog G.w) 1 f_l_is_lot _ ["_law_lore_here", "_law_house", "_law_other", "_law_value"] (spOf G.K G.cls 4 VL.F_l_is_lot) := def_okD F_l_is_lot sc_l_is_lot rfl (d_l_is_lot T ) (by decide)
  have B_l_is_lot_4 : Binds K _ ["_law_lore_here", "_law_house", "_law_other", "_law_value"] [] := F_l_is_lot.bindsN fun _ _ _ _ _ _ us hl => match us, hl with | [_, _, _, _], _ => rfl
  have c_l_is_lot_4 : FnI G "_law_is_lot" 1 4 [] t_l_is_lot := (fnI_mk o_l_is_lot (PySem.W.mg_of X X2 a_l_is_lot) k_l_is_lot rfl B_l_is_lot_4 .nil (fun P H => .nil)).imp (fun ds => Le.refl _)
  have o_l_is_due : FnOk G.prog G.w G.K G.mg G.base (L2.CX G.prog G.w) 2 f_l_is_due _ ["_law_lore_here", "_law_house", "_law_other", "_law_value"] (spOf G.K G.cls 4 VL.F_l_is_due) := def_okD F_l_is_due sc_l_is_due rfl (d_l_is_due T c_l_is_way_3 c_l_is_lot_4) (by decide)
  have B_l_is_due_4 : Binds K _ ["_law_lore_here", "_law_house", "_law_other", "_law_value"] [] := F_l_is_due.bindsN fun _ _ _ _ _ _ us hl => match us, hl with | [_, _, _, _], _ => rfl
  have c_l_is_due_4 : FnI G "_law_is_due" 2 4 [] t_l_is_due := (fnI_mk o_l_is_due (PySem.W.mg_of X X2 a_l_is_due) k_l_is_due rfl B_l_is_due_4 .nil (fun P H => .nil)).imp (fun ds => Le.refl _)
  have o_is_tuple : FnOk G.prog G.w G.K G.mg G.base (L2.CX G.prog G.w) 1 f_is_tuple _ ["value", "least", "most"] (spOf G.K G.cls 3 VL.F_is_tuple) := def_okD F_is_tuple sc_is_tuple rfl (d_is_tuple T ) (by decide)
  obtain ⟨E_is_tuple_3, V_is_tuple_3, B_is_tuple_3⟩ := F_is_tuple.binds1 (ps := ["value", "least", "most"]) 3 1 (List.cons_ne_nil _ _) rfl fun _ _ _ _ _ _ _ us its hl hi => match us, its, hl, hi with | [_, _, _], [_], _, _ => ⟨_, rfl, rfl⟩
  have c_is_tuple_3 : FnI G "is_tuple" 1 3 [] t_is_tuple := (fnI_mk o_is_tuple (PySem.W.mg_of X X2 a_is_tuple) k_is_tuple rfl B_is_tuple_3 V_is_tuple_3 (fun P H => .nil)).imp (fun ds => Le.refl _)
  have o_are_strings : FnOk G.prog G.w G.K G.mg G.base (L2.CX G.prog G.w) 1 f_are_strings _ ["value"] (spOf G.K G.cls 1 VL.F_are_strings) := def_okD F_are_strings sc_are_strings rfl (d_are_strings T ) (by decide)
  have B_are_strings_1 : Binds K _ ["value"] [] := F_are_strings.bindsN fun _ _ _ _ _ _ us hl => match us, hl with | [_], _ => rfl
  have c_are_strings_1 : FnI G "are_strings" 1 1 [] t_are_strings := (fnI_mk o_are_strings (PySem.W.mg_of X X2 a_are_strings) k_are_strings rfl B_are_strings_1 .nil (fun P H => .nil)).imp (fun ds => Le.refl _)
  have o_Web_is_way : FnOk G.prog G.w G.K G.mg G.base (L2.CX G.prog G.w) 3 f_Web_is_way _ ["self", "house", "value"] (spOf G.K G.cls 3 VL.F_Web_is_way) := def_okD F_Web_is_way sc_Web_is_way rfl (d_Web_is_way T m_Web_check_house_1 c_are_strings_1) (by decide)
  have B_Web_is_way_3 : Binds K _ ["self", "house", "value"] [] := F_Web_is_way.bindsN fun _ _ _ _ _ _ us hl => match us, hl with | [_, _, _], _ => rfl
  have m_Web_is_way_2 : MethI G 0 "is_way" 3 3 [] t_Web_is_way := (methI_mk T.cls_Web o_Web_is_way B_Web_is_way_3 .nil ⟨a_Web_is_way, i_Web_is_way, k_Web_is_way⟩ (fun P H => .nil)).imp (fun ds => Le.refl _)
  have o_is_in_sequence : FnOk G.prog G.w G.K G.mg G.base (L2.CX G.prog G.w) 1 f_is_in_sequence _ ["some", "every"] (spOf G.K G.cls 2 VL.F_is_in_sequence) := def_okD F_is_in_sequence sc_is_in_sequence rfl (d_is_in_sequence T ) (by decide)
  have B_is_in_sequence_2 : Binds K _ ["some", "every"] [] := F_is_in_sequence.bindsN fun _ _ _ _ _ _ us hl => match us, hl with | [_, _], _ => rfl
  have c_is_in_sequence_2 : FnI G "is_in_sequence" 1 2 [] t_is_in_sequence := (fnI_mk o_is_in_sequence (PySem.W.mg_of X X2 a_is_in_sequence) k_is_in_sequence rfl B_is_in_sequence_2 .nil (fun P H => .nil)).imp (fun ds => Le.refl _)
  have o_shows_around : FnOk G.prog G.w G.K G.mg G.base (L2.CX G.prog G.w) 5 f_shows_around _ ["web", "house", "other", "value"] (spOf G.K G.cls 4 VL.F_shows_around) := def_okD F_shows_around sc_shows_around rfl (d_shows_around T c_check_two_3 c_is_tuple_3 c_is_one_of_2 m_Web_is_way_2 c_are_strings_1 c_is_in_sequence_2 p_Web_houses p_Web_lanes) (by decide)
  have B_shows_around_4 : Binds K _ ["web", "house", "other", "value"] [] := F_shows_around.bindsN fun _ _ _ _ _ _ us hl => match us, hl with | [_, _, _, _], _ => rfl
  have c_shows_around_4 : FnI G "shows_around" 5 4 [] t_shows_around := (fnI_mk o_shows_around (PySem.W.mg_of X X2 a_shows_around) k_shows_around rfl B_shows_around_4 .nil (fun P H => .nil)).imp (fun ds => Le.refl _)
  have o_l_right : FnOk G.prog G.w G.K G.mg G.base (L2.CX G.prog G.w) 6 f_l_right _ ["_law_pot_here"] (spOf G.K G.cls 1 VL.F_l_right) := def_okD F_l_right sc_l_right rfl (d_l_right T c_l_lore_3 mk_Web_1 c_l_text_1 c_l_home_1 c_l_comers_2 c_musts_2 c_around_3 c_l_is_due_4 c_shows_around_4) (by decide)
  have B_l_right_1 : Binds K _ ["_law_pot_here"] [] := F_l_right.bindsN fun _ _ _ _ _ _ us hl => match us, hl with | [_], _ => rfl
  have c_l_right_1 : FnI G "_law_right" 6 1 [] t_l_right := (fnI_mk o_l_right (PySem.W.mg_of X X2 a_l_right) k_l_right rfl B_l_right_1 .nil (fun P H => .nil)).imp (fun ds => Le.refl _)
  have bC : Binds K _ ["_law_script", "_law_limit"] [] := F_l_cells.bindsN fun _ _ _ _ _ _ us hl => match us, hl with | [_, _], _ => rfl
  have bP : Binds K _ ["_law_script", "_law_place"] [] := F_l_pot.bindsN fun _ _ _ _ _ _ us hl => match us, hl with | [_, _], _ => rfl
  have oC : FnOk G.prog G.w G.K G.mg G.base (L2.CX G.prog G.w) 1 f_l_cells _ ["_law_script", "_law_limit"] (spCells G.K) := ok_cells F_l_cells sc_l_cells rfl rfl rfl rfl rfl rfl (PySem.W.mg_none_of X X2 b_list) (PySem.W.mg_none_of X X2 b_range) (PySem.W.mg_none_of X X2 b_max) (PySem.W.mg_none_of X X2 b_min) (PySem.W.mg_none_of X X2 b_len)
  have oP : FnOk G.prog G.w G.K G.mg G.base (L2.CX G.prog G.w) 1 f_l_pot _ ["_law_script", "_law_place"] (spPot G.K) := ok_pot F_l_pot sc_l_pot rfl (by decide) (by decide) rfl rfl rfl rfl rfl rfl (PySem.W.mg_none_of X X2 b_int) (PySem.W.mg_none_of X X2 b_abs) (PySem.W.mg_none_of X X2 b_len)
  exact ok_lawF (G := G) (N := []) F_law sc_law rfl rfl (by decide) (by decide) rfl (loc_of rfl) rfl rfl oC (PySem.W.mg_of X X2 a_l_cells) k_l_cells bC oP (PySem.W.mg_of X X2 a_l_pot) k_l_pot bP (d_law T c_l_right_1) law_run
theorem walk {l : PySem.W.OpenLaw} {q : Program} {loose : List Str} {XP : (Str → Option Value) → Heap → Prop} {YP : World → Heap → Prop} {d : DefRec} {K : Params → PySem.W.Frag} (hn : l.most = some 63) (hdf : d.params.defaults = [])
    (hY : ∀ (w : World) (h : Heap), YP w h → (K w.params).In h)
    (F : ∀ (w : World) (mg : Str → Option Value) (fa : Addr) (h : Heap), (K w.params).In h → h.Ns mainGlobals mg → mg d.name = some (.ref fa) →
      ∃ fd : FuncData, (∀ (s : Shared) (u : Value), BindsTo s fd ⟨[u], []⟩ [("_law_script", u)]) ∧ ∀ base : Heap, (K w.params).In base → base.Ns mainGlobals mg → FnOk l.prog w (K w.params) mg base (L2.CX l.prog w) 7 fa fd ["_law_script"] (spLaw (K w.params))) :
    PySem.W.WalkO q loose XP YP l.row.toRowW d [] (fun f vs => PySem.call f vs) :=
  L2.walk_of (n := 63) (k := 7) (x := "_law_script") (CX := fun w => L2.CX l.prog w) (sp := fun w => spLaw (K w.params)) hn (by decide) hdf ⟨rfl, by decide, by decide⟩ hY F (fun _ _ a ns hl _ hS => ⟨a, ns, rfl, hS, hl, fun _ => rfl⟩) fun w H s e s' ⟨_, _, _, _, _, _, _, _, _, _, _, _, z⟩ => z
end VL
open PySem PySem.W PyProof.Rows
set_option maxRecDepth 100000 in
set_option maxHeartbeats 0 in
theorem PySem.Challenge.cw_sparebooks_k10_ways_around_and_lots_holds : PySem.Challenge.rw_sparebooks_k10_ways_around_and_lots.Holds := by
  w_on; o_law; k_head; (case hw => w_witness2)
  k_fill
  refine VL.walk (l := PySem.Challenge.rw_sparebooks_k10_ways_around_and_lots) rfl rfl (fun w h Y => PySem.W.kIn_of Y) ?F
  case F =>
    intro w mg fa h KX X2 hmg
    refine' VL.all_mk KX X2 hmg ?aC_Web ?pg_Web ?ic_Web ?po_Web ?sa_Web ?g_MOST_HOUSES ?g_MOST_LANES ?g_MOST_LETTERS ?g_PAIR ?g_TRIPLE ?b_all ?b_dict ?b_enumerate ?b_int ?b_isinstance ?b_len ?b_list ?b_min ?b_range ?b_set ?b_str ?b_tuple ?b_zip ?sa1_Web_own_gate ?sa2_Web_own_gate ?sa3_Web_own_gate ?sa4_Web_own_gate ?sa5_Web_own_gate ?sa1_Web_own_home ?sa2_Web_own_home ?sa3_Web_own_home ?sa4_Web_own_home ?sa5_Web_own_home ?sa1_Web_own_houses ?sa2_Web_own_houses ?sa3_Web_own_houses ?sa4_Web_own_houses ?sa5_Web_own_houses ?sa1_Web_own_lanes ?sa2_Web_own_lanes ?sa3_Web_own_lanes ?sa4_Web_own_lanes ?sa5_Web_own_lanes ?sa1_Web_own_text ?sa2_Web_own_text ?sa3_Web_own_text ?sa4_Web_own_text ?sa5_Web_own_text ?g_AROUND ?g_BLANK ?g_FEED ?g_GATE ?g_HOUSE ?g_LANE ?g_LETTERS ?g_MUST ?a_l_cells ?l_l_cells ?c_l_cells ?k_l_cells ?a_l_pot ?l_l_pot ?c_l_pot ?k_l_pot ?b_max ?b_abs ?a_law ?l_law ?c_law ?k_law ?a_l_take ?l_l_take ?c_l_take ?k_l_take ?a_l_some ?l_l_some ?c_l_some ?k_l_some ?a_l_names ?l_l_names ?c_l_names ?k_l_names ?a_l_of ?l_l_of ?c_l_of ?k_l_of ?a_l_drawn ?l_l_drawn ?c_l_drawn ?k_l_drawn ?a_l_lore ?l_l_lore ?c_l_lore ?k_l_lore ?a_is_name ?l_is_name ?c_is_name ?k_is_name ?a_name_in ?l_name_in ?c_name_in ?k_name_in ?a_lane_in ?l_lane_in ?c_lane_in ?k_lane_in ?a_taken ?l_taken ?c_taken ?k_taken ?a_comers ?l_comers ?c_comers ?k_comers ?lT_comers ?lU_comers_0 ?a_Web_init ?i_Web_init ?m_Web ?kC_Web ?l_Web_init ?c_Web_init ?k_Web_init ?a_l_lines ?l_l_lines ?c_l_lines ?k_l_lines ?a_l_text ?l_l_text ?c_l_text ?k_l_text ?a_l_comers ?l_l_comers ?c_l_comers ?k_l_comers ?a_l_home ?l_l_home ?c_l_home ?k_l_home ?a_is_one_of ?l_is_one_of ?c_is_one_of ?k_is_one_of ?a_Web_check_house ?i_Web_check_house ?l_Web_check_house ?c_Web_check_house ?k_Web_check_house ?a_Web_check_home ?i_Web_check_home ?l_Web_check_home ?c_Web_check_home ?k_Web_check_home ?a_houses_above ?l_houses_above ?c_houses_above ?k_houses_above ?q1_Web_home ?q2_Web_home ?q3_Web_home ?q4_Web_home ?l_Web_home ?c_Web_home ?k_Web_home ?q1_Web_gate ?q2_Web_gate ?q3_Web_gate ?q4_Web_gate ?l_Web_gate ?c_Web_gate ?k_Web_gate ?q1_Web_lanes ?q2_Web_lanes ?q3_Web_lanes ?q4_Web_lanes ?l_Web_lanes ?c_Web_lanes ?k_Web_lanes ?a_musts_by_house ?l_musts_by_house ?c_musts_by_house ?k_musts_by_house ?a_tree_of ?l_tree_of ?c_tree_of ?k_tree_of ?a_musts ?l_musts ?c_musts ?k_musts ?q1_Web_houses ?q2_Web_houses ?q3_Web_houses ?q4_Web_houses ?l_Web_houses ?c_Web_houses ?k_Web_houses ?a_check_two ?l_check_two ?c_check_two ?k_check_two ?a_Web_way_without ?i_Web_way_without ?l_Web_way_without ?c_Web_way_without ?k_Web_way_without ?a_reached ?l_reached ?c_reached ?k_reached ?a_around ?l_around ?c_around ?k_around ?a_l_is_way ?l_l_is_way ?c_l_is_way ?k_l_is_way ?a_l_is_lot ?l_l_is_lot ?c_l_is_lot ?k_l_is_lot ?a_l_is_due ?l_l_is_due ?c_l_is_due ?k_l_is_due ?a_is_tuple ?l_is_tuple ?c_is_tuple ?k_is_tuple ?lT_is_tuple ?a_are_strings ?l_are_strings ?c_are_strings ?k_are_strings ?a_Web_is_way ?i_Web_is_way ?l_Web_is_way ?c_Web_is_way ?k_Web_is_way ?a_is_in_sequence ?l_is_in_sequence ?c_is_in_sequence ?k_is_in_sequence ?a_shows_around ?l_shows_around ?c_shows_around ?k_shows_around ?a_l_right ?l_l_right ?c_l_right ?k_l_right
    (case aC_Web => k_is); (case pg_Web => k_is); (case ic_Web => k_is); (case po_Web => k_is); (case sa_Web => k_is); (case g_MOST_HOUSES => k_is); (case g_MOST_LANES => k_is); (case g_MOST_LETTERS => k_is)
    (case g_PAIR => k_is); (case g_TRIPLE => k_is); (case b_all => k_is); (case b_dict => k_is); (case b_enumerate => k_is); (case b_int => k_is); (case b_isinstance => k_is); (case b_len => k_is)
    (case b_list => k_is); (case b_min => k_is); (case b_range => k_is); (case b_set => k_is); (case b_str => k_is); (case b_tuple => k_is); (case b_zip => k_is); (case sa1_Web_own_gate => k_is)
    (case sa2_Web_own_gate => k_is); (case sa3_Web_own_gate => k_is); (case sa4_Web_own_gate => k_is); (case sa5_Web_own_gate => k_is); (case sa1_Web_own_home => k_is); (case sa2_Web_own_home => k_is); (case sa3_Web_own_home => k_is); (case sa4_Web_own_home => k_is)
    (case sa5_Web_own_home => k_is); (case sa1_Web_own_houses => k_is); (case sa2_Web_own_houses => k_is); (case sa3_Web_own_houses => k_is); (case sa4_Web_own_houses => k_is); (case sa5_Web_own_houses => k_is); (case sa1_Web_own_lanes => k_is); (case sa2_Web_own_lanes => k_is)
    (case sa3_Web_own_lanes => k_is); (case sa4_Web_own_lanes => k_is); (case sa5_Web_own_lanes => k_is); (case sa1_Web_own_text => k_is); (case sa2_Web_own_text => k_is); (case sa3_Web_own_text => k_is); (case sa4_Web_own_text => k_is); (case sa5_Web_own_text => k_is)
    (case g_AROUND => k_is); (case g_BLANK => k_is); (case g_FEED => k_is); (case g_GATE => k_is); (case g_HOUSE => k_is); (case g_LANE => k_is); (case g_LETTERS => k_is); (case g_MUST => k_is)
    (case a_l_cells => k_is); (case l_l_cells => k_is); (case c_l_cells => k_is); (case k_l_cells => k_is); (case a_l_pot => k_is); (case l_l_pot => k_is); (case c_l_pot => k_is); (case k_l_pot => k_is)
    (case b_max => k_is); (case b_abs => k_is); (case a_law => k_is); (case l_law => k_is); (case c_law => k_is); (case k_law => k_is); (case a_l_take => k_is); (case l_l_take => k_is)
    (case c_l_take => k_is); (case k_l_take => k_is); (case a_l_some => k_is); (case l_l_some => k_is); (case c_l_some => k_is); (case k_l_some => k_is); (case a_l_names => k_is); (case l_l_names => k_is)
    (case c_l_names => k_is); (case k_l_names => k_is); (case a_l_of => k_is); (case l_l_of => k_is); (case c_l_of => k_is); (case k_l_of => k_is); (case a_l_drawn => k_is); (case l_l_drawn => k_is)
    (case c_l_drawn => k_is); (case k_l_drawn => k_is); (case a_l_lore => k_is); (case l_l_lore => k_is); (case c_l_lore => k_is); (case k_l_lore => k_is); (case a_is_name => k_is); (case l_is_name => k_is)
    (case c_is_name => k_is); (case k_is_name => k_is); (case a_name_in => k_is); (case l_name_in => k_is); (case c_name_in => k_is); (case k_name_in => k_is); (case a_lane_in => k_is); (case l_lane_in => k_is)
    (case c_lane_in => k_is); (case k_lane_in => k_is); (case a_taken => k_is); (case l_taken => k_is); (case c_taken => k_is); (case k_taken => k_is); (case a_comers => k_is); (case l_comers => k_is)
    (case c_comers => k_is); (case k_comers => k_is); (case lT_comers => k_is); (case lU_comers_0 => k_is); (case a_Web_init => k_is); (case i_Web_init => k_is); (case m_Web => k_is); (case kC_Web => k_is)
    (case l_Web_init => k_is); (case c_Web_init => k_is); (case k_Web_init => k_is); (case a_l_lines => k_is); (case l_l_lines => k_is); (case c_l_lines => k_is); (case k_l_lines => k_is); (case a_l_text => k_is)
    (case l_l_text => k_is); (case c_l_text => k_is); (case k_l_text => k_is); (case a_l_comers => k_is); (case l_l_comers => k_is); (case c_l_comers => k_is); (case k_l_comers => k_is); (case a_l_home => k_is)
    (case l_l_home => k_is); (case c_l_home => k_is); (case k_l_home => k_is); (case a_is_one_of => k_is); (case l_is_one_of => k_is); (case c_is_one_of => k_is); (case k_is_one_of => k_is); (case a_Web_check_house => k_is)
    (case i_Web_check_house => k_is); (case l_Web_check_house => k_is); (case c_Web_check_house => k_is); (case k_Web_check_house => k_is); (case a_Web_check_home => k_is); (case i_Web_check_home => k_is); (case l_Web_check_home => k_is); (case c_Web_check_home => k_is)
    (case k_Web_check_home => k_is); (case a_houses_above => k_is); (case l_houses_above => k_is); (case c_houses_above => k_is); (case k_houses_above => k_is); (case q1_Web_home => k_is); (case q2_Web_home => k_is); (case q3_Web_home => k_is)
    (case q4_Web_home => k_is); (case l_Web_home => k_is); (case c_Web_home => k_is); (case k_Web_home => k_is); (case q1_Web_gate => k_is); (case q2_Web_gate => k_is); (case q3_Web_gate => k_is); (case q4_Web_gate => k_is)
    (case l_Web_gate => k_is); (case c_Web_gate => k_is); (case k_Web_gate => k_is); (case q1_Web_lanes => k_is); (case q2_Web_lanes => k_is); (case q3_Web_lanes => k_is); (case q4_Web_lanes => k_is); (case l_Web_lanes => k_is)
    (case c_Web_lanes => k_is); (case k_Web_lanes => k_is); (case a_musts_by_house => k_is); (case l_musts_by_house => k_is); (case c_musts_by_house => k_is); (case k_musts_by_house => k_is); (case a_tree_of => k_is); (case l_tree_of => k_is)
    (case c_tree_of => k_is); (case k_tree_of => k_is); (case a_musts => k_is); (case l_musts => k_is); (case c_musts => k_is); (case k_musts => k_is); (case q1_Web_houses => k_is); (case q2_Web_houses => k_is)
    (case q3_Web_houses => k_is); (case q4_Web_houses => k_is); (case l_Web_houses => k_is); (case c_Web_houses => k_is); (case k_Web_houses => k_is); (case a_check_two => k_is); (case l_check_two => k_is); (case c_check_two => k_is)
    (case k_check_two => k_is); (case a_Web_way_without => k_is); (case i_Web_way_without => k_is); (case l_Web_way_without => k_is); (case c_Web_way_without => k_is); (case k_Web_way_without => k_is); (case a_reached => k_is); (case l_reached => k_is)
    (case c_reached => k_is); (case k_reached => k_is); (case a_around => k_is); (case l_around => k_is); (case c_around => k_is); (case k_around => k_is); (case a_l_is_way => k_is); (case l_l_is_way => k_is)
    (case c_l_is_way => k_is); (case k_l_is_way => k_is); (case a_l_is_lot => k_is); (case l_l_is_lot => k_is); (case c_l_is_lot => k_is); (case k_l_is_lot => k_is); (case a_l_is_due => k_is); (case l_l_is_due => k_is)
    (case c_l_is_due => k_is); (case k_l_is_due => k_is); (case a_is_tuple => k_is); (case l_is_tuple => k_is); (case c_is_tuple => k_is); (case k_is_tuple => k_is); (case lT_is_tuple => k_is); (case a_are_strings => k_is)
    (case l_are_strings => k_is); (case c_are_strings => k_is); (case k_are_strings => k_is); (case a_Web_is_way => k_is); (case i_Web_is_way => k_is); (case l_Web_is_way => k_is); (case c_Web_is_way => k_is); (case k_Web_is_way => k_is)
    (case a_is_in_sequence => k_is); (case l_is_in_sequence => k_is); (case c_is_in_sequence => k_is); (case k_is_in_sequence => k_is); (case a_shows_around => k_is); (case l_shows_around => k_is); (case c_shows_around => k_is); (case k_shows_around => k_is)
    (case a_l_right => k_is); (case l_l_right => k_is); (case c_l_right => k_is); (case k_l_right => k_is)
#print axioms PySem.Challenge.cw_sparebooks_k10_ways_around_and_lots_holds
